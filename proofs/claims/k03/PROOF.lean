import PyProof.Rows.All
import PyProof.ReprLen
import Wide.All
import OpenK.AllK
import Wide.FinOn
import HandS.ForMost
import HandS.ForExc
import HandS.Lambda
import HandS.CallSlots
import HandS.Defaults
import HandS.ExcInit
import HandS.ExcValue
import HandS.TupAny
import HandS.IsInst
import HandS.ExcField
import KE.KExcIs
import HandS.Style
import PyProof.ReprRoads
import HandS.ExcOwn
import HandS.RaiseMore
import HandS.Wide
import HandS.EndTab
import HandS.SlotsOwn
import KE.KOpsOwn
import HandS.FStr
import HandS.OwnEq
import KE.KCallOwn
import HandS.ClsMeth
import HandS.Text
import HandS.Property
import HandS.SetFor
import HandS.TupSets
import HandS.Strs
import HandS.Star
import HandS.Zip
import HandS.IterVal
import KE.KOwnIter
import PyProof.FString5
import KE.KFmtOwn
import HandS.TupMul
import HandS.OwnIter
import HandS.ReplaceLit
import HandS.Iter
import KE.GoesMore
import HandS.DictComp
import HandS.More
import OpenK.KOps
import HandS.Records
import HandS.NoneIn
import PyProof.Rows.Range3
import PyProof.Conv_bool
import KE.KEqDict
import PyProof.NeKinds
import PySem.Challenge.RW_emptypulls_k03_whole_rates_reckoned_and
set_option Elab.async false
set_option linter.all false
set_option maxRecDepth 100000
set_option maxHeartbeats 0
set_option autoImplicit false
/-! Value semantics over the hand layer: data, the pen's monad, mirrors. -/
namespace ME
open PySem L2

/-- a Python value as plain data -/
inductive D where
  | non
  | bl (b : Bool)
  | int (i : Int)
  | str (x : Str)
  | tup (l : List D)
  | lst (l : List D)
  | dct (l : List (Key × D))
  | obj (c : Nat) (fs : List D)
  | exc (c : Nat) (fs : List D)
  | cls (c : Nat)
  | ty (n : String)
  | pen
  | clo (k : Nat)
  deriving Inhabited

/-- the law's pen: the cells, the number of the next one, what is left of a great one -/
structure Pn where
  cells : List Int
  no : Int
  rest : Int

inductive Out (α : Type) where
  | ok (a : α)
  | ex (c : Nat) (fs : List D)

/-- none: nothing is claimed -/
noncomputable abbrev M (α : Type) := Pn → Option (Out α × Pn)

noncomputable def M.ret {α : Type} (a : α) : M α := fun p => some (.ok a, p)
noncomputable def M.err {α : Type} (c : Nat) (fs : List D) : M α := fun p => some (.ex c fs, p)
noncomputable def M.stuck {α : Type} : M α := fun _ => none
noncomputable def M.bnd {α β : Type} (m : M α) (k : α → M β) : M β := fun p => match m p with
  | none => none
  | some (.ok a, p') => k a p'
  | some (.ex c fs, p') => some (.ex c fs, p')
noncomputable instance : Monad M where
  pure := M.ret
  bind := M.bnd
noncomputable def M.opt {α : Type} : Option α → M α
  | some a => M.ret a
  | none => M.stuck

/-- a slot: a value, or an own list, dict, instance that is still being made -/
inductive Sl where
  | d (x : D)
  | ml (xs : List D)
  | md (kvs : List (Key × D))
  | mo (c : Nat) (fs : List D)
noncomputable abbrev DS := List (Option Sl)
noncomputable abbrev EX := DS → M D
noncomputable abbrev TX := DS → M Bool
noncomputable abbrev AX := DS → M (List D)

/-- where a statement ends -/
inductive Fl where
  | nx (δ : DS)
  | rt (d : D)
  | bk (δ : DS)
  | ct (δ : DS)
  | er (c : Nat) (fs : List D) (δ : DS)
noncomputable abbrev SX := DS → Pn → Option (Fl × Pn)

end ME

namespace ME
open PySem L2

/-- the classes: names of the attributes in the order of their stores, addresses -/
structure Sg where
  K : PySem.W.Frag
  nm : Nat → List Str
  ca : Nat → Addr
  T : List (Addr × Str)

/-- an exception object at a, of the class at C, its own dict at d -/
noncomputable def ExV (a C : Addr) (d : Option Addr) : HO := .ext fun h => ∃ oe vs, h.get? a = some oe ∧ Zc (.ref C) d oe ∧ oe.data = .fields vs
theorem ExV_ok {P : Program} {w : World} {H : Hp} {h : Heap} {a C : Addr} {d : Option Addr} {oe : Obj} {vs : Array Value} (e : h.get? a = some oe) (z : Zc (.ref C) d oe) (hd : oe.data = .fields vs) : ObjOk P w H h a (ExV a C d) :=
  ⟨⟨oe, vs, e, z, hd⟩, ⟨oe, e⟩, fun h1 h2 ⟨oe, vs, e, z, q⟩ k => ⟨oe, vs, k oe e, z, q⟩⟩
mutual
inductive Rep (S : Sg) (G : Hp) (pen : Addr) : V → D → Prop
  | non : Rep S G pen .non .non
  | bl (b : Bool) : Rep S G pen (.bl b) (.bl b)
  | int (i : Int) : Rep S G pen (.int i) (.int i)
  | str (x : Str) : Rep S G pen (.str x) (.str x)
  | tup {a : Addr} {vs : List V} {ds : List D} : SqT S.K G a vs → Reps S G pen vs ds → Rep S G pen (.ref a) (.tup ds)
  | lst {a : Addr} {vs : List V} {ds : List D} : G a = some (.lst vs) → Reps S G pen vs ds → Rep S G pen (.ref a) (.lst ds)
  | dct {a : Addr} {ob : Obj} {kvs : List (Key × V)} {ds : List (Key × D)} : G a = some (.frz ob (.dK kvs)) → RepK S G pen kvs ds → Rep S G pen (.ref a) (.dct ds)
  | obj {a dx : Addr} {c : Nat} {vs : List V} {ds : List D} : G a = some (.ins (S.ca c) dx ((S.nm c).zip vs)) → vs.length = (S.nm c).length → Reps S G pen vs ds → Rep S G pen (.ref a) (.obj c ds)
  | exc {a d : Addr} {c : Nat} {fs : List (Str × V)} {vs : List V} {ds : List D} : G a = some (ExV a (S.ca c) (some d)) → G d = some (.xd fs) → (∀ f, fs.lookup f = ((S.nm c).zip vs).lookup f) → vs.length = (S.nm c).length → Reps S G pen vs ds → Rep S G pen (.ref a) (.exc c ds)
  | exc0 {a : Addr} {c : Nat} : G a = some (ExV a (S.ca c) none) → Rep S G pen (.ref a) (.exc c [])
  | cls (c : Nat) : Rep S G pen (.ref (S.ca c)) (.cls c)
  | ty (n : String) : Rep S G pen (.ty n) (.ty n)
  | pen : Rep S G pen (.ref pen) .pen
  | clo (f : Addr) : Rep S G pen (.ref f) (.clo f)
inductive Reps (S : Sg) (G : Hp) (pen : Addr) : List V → List D → Prop
  | nil : Reps S G pen [] []
  | cons {v : V} {vs : List V} {d : D} {ds : List D} : Rep S G pen v d → Reps S G pen vs ds → Reps S G pen (v :: vs) (d :: ds)
inductive RepK (S : Sg) (G : Hp) (pen : Addr) : List (Key × V) → List (Key × D) → Prop
  | nil : RepK S G pen [] []
  | cons {k : Key} {v : V} {vs : List (Key × V)} {d : D} {ds : List (Key × D)} : Rep S G pen v d → RepK S G pen vs ds → RepK S G pen ((k, v) :: vs) ((k, d) :: ds)
end

/-- all that stands in G stands in H -/
noncomputable def Sub (G H : Hp) : Prop := ∀ a o, G a = some o → H a = some o
theorem Sub.refl (G : Hp) : Sub G G := fun _ _ e => e
theorem Sub.trans {A B C : Hp} (h : Sub A B) (k : Sub B C) : Sub A C := fun a o e => k a o (h a o e)
theorem Sub.rd {G H : Hp} (s : Sub G H) {a : Addr} {u : HO} (r : Rd G a u) : Rd H a u := by
  rcases r with r | ⟨o, r⟩
  · exact .inl (s a _ r)
  · exact .inr ⟨o, s a _ r⟩
theorem Sub.sqt {G H : Hp} {K : PySem.W.Frag} (s : Sub G H) {a : Addr} {xs : List V} (r : SqT K G a xs) : SqT K H a xs := by
  rcases r with r | r
  · exact .inl (s.rd r)
  · exact .inr r

section
variable {S : Sg} {G G' : Hp} {pen : Addr}
mutual
theorem Rep.mono (s : Sub G G') : ∀ {v : V} {d : D}, Rep S G pen v d → Rep S G' pen v d
  | _, _, .non => .non
  | _, _, .bl b => .bl b
  | _, _, .int b => .int b
  | _, _, .str b => .str b
  | _, _, .tup h r => .tup (s.sqt h) (Reps.mono s r)
  | _, _, .lst h r => .lst (s _ _ h) (Reps.mono s r)
  | _, _, .dct h r => .dct (s _ _ h) (RepK.mono s r)
  | _, _, .obj h l r => .obj (s _ _ h) l (Reps.mono s r)
  | _, _, .exc h h2 h3 l r => .exc (s _ _ h) (s _ _ h2) h3 l (Reps.mono s r)
  | _, _, .exc0 h => .exc0 (s _ _ h)
  | _, _, .cls c => .cls c
  | _, _, .ty n => .ty n
  | _, _, .pen => .pen
  | _, _, .clo f => .clo f
theorem Reps.mono (s : Sub G G') : ∀ {v : List V} {d : List D}, Reps S G pen v d → Reps S G' pen v d
  | _, _, .nil => .nil
  | _, _, .cons h r => .cons (Rep.mono s h) (Reps.mono s r)
theorem RepK.mono (s : Sub G G') : ∀ {v : List (Key × V)} {d : List (Key × D)}, RepK S G pen v d → RepK S G' pen v d
  | _, _, .nil => .nil
  | _, _, .cons h r => .cons (Rep.mono s h) (RepK.mono s r)
end
theorem Reps.length : ∀ {vs : List V} {ds : List D}, Reps S G pen vs ds → vs.length = ds.length
  | _, _, .nil => rfl
  | _, _, .cons _ r => by simp [Reps.length r]
theorem Reps.isEmpty : ∀ {vs : List V} {ds : List D}, Reps S G pen vs ds → vs.isEmpty = ds.isEmpty
  | _, _, .nil => rfl
  | _, _, .cons _ _ => rfl
theorem RepK.length : ∀ {vs : List (Key × V)} {ds : List (Key × D)}, RepK S G pen vs ds → vs.length = ds.length
  | _, _, .nil => rfl
  | _, _, .cons _ r => by simp [RepK.length r]
theorem Reps.append : ∀ {vs us : List V} {ds es : List D}, Reps S G pen vs ds → Reps S G pen us es → Reps S G pen (vs ++ us) (ds ++ es)
  | _, _, _, _, .nil, h => h
  | _, _, _, _, .cons h r, k => .cons h (Reps.append r k)
theorem Reps.get : ∀ {vs : List V} {ds : List D} {i : Nat} {d : D}, Reps S G pen vs ds → ds[i]? = some d → ∃ v, vs[i]? = some v ∧ Rep S G pen v d
  | _, _, _, _, .nil, e => by simp at e
  | _, _, 0, _, .cons h _, e => by simp at e; subst e; exact ⟨_, rfl, h⟩
  | _, _, i + 1, _, .cons _ r, e => by
    obtain ⟨v, h1, h2⟩ := Reps.get (i := i) r (by simpa using e)
    exact ⟨v, by simpa using h1, h2⟩
theorem Reps.getV : ∀ {vs : List V} {ds : List D} {i : Nat} {v : V}, Reps S G pen vs ds → vs[i]? = some v → ∃ d, ds[i]? = some d ∧ Rep S G pen v d
  | _, _, _, _, .nil, e => by simp at e
  | _, _, 0, _, .cons h _, e => by simp at e; subst e; exact ⟨_, rfl, h⟩
  | _, _, i + 1, _, .cons _ r, e => by
    obtain ⟨v, h1, h2⟩ := Reps.getV (i := i) r (by simpa using e)
    exact ⟨v, by simpa using h1, h2⟩
end

/-- the world: what is frozen, the pen, the tables -/
structure Wd (S : Sg) (pen : Addr) (G H : Hp) (p : Pn) : Prop where
  sub : Sub G H
  np : G pen = none
  pn : ∃ l, H pen = some (.lst [.ref l, .int p.no, .int p.rest]) ∧ G l = some (.lst (p.cells.map V.int))
  tabs : LamX.Tabs S.T H
  gt : ∀ q ∈ S.T, G q.1 = none
/-- what a piece of code leaves as it was -/
structure Ex (pen : Addr) (G H G' H' : Hp) : Prop where
  sub : Sub G G'
  keep : ∀ a o, a ≠ pen → (∀ x, o ≠ .tbl x) → H a = some o → H' a = some o
  dom : ∀ a, H' a = none → H a = none
  un : ∀ a, G a = none → H a ≠ none → G' a = none
theorem Ex.refl {pen : Addr} {G H : Hp} : Ex pen G H G H := ⟨Sub.refl _, fun _ _ _ _ e => e, fun _ e => e, fun _ e _ => e⟩
theorem Ex.trans {pen : Addr} {G H G1 H1 G2 H2 : Hp} (a : Ex pen G H G1 H1) (b : Ex pen G1 H1 G2 H2) : Ex pen G H G2 H2 :=
  ⟨a.sub.trans b.sub, fun c o h1 h2 e => b.keep c o h1 h2 (a.keep c o h1 h2 e), fun c e => a.dom c (b.dom c e), fun c e n => b.un c (a.un c e n) fun z => n (a.dom c z)⟩
section
variable {S : Sg} {pen a : Addr} {G H : Hp} {p : Pn} {o : HO}
theorem Wd.ne (w : Wd S pen G H p) (h : H a = none) : a ≠ pen := by
  obtain ⟨l, e, _⟩ := w.pn
  intro z; subst z; rw [e] at h; cases h
theorem Wd.gfree (w : Wd S pen G H p) (h : H a = none) : G a = none := by
  cases e : G a with
  | none => rfl
  | some u => rw [w.sub a u e] at h; cases h
theorem Sub.alloc (h : G a = none) : Sub G (upd G a o) := fun b u e => by
  have : b ≠ a := fun z => by rw [z, h] at e; cases e
  rw [upd_ne this]; exact e
/-- a new object that is frozen at once -/
theorem Wd.alloc (w : Wd S pen G H p) (h : H a = none) : Wd S pen (upd G a o) (upd H a o) p := by
  have na := w.ne h
  obtain ⟨l, e, c⟩ := id w.pn
  have tn : ∀ q ∈ S.T, q.1 ≠ a := fun q hq z => by
    obtain ⟨ps, hP, _⟩ := w.tabs q hq
    rw [z, h] at hP; cases hP
  refine ⟨fun b u q => ?_, ?_, ⟨l, ?_, Sub.alloc (w.gfree h) _ _ c⟩, ?_, fun q hq => by rw [upd_ne (tn q hq)]; exact w.gt q hq⟩
  · by_cases z : b = a
    · subst z; rw [upd_same] at q ⊢; exact q
    · rw [upd_ne z] at q ⊢; exact w.sub b u q
  · rw [upd_ne (Ne.symm na)]; exact w.np
  · rw [upd_ne (Ne.symm na)]; exact e
  · exact LamX.Tabs.ext w.tabs fun b u q => by rw [upd_ne (ne_of_none q h)]; exact q
/-- a new object that is not frozen -/
theorem Wd.allocM (w : Wd S pen G H p) (h : H a = none) : Wd S pen G (upd H a o) p := by
  have na := w.ne h
  obtain ⟨l, e, c⟩ := id w.pn
  refine ⟨fun b u q => ?_, w.np, ⟨l, ?_, c⟩, ?_, w.gt⟩
  · have := w.sub b u q
    rw [upd_ne (ne_of_none this h)]; exact this
  · rw [upd_ne (Ne.symm na)]; exact e
  · exact LamX.Tabs.ext w.tabs fun b u q => by rw [upd_ne (ne_of_none q h)]; exact q
theorem Ex.alloc (h : H a = none) (hg : G a = none) : Ex pen G H (upd G a o) (upd H a o) :=
  ⟨Sub.alloc hg, fun b u _ _ e => by rw [upd_ne (ne_of_none e h)]; exact e, fun b e => by
    by_cases z : b = a
    · subst z; rw [upd_same] at e; cases e
    · rw [upd_ne z] at e; exact e, fun b e n => by
    have : b ≠ a := fun z => n (by rw [z]; exact h)
    rw [upd_ne this]; exact e⟩
theorem Ex.allocM (h : H a = none) : Ex pen G H G (upd H a o) :=
  ⟨Sub.refl _, fun b u _ _ e => by rw [upd_ne (ne_of_none e h)]; exact e, fun b e => by
    by_cases z : b = a
    · subst z; rw [upd_same] at e; cases e
    · rw [upd_ne z] at e; exact e, fun b e _ => e⟩
end

/-- the fields of an exception in flight -/
noncomputable def RepX (S : Sg) (G : Hp) (pen : Addr) (d : Option Addr) (c : Nat) (ds : List D) : Prop :=
  match d with
  | none => ds = [] ∧ S.nm c = []
  | some x => ∃ fs vs, G x = some (.xd fs) ∧ (∀ f, fs.lookup f = ((S.nm c).zip vs).lookup f) ∧ vs.length = (S.nm c).length ∧ Reps S G pen vs ds
/-- what is claimed behind a piece of code that ends as r -/
noncomputable def Post {α β : Type} (S : Sg) (pen : Addr) (R : Hp → β → α → Prop) (G H : Hp) (Q : β → Hp → Prop) (E : XK) : Option (Out α × Pn) → Prop
  | none => False
  | some (.ok d, p') => ∀ v G' H', Ex pen G H G' H' → Wd S pen G' H' p' → R G' v d → Q v H'
  | some (.ex c fs, p') => ∀ d G' H', Ex pen G H G' H' → Wd S pen G' H' p' → RepX S G' pen d c fs → E (.ref (S.ca c)) d H'
theorem Post.ex {α β : Type} {S : Sg} {pen : Addr} {R : Hp → β → α → Prop} {G H G1 H1 : Hp} {Q : β → Hp → Prop} {E : XK} {r : Option (Out α × Pn)} (x : Ex pen G H G1 H1) (h : Post S pen R G H Q E r) : Post S pen R G1 H1 Q E r := by
  match r, h with
  | some (.ok d, p'), h => exact fun v G' H' e w q => h v G' H' (x.trans e) w q
  | some (.ex c fs, p'), h => exact fun d G' H' e w q => h d G' H' (x.trans e) w q

/-- the slots -/
structure SlR (S : Sg) (pen : Addr) (B G H : Hp) (σ : St) (δ : DS) : Prop where
  len : σ.length = δ.length
  val : ∀ (i : Nat) x, δ[i]? = some (some (.d x)) → ∃ v, σ[i]? = some (some v) ∧ Rep S G pen v x
  ml : ∀ (i : Nat) xs, δ[i]? = some (some (.ml xs)) → ∃ l vs, σ[i]? = some (some (.ref l)) ∧ H l = some (.lst vs) ∧ Reps S G pen vs xs ∧ G l = none ∧ B l = none ∧ l ≠ pen
  md : ∀ (i : Nat) xs, δ[i]? = some (some (.md xs)) → ∃ l vs, σ[i]? = some (some (.ref l)) ∧ H l = some (.dK vs) ∧ RepK S G pen vs xs ∧ G l = none ∧ B l = none ∧ l ≠ pen
  mo : ∀ (i : Nat) c xs, δ[i]? = some (some (.mo c xs)) → ∃ l dx vs, σ[i]? = some (some (.ref l)) ∧ H l = some (.ins (S.ca c) dx (((S.nm c).take xs.length).zip vs)) ∧ Reps S G pen vs xs ∧ xs.length ≤ (S.nm c).length ∧ G l = none ∧ l ≠ pen ∧ B l = some (.tbl #[.ref dx])
  inj : ∀ (i j : Nat) s t l, δ[i]? = some (some s) → δ[j]? = some (some t) → (∀ x, s ≠ .d x) → (∀ x, t ≠ .d x) → σ[i]? = some (some (.ref l)) → σ[j]? = some (some (.ref l)) → i = j
theorem SlR.ex {S : Sg} {pen : Addr} {B G H G' H' : Hp} {σ : St} {δ : DS} (h : SlR S pen B G H σ δ) (x : Ex pen G H G' H') : SlR S pen B G' H' σ δ where
  len := h.len
  val := fun i y e => by obtain ⟨v, h1, h2⟩ := h.val i y e; exact ⟨v, h1, h2.mono x.sub⟩
  ml := fun i xs e => by
    obtain ⟨l, vs, h1, h2, h3, h4, h5, h6⟩ := h.ml i xs e
    exact ⟨l, vs, h1, x.keep l _ h6 (fun _ z => nomatch z) h2, h3.mono x.sub, x.un l h4 (by rw [h2]; simp), h5, h6⟩
  md := fun i xs e => by
    obtain ⟨l, vs, h1, h2, h3, h4, h5, h6⟩ := h.md i xs e
    exact ⟨l, vs, h1, x.keep l _ h6 (fun _ z => nomatch z) h2, h3.mono x.sub, x.un l h4 (by rw [h2]; simp), h5, h6⟩
  mo := fun i c xs e => by
    obtain ⟨l, dx, vs, h1, h2, h3, h4, h5, h6⟩ := h.mo i c xs e
    exact ⟨l, dx, vs, h1, x.keep l _ h6.1 (fun _ z => nomatch z) h2, h3.mono x.sub, h4, x.un l h5 (by rw [h2]; simp), h6⟩
  inj := h.inj
end ME

namespace ME
open PySem L2

noncomputable abbrev Rl (β α : Type) := Hp → β → α → Prop
noncomputable def Rl.Mono {β α : Type} (R : Rl β α) : Prop := ∀ G G' b a, Sub G G' → R G b a → R G' b a
noncomputable def r0 : Rl Unit Unit := fun _ _ _ => True
noncomputable def rB : Rl Bool Bool := fun _ b d => b = d
noncomputable def rP {β α γ κ : Type} (R : Rl β α) (R' : Rl γ κ) : Rl (β × γ) (α × κ) := fun G b a => R G b.1 a.1 ∧ R' G b.2 a.2
theorem r0_mono : r0.Mono := fun _ _ _ _ _ _ => trivial
theorem rP_mono {β α γ κ : Type} {R : Rl β α} {R' : Rl γ κ} (h : R.Mono) (h' : R'.Mono) : (rP R R').Mono := fun G G' b a s x => ⟨h G G' _ _ s x.1, h' G G' _ _ s x.2⟩

/-- where a body stands: the classes, the pen, the heap at the entry, the wish about exceptions -/
structure Am where
  S : Sg
  pen : Addr
  G0 : Hp
  B : Hp
  W : WX
noncomputable def Am.rE (a : Am) : Rl V D := fun G v d => Rep a.S G a.pen v d
noncomputable def Am.rA (a : Am) : Rl (List V) (List D) := fun G v d => Reps a.S G a.pen v d
theorem rE_mono (a : Am) : a.rE.Mono := fun _ _ _ _ s h => Rep.mono s h
theorem rA_mono (a : Am) : a.rA.Mono := fun _ _ _ _ s h => Reps.mono s h

/-- b at hand stands for some a; go on with k a -/
noncomputable def tY {β0 α0 β α : Type} (m : Am) (R0 : Rl β0 α0) (R : Rl β α) (b : β0) (k : α0 → DS → M α) (σ : St) (H : Hp) (Q : β → Hp → Prop) : Prop :=
  ∃ G p δ a, Wd m.S m.pen G H p ∧ SlR m.S m.pen m.B G H σ δ ∧ R0 G b a ∧ Post m.S m.pen R G H Q (fun c d H' => m.W c d σ H') (k a δ p)
noncomputable def tE (m : Am) (e : EX) : TE := fun σ H Q => tY m r0 m.rE () (fun _ => e) σ H Q
noncomputable def tT (m : Am) (e : TX) : TT := fun σ H Q => tY m r0 rB () (fun _ => e) σ H Q
noncomputable def tAs (m : Am) (e : AX) : TA := fun σ H Q => tY m r0 m.rA () (fun _ => e) σ H Q

section
variable {m : Am} {β0 α0 β1 α1 β α : Type} {R0 : Rl β0 α0} {R1 : Rl β1 α1} {R : Rl β α} {b : β0} {σ : St} {H : Hp}
/-- THE STEP: first e, then k -/
theorem tY_bind {e : DS → M α1} {k : α0 → α1 → DS → M α} {Q : β → Hp → Prop} (hm : R0.Mono) (h : tY m R0 R b (fun a δ => (e δ).bnd fun a1 => k a a1 δ) σ H Q) :
    tY m r0 R1 () (fun _ => e) σ H (fun b1 H1 => tY m (rP R0 R1) R (b, b1) (fun a => k a.1 a.2) σ H1 Q) := by
  obtain ⟨G, p, δ, a, w, sl, r, h⟩ := h
  refine ⟨G, p, δ, (), w, sl, trivial, ?_⟩
  dsimp only [M.bnd] at h ⊢
  rcases he : e δ p with _ | ⟨o, p1⟩
  · rw [he] at h; exact h
  · cases o with
    | ok a1 =>
      rw [he] at h
      intro b1 G1 H1 x w1 r1
      exact ⟨G1, p1, δ, (a, a1), w1, sl.ex x, ⟨hm _ _ _ _ x.sub r, r1⟩, Post.ex x h⟩
    | ex c fs => rw [he] at h; exact h
theorem Post.imp {S : Sg} {pen : Addr} {G : Hp} {Q Q' : β → Hp → Prop} {E : XK} {r : Option (Out α × Pn)} (h : Post S pen R G H Q E r) (i : ∀ v H', Q v H' → Q' v H') : Post S pen R G H Q' E r := by
  rcases r with _ | ⟨o, p1⟩
  · exact h
  · cases o with
    | ok a1 => exact fun v G' H' x w q => i v H' (h v G' H' x w q)
    | ex c fs => exact h
theorem tY.imp {k : α0 → DS → M α} {Q Q' : β → Hp → Prop} (h : tY m R0 R b k σ H Q) (i : ∀ v H', Q v H' → Q' v H') : tY m R0 R b k σ H Q' := by
  obtain ⟨G, p, δ, a, w, sl, r, h⟩ := h
  exact ⟨G, p, δ, a, w, sl, r, Post.imp h i⟩
end

theorem PE.imp {X : Cx} {e : Expr} {t t' : TE} (h : PE X e t) (i : ∀ σ H Q, t' σ H Q → t σ H Q) : PE X e t' := ⟨fun pins s σ H Q I q => h.run pins s σ H Q I (i σ H Q q)⟩
theorem PT.imp {X : Cx} {e : Expr} {t t' : TT} (h : PT X e t) (i : ∀ σ H Q, t' σ H Q → t σ H Q) : PT X e t' := ⟨fun pins s σ H Q I q => h.run pins s σ H Q I (i σ H Q q)⟩
theorem PA.imp {X : Cx} {e : List Expr} {t t' : TA} (h : PA X e t) (i : ∀ σ H Q, t' σ H Q → t σ H Q) : PA X e t' := ⟨fun pos pins s σ H Q I q => h.run pos pins s σ H Q I (i σ H Q q)⟩
theorem PS.imp {X : Cx} {e : Stmt} {t t' : TS} (h : PS X e t) (i : ∀ D σ H, t' D σ H → t D σ H) : PS X e t' := ⟨fun pins s σ H D I q => h.run pins s σ H D I (i D σ H q)⟩
theorem PSs.imp {X : Cx} {e : List Stmt} {t t' : TS} (h : PSs X e t) (i : ∀ D σ H, t' D σ H → t D σ H) : PSs X e t' := ⟨fun pins s σ H D I q => h.run pins s σ H D I (i D σ H q)⟩

theorem M.assoc {α β γ : Type} (a : M α) (f : α → M β) (g : β → M γ) : (a.bnd f).bnd g = a.bnd fun x => (f x).bnd g := by
  funext p
  dsimp only [M.bnd]
  rcases a p with _ | ⟨o, p1⟩
  · rfl
  · cases o <;> rfl
/-! ### mirrors of expressions -/
noncomputable def mVar (i : Nat) : EX := fun δ p => match δ[i]? with
  | some (some (.d x)) => some (.ok x, p)
  | _ => none
noncomputable def mC (d : D) : EX := fun _ => M.ret d
noncomputable def mBin (o : D → D → M D) (a b : EX) : EX := fun δ => (a δ).bnd fun x => (b δ).bnd fun y => o x y
noncomputable def mUn (o : D → M D) (a : EX) : EX := fun δ => (a δ).bnd o
noncomputable def mIf (c : TX) (a b : EX) : EX := fun δ => (c δ).bnd fun k => if k = true then a δ else b δ
/-- the truth of a value -/
noncomputable def dTru : D → Option Bool
  | .non => some false
  | .bl b => some b
  | .int i => some (i != 0)
  | .str x => if x.length ≤ 16777216 then some (x.length != 0) else none
  | .tup l => some (!l.isEmpty)
  | .lst l => some (!l.isEmpty)
  | _ => none
noncomputable def dB : D → Option Bool
  | .bl b => some b
  | _ => none
/-- an expression that gives a bool, as a test -/
noncomputable def mTest (a : EX) : TX := fun δ => (a δ).bnd fun x => M.opt (dB x)
noncomputable def mTru (a : EX) : TX := fun δ => (a δ).bnd fun x => M.opt (dTru x)
noncomputable def mNotT (a : TX) : TX := fun δ => (a δ).bnd fun x => M.ret (!x)
noncomputable def mAndT (a b : TX) : TX := fun δ => (a δ).bnd fun x => if x = true then b δ else M.ret false
noncomputable def mOrT (a b : TX) : TX := fun δ => (a δ).bnd fun x => if x = true then M.ret true else b δ
noncomputable def mAndV (a b : EX) : EX := fun δ => (a δ).bnd fun x => (M.opt (dB x)).bnd fun k => if k = true then b δ else M.ret (.bl false)
noncomputable def mOrV (a b : EX) : EX := fun δ => (a δ).bnd fun x => (M.opt (dB x)).bnd fun k => if k = true then M.ret (.bl true) else b δ
noncomputable def mNil : AX := fun _ => M.ret []
noncomputable def mCons (a : EX) (r : AX) : AX := fun δ => (a δ).bnd fun x => (r δ).bnd fun xs => M.ret (x :: xs)
noncomputable def mCall (f : List D → M D) (a : AX) : EX := fun δ => (a δ).bnd f

section
variable {X : Cx} {m : Am} {a b c : Expr} {pos : Pos} {ea eb ec : EX} {ta tb : TX}
theorem me_var {i : Nat} {x : Str} (hN : X.N[i]? = some x) (hv : Vis X.env.scope x) (hd : (x == ("__debug__" : Str)) = false := by decide) (hcd : (x == ("__classdict__" : Str)) = false := by decide) : PE X (.Name x pos) (tE m (mVar i)) := by
  refine PE.imp (pe_var hN hv hd hcd) fun σ H Q h => ?_
  obtain ⟨G, p, δ, _, w, sl, _, h⟩ := h
  dsimp only [mVar] at h
  split at h
  · rename_i x e
    obtain ⟨v, e1, r⟩ := sl.val i x e
    exact ⟨v, e1, h v G H Ex.refl w r⟩
  · exact h.elim
/-- a constant -/
theorem me_c {e : Expr} {v : V} {d : D} (h : PE X e (tC v)) (hr : ∀ G, Rep m.S G m.pen v d) : PE X e (tE m (mC d)) :=
  PE.imp h fun σ H Q ⟨G, p, δ, _, w, sl, _, h⟩ => h v G H Ex.refl w (hr G)
theorem me_int {i : Int} {j : Nat} : PE X (.Constant (.int i) j pos) (tE m (mC (.int i))) := me_c pe_int fun _ => .int i
theorem me_bl {i : Bool} {j : Nat} : PE X (.Constant (.bool i) j pos) (tE m (mC (.bl i))) := me_c pe_bl fun _ => .bl i
theorem me_non {j : Nat} : PE X (.Constant .none j pos) (tE m (mC .non)) := me_c pe_non fun _ => .non
theorem me_str {x : Str} {j : Nat} : PE X (.Constant (.str x) j pos) (tE m (mC (.str x))) := me_c pe_str fun _ => .str x

/-- a rule of two values -/
noncomputable def R2Ok (m : Am) (r : R2) (o : D → D → M D) : Prop := ∀ σ x y H Q, tY m (rP (rP r0 m.rE) m.rE) m.rE (((), x), y) (fun z _ => o z.1.2 z.2) σ H Q → r x y H Q
noncomputable def R1Ok (m : Am) (r : V → Hp → VK → Prop) (o : D → M D) : Prop := ∀ σ x H Q, tY m (rP r0 m.rE) m.rE ((), x) (fun z _ => o z.2) σ H Q → r x H Q
theorem me_op {op : Operator} {r : R2} {o : D → D → M D} (ho : OpR X (binaryOp op) r) (hr : R2Ok m r o) (ha : PE X a (tE m ea)) (hb : PE X b (tE m eb)) : PE X (.BinOp a op b pos) (tE m (mBin o ea eb)) := by
  refine PE.imp (pe_op ho ha hb) fun σ H Q h => ?_
  refine (tY_bind (R1 := m.rE) r0_mono h).imp fun x H1 h2 => ?_
  exact (tY_bind (R1 := m.rE) (rP_mono r0_mono (rE_mono m)) h2).imp fun y H2 h4 => hr σ x y H2 Q h4
theorem me_un {op : UnaryOp} {r : V → Hp → VK → Prop} {o : D → M D} (ho : UnR X (unaryOp op) r) (hr : R1Ok m r o) (ha : PE X a (tE m ea)) : PE X (.UnaryOp op a pos) (tE m (mUn o ea)) := by
  refine PE.imp (pe_un ho ha) fun σ H Q h => ?_
  exact (tY_bind (R1 := m.rE) r0_mono h).imp fun x H1 h2 => hr σ x H1 Q h2
theorem me_cmp {op : CmpOp} {r : R2} {o : D → D → M D} (ho : OpR X (compareOp op) r) (hr : R2Ok m r o) (ha : PE X a (tE m ea)) (hb : PE X b (tE m eb)) (hm : behindInMarks op b = false) : PE X (.Compare a [op] [b] pos) (tE m (mBin o ea eb)) := by
  refine PE.imp (pe_cmpR ho ha hb hm) fun σ H Q h => ?_
  refine (tY_bind (R1 := m.rE) r0_mono h).imp fun x H1 h2 => ?_
  exact (tY_bind (R1 := m.rE) (rP_mono r0_mono (rE_mono m)) h2).imp fun y H2 h4 => hr σ x y H2 Q h4
/-- a comparison as a test -/
theorem mt_cmp {op : CmpOp} {r : R2} {o : D → D → M D} (ho : OpR X (compareOp op) r) (hr : R2Ok m r o) (ha : PE X a (tE m ea)) (hb : PE X b (tE m eb)) (hm : behindInMarks op b = false) : PT X (.Compare a [op] [b] pos) (tT m (mTest (mBin o ea eb))) := by
  refine PT.imp (pt_cmpR ho ha hb hm) fun σ H Q h => ?_
  have h' : tY m r0 rB () (fun _ δ => (ea δ).bnd fun x => (eb δ).bnd fun y => (o x y).bnd fun z => M.opt (dB z)) σ H Q := by
    obtain ⟨G, p, δ, u, w, sl, r, h⟩ := h
    refine ⟨G, p, δ, u, w, sl, r, ?_⟩
    dsimp only [mTest, mBin] at h
    rw [M.assoc] at h
    simp only [M.assoc] at h
    exact h
  refine (tY_bind (R1 := m.rE) r0_mono h').imp fun x H1 h2 => ?_
  refine (tY_bind (R1 := m.rE) (rP_mono r0_mono (rE_mono m)) h2).imp fun y H2 h4 => hr σ x y H2 _ ?_
  obtain ⟨G, p, δ, u, w, sl, r, h5⟩ := h4
  refine ⟨G, p, δ, u, w, sl, r, ?_⟩
  dsimp only [M.bnd] at h5 ⊢
  rcases he : o u.1.2 u.2 p with _ | ⟨q, p1⟩
  · rw [he] at h5; exact h5
  · cases q with
    | ex c fs => rw [he] at h5; exact h5
    | ok z =>
      rw [he] at h5
      intro v G' H' x w r
      cases r with
      | bl k => exact ⟨k, rfl, h5 k G' H' x w rfl⟩
      | _ => exact h5.elim
end
end ME

namespace ME
open PySem L2

/-! ### tests, conditional expressions, argument lists -/
section
variable {X : Cx} {m : Am} {a b c e : Expr} {es rest : List Expr} {pos : Pos} {ea eb ec : EX} {ta tb tc : TX} {ra : AX}
theorem mt_tru (hK : X.K = m.S.K) (ha : PE X e (tE m ea)) (he : ∀ whole, isTrue e X.env whole = (do let v ← whole; standAt e.pos; holding [v] (truthy v)) := by intro _; rfl) : PT X e (tT m (mTru ea)) := by
  refine PT.imp (pt_truth ha he) fun σ H Q h => ?_
  refine (tY_bind (R1 := m.rE) r0_mono h).imp fun x H1 h2 => ?_
  obtain ⟨G, p, δ, ⟨_, d⟩, w, sl, ⟨_, r⟩, h5⟩ := h2
  have r : Rep m.S G m.pen x d := r
  have fin : ∀ k, dTru d = some k → Q k H1 := fun k ek => by
    dsimp only at h5
    rw [ek] at h5
    exact h5 k G H1 Ex.refl w rfl
  have nn : dTru d ≠ none := fun z => by
    dsimp only at h5
    rw [z] at h5
    exact h5
  rw [hK]
  cases r with
  | non => exact ⟨false, rfl, fin _ rfl⟩
  | bl b => exact ⟨b, rfl, fin _ rfl⟩
  | int i => exact ⟨i != 0, rfl, fin _ rfl⟩
  | str x =>
    dsimp only [dTru] at nn fin
    split at nn
    · rename_i hz
      rw [if_pos hz] at fin
      refine ⟨x.length != 0, ⟨by rw [sizeLine_eq]; exact hz, ?_⟩, fin _ rfl⟩
      cases x.length <;> rfl
    · exact absurd rfl nn
  | @tup aa vs ds h r1 =>
    have hl := r1.isEmpty
    exact ⟨!ds.isEmpty, .inr (.inl ⟨vs, w.sub.sqt h, by rw [hl]⟩), fin _ rfl⟩
  | @lst aa vs ds h r1 =>
    have hl := r1.isEmpty
    exact ⟨!ds.isEmpty, .inl ⟨vs, .of (w.sub _ _ h), by rw [hl]⟩, fin _ rfl⟩
  | _ => exact absurd rfl nn
theorem mt_not (ha : PT X a (tT m ta)) : PT X (.UnaryOp .Not a pos) (tT m (mNotT ta)) := by
  refine PT.imp (pt_not ha) fun σ H Q h => ?_
  refine (tY_bind (R1 := rB) r0_mono h).imp fun x H1 h2 => ?_
  obtain ⟨G, p, δ, ⟨_, d⟩, w, sl, ⟨_, r⟩, h5⟩ := h2
  have r : x = d := r
  subst r
  exact h5 (!x) G H1 Ex.refl w rfl
theorem mw_and1 (ha : PT X a (tT m ta)) : PW X (.BoolOp .And [a] pos) (tT m ta) := pw_and1 ha
theorem mw_or1 (ha : PT X a (tT m ta)) : PW X (.BoolOp .Or [a] pos) (tT m ta) := pw_or1 ha
theorem mw_and (ha : PT X a (tT m ta)) (hb : PW X (.BoolOp .And (b :: rest) pos) (tT m tb)) : PW X (.BoolOp .And (a :: b :: rest) pos) (tT m (mAndT ta tb)) := by
  have h0 := pw_and ha hb
  refine ⟨fun wh pins s σ H Q I h => h0.run wh pins s σ H Q I ?_⟩
  refine (tY_bind (R1 := rB) r0_mono h).imp fun x H1 h2 => ?_
  obtain ⟨G, p, δ, ⟨_, d⟩, w, sl, ⟨_, r⟩, h5⟩ := h2
  have r : x = d := r
  subst r
  cases x with
  | true => exact ⟨G, p, δ, (), w, sl, trivial, h5⟩
  | false => exact h5 false G H1 Ex.refl w rfl
theorem mw_or (ha : PT X a (tT m ta)) (hb : PW X (.BoolOp .Or (b :: rest) pos) (tT m tb)) : PW X (.BoolOp .Or (a :: b :: rest) pos) (tT m (mOrT ta tb)) := by
  have h0 := pw_or ha hb
  refine ⟨fun wh pins s σ H Q I h => h0.run wh pins s σ H Q I ?_⟩
  refine (tY_bind (R1 := rB) r0_mono h).imp fun x H1 h2 => ?_
  obtain ⟨G, p, δ, ⟨_, d⟩, w, sl, ⟨_, r⟩, h5⟩ := h2
  have r : x = d := r
  subst r
  cases x with
  | false => exact ⟨G, p, δ, (), w, sl, trivial, h5⟩
  | true => exact h5 true G H1 Ex.refl w rfl
/-- and, or, not as values -/
theorem me_one {op : BoolOp} (h : PE X a (tE m ea)) : PE X (.BoolOp op [a] pos) (tE m ea) := pe_one h
theorem me_and (ha : PE X a (tE m ea)) (hb : PE X (.BoolOp .And (b :: rest) pos) (tE m eb)) : PE X (.BoolOp .And (a :: b :: rest) pos) (tE m (mAndV ea eb)) := by
  refine PE.imp (pe_and ha hb) fun σ H Q h => ?_
  refine (tY_bind (R1 := m.rE) r0_mono h).imp fun x H1 h2 => ?_
  obtain ⟨G, p, δ, ⟨_, d⟩, w, sl, ⟨_, r⟩, h5⟩ := h2
  have r : Rep m.S G m.pen x d := r
  cases r with
  | bl k =>
    refine ⟨k, rfl, ?_⟩
    cases k with
    | true => exact ⟨G, p, δ, (), w, sl, trivial, h5⟩
    | false => exact h5 (.bl false) G H1 Ex.refl w (.bl false)
  | _ => exact h5.elim
theorem me_if (hc : PT X c (tT m tc)) (ha : PE X a (tE m ea)) (hb : PE X b (tE m eb)) : PE X (.IfExp c a b pos) (tE m (mIf tc ea eb)) := by
  refine PE.imp (pe_ifExp hc ha hb) fun σ H Q h => ?_
  refine (tY_bind (R1 := rB) r0_mono h).imp fun x H1 h2 => ?_
  obtain ⟨G, p, δ, ⟨_, d⟩, w, sl, ⟨_, r⟩, h5⟩ := h2
  have r : x = d := r
  subst r
  cases x with
  | true => exact ⟨G, p, δ, (), w, sl, trivial, h5⟩
  | false => exact ⟨G, p, δ, (), w, sl, trivial, h5⟩
theorem ma_nil : PA X [] (tAs m mNil) := by
  refine PA.imp pa_nil fun σ H Q h => ?_
  obtain ⟨G, p, δ, _, w, sl, _, h5⟩ := h
  exact h5 [] G H Ex.refl w .nil
theorem ma_cons (ha : PE X e (tE m ea)) (hr : PA X es (tAs m ra)) (hs : starEach (e :: es) X.env = (false, eval e X.env) :: starEach es X.env := by rfl) : PA X (e :: es) (tAs m (mCons ea ra)) := by
  refine PA.imp (pa_cons ha hr hs) fun σ H Q h => ?_
  refine (tY_bind (R1 := m.rE) r0_mono h).imp fun x H1 h2 => ?_
  refine (tY_bind (R1 := m.rA) (rP_mono r0_mono (rE_mono m)) h2).imp fun y H2 h4 => ?_
  obtain ⟨G, p, δ, ⟨⟨_, d⟩, ds⟩, w, sl, ⟨⟨_, r1⟩, r2⟩, h5⟩ := h4
  exact h5 (x :: y) G H2 Ex.refl w (.cons r1 r2)
end

/-! ### what a def promises -/
/-- the def computes f -/
noncomputable def spM (S : Sg) (f : List D → M D) : Sp := fun vs H Q E => ∃ pen G p ds, Wd S pen G H p ∧ Reps S G pen vs ds ∧ Post S pen (fun G v d => Rep S G pen v d) G H Q E (f ds p)

/-! ### mirrors of statements -/
noncomputable def sBnd {α : Type} (e : DS → M α) (k : α → SX) : SX := fun δ p => match e δ p with
  | none => none
  | some (.ok a, p') => k a δ p'
  | some (.ex c fs, p') => some (.er c fs δ, p')
noncomputable def sNx : SX := fun δ p => some (.nx δ, p)
noncomputable def sSeq (s t : SX) : SX := fun δ p => match s δ p with
  | some (.nx δ', p') => t δ' p'
  | r => r
noncomputable def sExpr (e : EX) : SX := sBnd e fun _ => sNx
noncomputable def sRet (e : EX) : SX := sBnd e fun d _ p => some (.rt d, p)
noncomputable def sRetN : SX := fun _ p => some (.rt .non, p)
noncomputable def sIf (c : TX) (s t : SX) : SX := sBnd c fun b => if b = true then s else t
noncomputable def sSet (i : Nat) (e : EX) : SX := sBnd e fun d δ p => some (.nx (δ.set i (some (.d d))), p)
noncomputable def sBreak : SX := fun δ p => some (.bk δ, p)
noncomputable def sCont : SX := fun δ p => some (.ct δ, p)
noncomputable def outOf : Option (Fl × Pn) → Option (Out D × Pn)
  | some (.nx _, p') => some (.ok .non, p')
  | some (.rt d, p') => some (.ok d, p')
  | some (.er c fs _, p') => some (.ex c fs, p')
  | _ => none
noncomputable def dsOf (n : Nat) (ds : List D) : DS := ds.map (fun d => some (.d d)) ++ List.replicate (n - ds.length) none
/-- a def: how many parameters, how many slots, its body -/
noncomputable def fnM (np n : Nat) (s : SX) : List D → M D := fun ds p => if ds.length = np then outOf (s (dsOf n ds) p) else none

/-- what is claimed behind a statement -/
noncomputable def PostS (m : Am) (K : Ends) (G0 : Hp) : Option (Fl × Pn) → Prop
  | none => False
  | some (.nx δ, p) => ∀ σ G H, Sub G0 G → Wd m.S m.pen G H p → Ex m.pen m.G0 m.B G H → SlR m.S m.pen m.B G H σ δ → K.nx σ H
  | some (.rt d, p) => ∀ v G H, Sub G0 G → Wd m.S m.pen G H p → Ex m.pen m.G0 m.B G H → Rep m.S G m.pen v d → K.rt v H
  | some (.bk δ, p) => ∀ σ G H, Sub G0 G → Wd m.S m.pen G H p → Ex m.pen m.G0 m.B G H → SlR m.S m.pen m.B G H σ δ → K.bk σ H
  | some (.ct δ, p) => ∀ σ G H, Sub G0 G → Wd m.S m.pen G H p → Ex m.pen m.G0 m.B G H → SlR m.S m.pen m.B G H σ δ → K.ct σ H
  | some (.er c fs δ, p) => ∀ d σ G H, Sub G0 G → Wd m.S m.pen G H p → Ex m.pen m.G0 m.B G H → SlR m.S m.pen m.B G H σ δ → RepX m.S G m.pen d c fs → m.W (.ref (m.S.ca c)) d σ H
theorem PostS.mono {m : Am} {K : Ends} {G G1 : Hp} {r : Option (Fl × Pn)} (s : Sub G G1) (h : PostS m K G r) : PostS m K G1 r := by
  rcases r with _ | ⟨o, p1⟩
  · exact h
  · cases o with
    | nx δ' => exact fun σ G2 H2 s2 => h σ G2 H2 (s.trans s2)
    | rt d => exact fun σ G2 H2 s2 => h σ G2 H2 (s.trans s2)
    | bk δ' => exact fun σ G2 H2 s2 => h σ G2 H2 (s.trans s2)
    | ct δ' => exact fun σ G2 H2 s2 => h σ G2 H2 (s.trans s2)
    | er c fs δ' => exact fun d σ G2 H2 s2 => h d σ G2 H2 (s.trans s2)
noncomputable def tS (m : Am) (s : SX) : TS := fun K σ H => ∃ G p δ, Wd m.S m.pen G H p ∧ Ex m.pen m.G0 m.B G H ∧ SlR m.S m.pen m.B G H σ δ ∧ PostS m K G (s δ p)

section
variable {X : Cx} {m : Am} {st : Stmt} {rest : List Stmt} {e : Expr} {s t : SX} {ea : EX} {pos : Pos}
theorem mss_nil : PSs X [] (tS m sNx) := PSs.imp pss_nil fun K σ H ⟨G, p, δ, w, x, sl, h⟩ => h σ G H (Sub.refl _) w x sl
theorem mss_cons (h1 : PS X st (tS m s)) (h2 : PSs X rest (tS m t)) : PSs X (st :: rest) (tS m (sSeq s t)) := by
  refine PSs.imp (pss_cons h1 h2) fun K σ H ⟨G, p, δ, w, x, sl, h⟩ => ?_
  refine ⟨G, p, δ, w, x, sl, ?_⟩
  dsimp only [sSeq] at h
  rcases he : s δ p with _ | ⟨o, p1⟩
  · rw [he] at h; exact h
  · rw [he] at h
    cases o with
    | nx δ' => exact fun σ' G' H' s' w' x' sl' => ⟨G', p1, δ', w', x', sl', h.mono s'⟩
    | rt d => exact h
    | bk δ' => exact h
    | ct δ' => exact h
    | er c fs δ' => exact h
theorem mss_one (h1 : PS X st (tS m s)) : PSs X [st] (tS m s) := pss_one h1
/-- first an expression -/
theorem tS_bind {α β : Type} {R : Rl β α} {f : DS → M α} {k : α → SX} {K : Ends} {σ : St} {H : Hp} (h : tS m (sBnd f k) K σ H) :
    tY m r0 R () (fun _ => f) σ H (fun b H1 => ∃ a G p δ, Wd m.S m.pen G H1 p ∧ Ex m.pen m.G0 m.B G H1 ∧ SlR m.S m.pen m.B G H1 σ δ ∧ R G b a ∧ PostS m K G (k a δ p)) := by
  obtain ⟨G, p, δ, w, x, sl, h⟩ := h
  refine ⟨G, p, δ, (), w, sl, trivial, ?_⟩
  dsimp only [sBnd] at h ⊢
  rcases he : f δ p with _ | ⟨o, p1⟩
  · rw [he] at h; exact h
  · rw [he] at h
    cases o with
    | ok a => exact fun v G' H' x' w' r => ⟨a, G', p1, δ, w', x.trans x', sl.ex x', r, h.mono x'.sub⟩
    | ex c fs => exact fun d G' H' x' w' r => h d σ G' H' x'.sub w' (x.trans x') (sl.ex x') r
theorem ms_ret (he : PE X e (tE m ea)) : PS X (.Return (some e) pos) (tS m (sRet ea)) := by
  refine PS.imp (ps_ret he) fun K σ H h => ?_
  exact (tS_bind (R := m.rE) h).imp fun v H1 ⟨a, G, p, δ, w, x, sl, r, q⟩ => q v G H1 (Sub.refl _) w x r
theorem ms_if {c : Expr} {a b : List Stmt} {tc : TX} (hc : PT X c (tT m tc)) (ha : PSs X a (tS m s)) (hb : PSs X b (tS m t)) : PS X (.If c a b pos) (tS m (sIf tc s t)) := by
  refine PS.imp (ps_if hc ha hb) fun K σ H h => ?_
  refine (tS_bind (R := rB) h).imp fun v H1 ⟨a, G, p, δ, w, x, sl, r, q⟩ => ?_
  have r : v = a := r
  subst r
  cases v with
  | true => exact ⟨G, p, δ, w, x, sl, q⟩
  | false => exact ⟨G, p, δ, w, x, sl, q⟩
theorem SlR.set {S : Sg} {pen : Addr} {B G H : Hp} {σ : St} {δ : DS} {i : Nat} {v : V} {d : D} (sl : SlR S pen B G H σ δ) (r : Rep S G pen v d) : SlR S pen B G H (σ.set i (some v)) (δ.set i (some (.d d))) := by
  have old : ∀ (j : Nat) s, (∀ x, s ≠ .d x) → (δ.set i (some (Sl.d d)))[j]? = some (some s) → δ[j]? = some (some s) ∧ j ≠ i := fun j s ns e => by
    by_cases hj : i = j
    · subst hj
      rw [List.getElem?_set] at e
      simp only [if_true] at e
      split at e
      · exact absurd (Option.some.inj (Option.some.inj e)).symm (ns d)
      · cases e
    · rw [List.getElem?_set_ne hj] at e
      exact ⟨e, Ne.symm hj⟩
  have same : ∀ (j : Nat), j ≠ i → (σ.set i (some v))[j]? = σ[j]? := fun j hj => List.getElem?_set_ne (Ne.symm hj)
  refine ⟨by simp [sl.len], fun j x e => ?_, fun j xs e => ?_, fun j xs e => ?_, fun j c xs e => ?_, fun j k s t l e1 e2 n1 n2 f1 f2 => ?_⟩
  · by_cases hj : i = j
    · subst hj
      rw [List.getElem?_set] at e
      simp only [if_true] at e
      split at e
      · rename_i hlt
        have := Option.some.inj (Option.some.inj e)
        cases this
        exact ⟨v, by rw [List.getElem?_set_self (by rw [sl.len]; exact hlt)], r⟩
      · cases e
    · rw [List.getElem?_set_ne hj] at e
      rw [List.getElem?_set_ne hj]
      exact sl.val j x e
  · obtain ⟨e', hj⟩ := old j _ (by intro _ z; cases z) e
    rw [same j hj]; exact sl.ml j xs e'
  · obtain ⟨e', hj⟩ := old j _ (by intro _ z; cases z) e
    rw [same j hj]; exact sl.md j xs e'
  · obtain ⟨e', hj⟩ := old j _ (by intro _ z; cases z) e
    rw [same j hj]; exact sl.mo j c xs e'
  · obtain ⟨e1', hj⟩ := old j _ n1 e1
    obtain ⟨e2', hk⟩ := old k _ n2 e2
    rw [same j hj] at f1
    rw [same k hk] at f2
    exact sl.inj j k s t l e1' e2' n1 n2 f1 f2
theorem ms_set {i : Nat} {x : Str} {pos' : Pos} (hN : X.N.Nodup) (hi : X.N[i]? = some x) (hx : Loc X.env.scope x) (he : PE X e (tE m ea)) (hs : swapsWith e (some (.Name x pos')) pos.line X.env = pure false := by rfl) (hf : X.fn x = true ∨ X.env.scope.names.lookup x = some .local := by first | exact .inl rfl | exact .inr rfl | assumption) :
    PS X (.Assign [.Name x pos'] e pos) (tS m (sSet i ea)) := by
  refine PS.imp (ps_set hN hi hx he hs hf) fun K σ H h => ?_
  exact (tS_bind (R := m.rE) h).imp fun v H1 ⟨a, G, p, δ, w, x, sl, r, q⟩ => q _ G H1 (Sub.refl _) w x (sl.set r)
theorem SlR.start {S : Sg} {pen : Addr} {B G H : Hp} {N : List Str} {vs : List V} {ds : List D} (r : Reps S G pen vs ds) : SlR S pen B G H (start N vs) (dsOf N.length ds) := by
  have hl := r.length
  have look : ∀ (i : Nat) s, (dsOf N.length ds)[i]? = some (some s) → ∃ d, s = .d d ∧ ds[i]? = some d ∧ i < ds.length := fun i s e => by
    unfold dsOf at e
    by_cases hi : i < ds.length
    · rw [List.getElem?_append_left (by simpa using hi), List.getElem?_map] at e
      cases q : ds[i]? with
      | none => rw [q] at e; cases e
      | some d => rw [q] at e; exact ⟨d, (Option.some.inj (Option.some.inj e)).symm, rfl, hi⟩
    · rw [List.getElem?_append_right (by simpa using hi), List.getElem?_replicate] at e
      split at e
      · cases e
      · cases e
  refine ⟨by simp [L2.start, dsOf, hl], fun i x e => ?_, fun i xs e => ?_, fun i xs e => ?_, fun i c xs e => ?_, fun i j s t l e1 _ n1 => ?_⟩
  · obtain ⟨d, q1, q2, hi⟩ := look i _ e
    cases q1
    obtain ⟨v, e1, rv⟩ := r.get q2
    refine ⟨v, ?_, rv⟩
    unfold L2.start
    rw [List.getElem?_append_left (by simp [hl]; exact hi), List.getElem?_map, e1]
    rfl
  · obtain ⟨d, q, _⟩ := look i _ e; cases q
  · obtain ⟨d, q, _⟩ := look i _ e; cases q
  · obtain ⟨d, q, _⟩ := look i _ e; cases q
  · obtain ⟨d, q, _⟩ := look i _ e1; exact absurd q (n1 d)
/-- a def keeps the promise sp wherever no repr is under way -/
structure FnG (P : Program) (w : World) (K : PySem.W.Frag) (mg : Str → Option Value) (base : Heap) (k : Nat) (f : Addr) (fd : FuncData) (ps : List Str) (sp : Sp) : Prop where
  len : ∀ vs H Q E, sp vs H Q E → vs.length = ps.length
  run : ∀ (A : Around) (outer : List Env) (s : Shared) (H : Hp) (args : Args) (us : List Value) (vs : List V) (Q : VK) (E : XK), A.guards = some [] → Room k A → Env0 P w K mg base A outer s H → BindsTo s fd args (ps.zip us) → Vals vs us → sp vs H Q E →
    codeAny (model P w) A (.call (.ref f) args) (CR (L2.CX P w) outer P w H s Q E) s
/-- a def of the text: where it stands, its defaults -/
structure FunG (K : PySem.W.Frag) (x qual : Str) (st : Stmt) (f : Addr) (fd : FuncData) : Prop where
  ex : ∃ (oc : Value) (od : Option Addr) (dV kV doc pm : Value) (an : Option Addr) (cdv ct : Value) (osl : Array (Option Value)),
    fd = PySem.W.fnOf x qual (defArgs st) (defBody st) (defScope st) dV kV doc pm an cdv ct ∧ K.lookup f = some ⟨oc, od, .func fd, osl⟩ ∧ PySem.W.codeIn K cdv qual = true
/-- THE RULE for a def -/
theorem fn_okM {P : Program} {w : World} {K : PySem.W.Frag} {mg : Str → Option Value} {base : Heap} {x qual : Str} {st : Stmt} {f : Addr} {fd : FuncData} {N ps : List Str} {k : Nat} {S : Sg} {body : SX} (F : FunG K x qual st f fd) (Sc : FnScope N ps (defScope st))
    (hb : ∀ (cdv : Value) (A : Around) (outer : List Env) (s : Shared) (pen : Addr) (G0 H : Hp) (E : XK), fd.code = cdv → A.guards = some [] → Room k (A.deeper (PyProof.Rows.envOfC qual (defScope st) s.heap.objs.size f cdv)) →
      PSs (cxOf (L2.CX P w) P w K mg base N qual (defScope st) f cdv A outer s H E) (defBody st) (tS ⟨S, pen, G0, H, fun c d _ H' => E c d H'⟩ body)) :
    FnG P w K mg base (k + 1) f fd ps (spM S (fnM ps.length N.length body)) := by
  have len : ∀ vs H Q E, spM S (fnM ps.length N.length body) vs H Q E → vs.length = ps.length := fun vs H Q E ⟨pen, G, p, ds, _, r, h⟩ => by
    rw [r.length]
    dsimp only [fnM] at h
    split at h
    · assumption
    · exact h.elim
  refine ⟨len, fun A outer s H args us vs Q E hg hr e0 hbd r sp => ?_⟩
  obtain ⟨oc, od, dV, kV, doc, pm, an, cdv, ct, osl, rfl, lk, hcd⟩ := F.ex
  refine LamX.run_ofS lk hcd Sc hr e0 hbd r (len vs H Q E sp) fun hr' => ?_
  obtain ⟨pen, G, p, ds, wd, rr, h⟩ := sp
  refine ⟨_, hb cdv A outer s pen G H E rfl hg hr', ?_⟩
  refine ⟨G, p, dsOf N.length ds, wd, Ex.refl, SlR.start rr, ?_⟩
  dsimp only [fnM] at h
  split at h
  · rcases he : body (dsOf N.length ds) p with _ | ⟨o, p1⟩
    · rw [he] at h; exact h
    · rw [he] at h
      cases o with
      | nx δ' => exact fun σ' G' H' _ w' x' sl' => h .non G' H' x' w' .non
      | rt d => exact fun v G' H' _ w' x' r' => h v G' H' x' w' r'
      | bk δ' => exact h.elim
      | ct δ' => exact h.elim
      | er c fs δ' => exact fun d σ' G' H' _ w' x' sl' r' => h d G' H' x' w' r'
  · exact h.elim
end
end ME

namespace ME
open PySem PySem.Spec L2

/-! ### which argument goes to which parameter -/
inductive Src where
  | p (i : Nat)
  | k (i : Nat)
  | d (i : Nat)
noncomputable def pick {α : Type} (us ds ws : List α) : List Src → List α
  | [] => []
  | .p i :: r => match us[i]? with | some x => x :: pick us ds ws r | none => pick us ds ws r
  | .k i :: r => match ws[i]? with | some x => x :: pick us ds ws r | none => pick us ds ws r
  | .d i :: r => match ds[i]? with | some x => x :: pick us ds ws r | none => pick us ds ws r
theorem vals_pick {vs ds zs : List V} {us its ws : List Value} (a : Vals vs us) (b : Vals ds its) (c : Vals zs ws) : ∀ l : List Src, Vals (pick vs ds zs l) (pick us its ws l)
  | [] => .nil
  | .p i :: r => by
    unfold pick
    cases e : vs[i]? with
    | none => rw [a.none_of e]; exact vals_pick a b c r
    | some x => obtain ⟨u, e1, e2⟩ := a.get e; rw [e1]; exact .cons e2 (vals_pick a b c r)
  | .k i :: r => by
    unfold pick
    cases e : zs[i]? with
    | none => rw [c.none_of e]; exact vals_pick a b c r
    | some x => obtain ⟨u, e1, e2⟩ := c.get e; rw [e1]; exact .cons e2 (vals_pick a b c r)
  | .d i :: r => by
    unfold pick
    cases e : ds[i]? with
    | none => rw [b.none_of e]; exact vals_pick a b c r
    | some x => obtain ⟨u, e1, e2⟩ := b.get e; rw [e1]; exact .cons e2 (vals_pick a b c r)
section
variable {S : Sg} {G : Hp} {pen : Addr}
theorem Reps.none_of {vs : List V} {ds : List D} {i : Nat} (r : Reps S G pen vs ds) (e : vs[i]? = none) : ds[i]? = none := by
  have h2 : vs.length ≤ i := List.getElem?_eq_none_iff.mp e
  exact List.getElem?_eq_none_iff.mpr (by rw [← r.length]; exact h2)
theorem reps_pick {vs ds zs : List V} {us its ws : List D} (a : Reps S G pen vs us) (b : Reps S G pen ds its) (c : Reps S G pen zs ws) : ∀ l : List Src, Reps S G pen (pick vs ds zs l) (pick us its ws l)
  | [] => .nil
  | .p i :: r => by
    unfold pick
    cases e : vs[i]? with
    | none => rw [a.none_of e]; exact reps_pick a b c r
    | some x => obtain ⟨u, e1, e2⟩ := a.getV e; rw [e1]; exact .cons e2 (reps_pick a b c r)
  | .k i :: r => by
    unfold pick
    cases e : zs[i]? with
    | none => rw [c.none_of e]; exact reps_pick a b c r
    | some x => obtain ⟨u, e1, e2⟩ := c.getV e; rw [e1]; exact .cons e2 (reps_pick a b c r)
  | .d i :: r => by
    unfold pick
    cases e : ds[i]? with
    | none => rw [b.none_of e]; exact reps_pick a b c r
    | some x => obtain ⟨u, e1, e2⟩ := b.getV e; rw [e1]; exact .cons e2 (reps_pick a b c r)
end
/-- how a def's parameters are bound: n positional values, keywords ks, the defaults dvs -/
structure Bd (K : PySem.W.Frag) (fd : FuncData) (ps : List Str) (n : Nat) (ks : List Str) (dvs : List V) (l : List Src) : Prop where
  ex : ∃ its : List Value, Vals dvs its ∧ ∀ (s : Shared) (us ws : List Value), K.In s.heap → us.length = n → ws.length = ks.length → BindsTo s fd ⟨us, ks.zip ws⟩ (ps.zip (pick us its ws l))

/-! ### the arguments of a call -/
noncomputable abbrev TK := St → Hp → (List V → List V → Hp → Prop) → Prop
structure PAK (X : Cx) (es : List Expr) (kws : List Keyword) (n : Nat) (ks : List Str) (t : TK) : Prop where
  run : ∀ (pos : Pos) (f : Value) (first : List Value) (pins : List (Addr × Obj)) (s : Shared) (σ : St) (H : Hp) (R : List V → List V → Hp → Prop) (Q : Value → Shared → Prop), PySem.W.keepIn X.K f = true → Inv X pins σ H s → t σ H R →
    (∀ us ws s2 vs zs H2, Inv X pins σ H2 s2 → Vals vs us → Vals zs ws → us.length = n → ws.length = ks.length → R vs zs H2 → wpAny (model X.prog X.w) X.A (call f (first ++ us) (ks.zip ws)) Q X.xe s2) →
    wpAny (model X.prog X.w) X.A (callWith pos f first (backTo pos (starEach es X.env)) (backToKw pos (keywordEach kws X.env))) Q X.xe s
noncomputable def tAK (m : Am) (n k : Nat) (a b : AX) : TK := fun σ H R => tY m r0 (rP m.rA m.rA) () (fun _ δ => (a δ).bnd fun x => (b δ).bnd fun y => if x.length = n ∧ y.length = k then M.ret (x, y) else M.stuck) σ H (fun v H1 => R v.1 v.2 H1)
section
variable {X : Cx} {m : Am} {e : Expr} {es : List Expr} {kws : List Keyword} {ks : List Str} {ra rk : AX} {n : Nat}
/-- keywords' values -/
theorem mk_nil : PK X [] (tAs m mNil) := by
  have h0 := pk_nil (X := X)
  refine ⟨fun pos pins s σ H Q I h => h0.run pos pins s σ H Q I ?_⟩
  obtain ⟨G, p, δ, _, w, sl, _, h5⟩ := h
  exact h5 [] G H Ex.refl w .nil
theorem mk_cons {nm : Option Str} {kpos : Pos} {ea : EX} (ha : PE X e (tE m ea)) (hr : PK X kws (tAs m rk)) : PK X (⟨nm, e, kpos⟩ :: kws) (tAs m (mCons ea rk)) := by
  have h0 := pk_cons (nm := nm) (kpos := kpos) ha hr
  refine ⟨fun pos pins s σ H Q I h => h0.run pos pins s σ H Q I ?_⟩
  refine (tY_bind (R1 := m.rE) r0_mono h).imp fun x H1 h2 => ?_
  refine (tY_bind (R1 := m.rA) (rP_mono r0_mono (rE_mono m)) h2).imp fun y H2 h4 => ?_
  obtain ⟨G, p, δ, ⟨⟨_, d⟩, ds⟩, w, sl, ⟨⟨_, r1⟩, r2⟩, h5⟩ := h4
  exact h5 (x :: y) G H2 Ex.refl w (.cons r1 r2)
/-- the end of both lists -/
theorem tAK_end {k : Nat} {σ : St} {H : Hp} {R : List V → List V → Hp → Prop} (h : tAK m n k ra rk σ H R) :
    tAs m ra σ H (fun vs H1 => tAs m rk σ H1 fun zs H2 => vs.length = n ∧ zs.length = k ∧ R vs zs H2) := by
  refine (tY_bind (R1 := m.rA) r0_mono h).imp fun x H1 h2 => ?_
  refine (tY_bind (R1 := m.rA) (rP_mono r0_mono (rA_mono m)) h2).imp fun y H2 h4 => ?_
  obtain ⟨G, p, δ, ⟨⟨_, ds⟩, es⟩, w, sl, ⟨⟨_, r1⟩, r2⟩, h5⟩ := h4
  have r1 : Reps m.S G m.pen x ds := r1
  have r2 : Reps m.S G m.pen y es := r2
  dsimp only at h5
  split at h5
  · rename_i hc
    exact ⟨by rw [r1.length]; exact hc.1, by rw [r2.length]; exact hc.2, h5 (x, y) G H2 Ex.refl w ⟨r1, r2⟩⟩
  · exact h5.elim
theorem pak_pos (ha : PA X (e :: es) (tAs m ra)) (he : starEach (e :: es) X.env = (false, eval e X.env) :: starEach es X.env := by rfl) (hpl : ∀ pos, (backTo pos (starEach es X.env)).any (·.1) = false := by intro _; rfl) : PAK X (e :: es) [] n [] (tAK m n 0 ra mNil) := by
  refine ⟨fun pos f first pins s σ H R Q hk I h c => ?_⟩
  refine PySem.W.callWith_K (h₀ := X.base) I.ok.mod.kin hk (thn (ha.run pos pins s σ H _ I (tAK_end h)) fun us s1 ⟨vs, H1, I1, r, q⟩ => ⟨I1.kIn, ?_⟩) he (hpl pos)
  obtain ⟨G, p, δ, _, w, sl, _, h5⟩ := q
  obtain ⟨l1, _, h6⟩ := h5 [] G H1 Ex.refl w .nil
  exact c us [] s1 vs [] H1 I1 r .nil (by rw [← r.length]; exact l1) rfl h6
theorem pak_kw (hkw : PK X kws (tAs m rk)) (hall : ∀ pos, (backToKw pos (keywordEach kws X.env)).all (·.1.isSome) = true := by intro _; rfl) (hks : ∀ pos, (backToKw pos (keywordEach kws X.env)).filterMap (·.1) = ks := by intro _; rfl)
    (hpl : ∀ pos, ((backTo pos (starEach [] X.env)).any (·.1) || (backToKw pos (keywordEach kws X.env)).any (·.1.isNone)) = false := by intro _; rfl) : PAK X [] kws 0 ks (tAK m 0 ks.length mNil rk) := by
  refine ⟨fun pos f first pins s σ H R Q hk I h c => ?_⟩
  have h' := tAK_end h
  obtain ⟨G, p, δ, _, w, sl, _, h5⟩ := h'
  have h6 := h5 [] G H Ex.refl w .nil
  refine PySem.W.callWith_KW0 (h₀ := X.base) I.ok.mod.kin hk (hall pos) (thn (hkw.run pos pins s σ H _ I h6) fun ws s2 ⟨zs, H2, I2, rz, l1, l2, q2⟩ => ⟨I2.kIn, ?_⟩) (hpl pos)
  rw [hks pos]
  exact c [] ws s2 [] zs H2 I2 .nil rz rfl (by rw [← rz.length]; exact l2) q2
end

/-! ### a def of the text called -/
noncomputable def mCallK (f : List D → M D) (n k : Nat) (dd : List D) (l : List Src) (a b : AX) : EX := fun δ => (a δ).bnd fun x => (b δ).bnd fun y => if x.length = n ∧ y.length = k then f (pick x dd y l) else M.stuck
section
variable {X : Cx} {m : Am} {e : Expr} {es : List Expr} {kws : List Keyword} {ks : List Str} {ra rk : AX} {n k : Nat} {pos : Pos}
theorem tAK_of {j : Nat} {f : List D → M D} {dd : List D} {l : List Src} {σ : St} {H : Hp} {Q : VK} (h : tE m (mCallK f n j dd l ra rk) σ H Q) :
    tAK m n j ra rk σ H (fun vs zs H1 => ∃ G p δ ds es, Wd m.S m.pen G H1 p ∧ SlR m.S m.pen m.B G H1 σ δ ∧ Reps m.S G m.pen vs ds ∧ Reps m.S G m.pen zs es ∧ Post m.S m.pen m.rE G H1 Q (fun c d H' => m.W c d σ H') (f (pick ds dd es l) p)) := by
  have h' : tY m r0 m.rE () (fun _ δ => ((ra δ).bnd fun x => (rk δ).bnd fun y => if x.length = n ∧ y.length = j then M.ret (x, y) else M.stuck).bnd fun z => f (pick z.1 dd z.2 l)) σ H Q := by
    obtain ⟨G, p, δ, u, w, sl, r, h⟩ := h
    refine ⟨G, p, δ, u, w, sl, r, ?_⟩
    have e : mCallK f n j dd l ra rk δ = ((ra δ).bnd fun x => (rk δ).bnd fun y => if x.length = n ∧ y.length = j then M.ret (x, y) else M.stuck).bnd fun z => f (pick z.1 dd z.2 l) := by
      unfold mCallK
      rw [M.assoc]
      congr 1; funext x
      rw [M.assoc]
      congr 1; funext y
      split <;> rfl
    dsimp only at h ⊢
    rw [← e]; exact h
  refine (tY_bind (R1 := rP m.rA m.rA) r0_mono h').imp fun v H1 h2 => ?_
  obtain ⟨G, p, δ, ⟨_, ds, es⟩, w, sl, ⟨_, r1, r2⟩, h5⟩ := h2
  exact ⟨G, p, δ, ds, es, w, sl, r1, r2, h5⟩
theorem me_fn {f : Addr} {fd : FuncData} {ps : List Str} {mf : List D → M D} {dvs : List V} {dd : List D} {l : List Src} {x : Str} {p : Pos}
    (F : FnG X.prog X.w X.K X.mg X.base k f fd ps (spM m.S mf)) (tk : Takes X m.W) (hq : X.A.guards = some []) (hr : Room k X.A) (hg : Gl X x) (hm : X.mg x = some (.ref f)) (hk : PySem.W.keepIn X.K (.ref f) = true) (hb : Bd X.K fd ps n ks dvs l)
    (hdd : ∀ G pen, Reps m.S G pen dvs dd) (ha : PAK X es kws n ks (tAK m n ks.length ra rk)) (hdb : (x == ("__debug__" : Str)) = false := by decide) :
    PE X (.Call (.Name x p) es kws pos) (tE m (mCallK mf n ks.length dd l ra rk)) := by
  refine ⟨fun pins s σ H Q I h => ?_⟩
  refine wpAny_Call_Name_kw (ld_glob I hg hm ?_ hdb)
  refine ha.run pos (.ref f) [] pins s σ H _ _ hk I (tAK_of h) fun us ws s2 vs zs H2 I2 r rz l1 l2 ⟨G, p, δ, ds, es, w, sl, r1, r2, h5⟩ => ?_
  obtain ⟨its, vd, bd⟩ := hb.ex
  have sp : spM m.S mf (pick vs dvs zs l) H2 Q (WE m.W σ) := ⟨m.pen, G, p, pick ds dd es l, w, reps_pick r1 (hdd G m.pen) r2 l, h5⟩
  refine wpAny_call (codeAny_mono (F.run X.A X.stack s2 H2 ⟨us, ks.zip ws⟩ (pick us its ws l) (pick vs dvs zs l) Q (WE m.W σ) hq hr I2.env0 (bd s2 us ws I2.kIn l1 l2) (vals_pick r vd rz l) sp) fun r s' hq => ?_)
  cases r with
  | error e => exact passAt tk σ pins H2 s2 e s' I2 hq
  | ok fl =>
    cases fl with
    | ret u => exact I2.after hq
    | next => exact False.elim hq
    | brk => exact False.elim hq
    | cont => exact False.elim hq
end
end ME

/-! An own exception class over ValueError, called with keywords too: BaseException.__new__, then the class's own __init__. -/
namespace PySem
namespace MeX
open PySem.W PySem.Calls PyProof.Rows PySem.HandSPX PySem.Spec
section
variable {prog : Program} {w : World} {A : Around} {E : Value → Shared → Prop} {R : Result → Shared → Prop} {h : Heap} {g : Array GenState} {d : Drawn} {t : Nat} {os : OsState}
variable {nm q : Str} {C N : Addr} {bs bm bmB : List Value} {hdct : Bool} {sn : List Str} {sub : List Value} {ab : Bool} {col : Option Bool} {dd : Option Addr} {k0 k1 k2 k3 k5 : Option Value} {B newId initId : String}
theorem look_new (F : ExcBaseFacts B newId initId bmB) (hT : ∀ X : String, bm.contains (.type X) = bmB.contains (.type X)) {rest : List Value} {kw : List (Str × Value)} {M : Model} {Q : Unit → Shared → Prop}
    (hC : h.get? C = some (excClassObj nm q C N bs bm hdct sn sub ab col dd k0 k1 k2 k3 k5 newId)) (hq : Q () ⟨h, g, d, t, os⟩) : wpAny M A (checkBuiltinCall newId ⟨.ref C :: rest, kw⟩) Q E ⟨h, g, d, t, os⟩ := by
  have has : (Value.ref C :: bm).contains (.type B) = true := by rw [List.contains_cons, hT, F.hasB, Bool.or_true]
  have ns := F.noStar
  simp only [checkBuiltinCall, F.newKind, F.newSplit, F.newRow]
  repeat (first | refine wpAny_loadPart_at hC ?_ | (refine wpAny_isSubtype_exc hC ?_; rw [has]) | refine wpAny_staticBase_exc hC ?_ | refine wpAny_madeBy_exc hC ?_ | simp only [bne_self_eq_false, Bool.false_eq_true, if_false] | wp_step)
  exact hq
theorem new_kw (F : ExcBaseFacts B newId initId bmB) (hT : ∀ X : String, bm.contains (.type X) = bmB.contains (.type X)) {rest : List Value} {kw : List (Str × Value)}
    (hC : h.get? C = some (excClassObj nm q C N bs bm hdct sn sub ab col dd k0 k1 k2 k3 k5 newId))
    (hq : R (.ok (.ret (.ref (h.objs.size + 1)))) ⟨(h.push (kdv_tup rest)).push (excO C h.objs.size), g, d, t, os⟩) (hrest : rest.length ≤ sizeLine) :
    codeAny (model prog w) A (.builtin newId ⟨.ref C :: rest, kw⟩) R ⟨h, g, d, t, os⟩ := by
  have he := F.ends
  have c1 : (Value.ref C :: bm).contains (.type B) = true := by rw [List.contains_cons, hT, F.hasB, Bool.or_true]
  have c2 : (Value.ref C :: bm).contains (.type "AttributeError") = false := by rw [List.contains_cons, hT, F.noAttr]; rfl
  have c3 : (Value.ref C :: bm).contains (.type "NameError") = false := by rw [List.contains_cons, hT, F.noName]; rfl
  refine codeAny_builtinAt F.entry ?_
  unfold Builtin.«BaseException.__new__»
  refine wpAt_bind ?_
  show wpAt _ _ _ (stack >>= _) _ _ _
  refine wpAt_bind (wpAt_stack fun p below => wpAt_of_wpAny ?_)
  wp_walk
  refine wpAt_of_wpAny ?_
  rw [F.owner]
  repeat (first | with_reducible refine wpAny_madeHere_exc F.canon hC ?_ | with_reducible refine wpAny_loadPart_at hC ?_ | (with_reducible refine wpAny_isSubtype_exc hC ?_; first | rw [c1] | rw [c2] | rw [c3]) | wp_step)
  show R _ _
  rw [Heap.size_push]
  exact hq
theorem type_kw (F : ExcBaseFacts B newId initId bmB) (hT : ∀ X : String, bm.contains (.type X) = bmB.contains (.type X)) {rest : List Value} {kw : List (Str × Value)} {fI : Addr} {Q : Fin → Shared → Prop}
    (hC : h.get? C = some (excClassObj nm q C N bs bm hdct sn sub ab col dd k0 k1 k2 k3 k5 newId))
    (hi : W.Looks (model prog w) h (typeLookup (.ref C) "__init__") (some (.ref fI))) (hb : ∀ self, W.Looks (model prog w) h (bindSpecial (.ref fI) self) (.ref fI, [self])) (hrest : rest.length ≤ sizeLine)
    (hq : codeAny (model prog w) A (.call (.ref fI) ⟨.ref (h.objs.size + 1) :: rest, kw⟩)
      (fun r s' => match r with | .ok (.ret v) => v = .none ∧ Q (.done (.ret (.ref (h.objs.size + 1)))) s' | .ok _ => False | .error e => E e s')
      ⟨(h.push (W.kdv_tup rest)).push (excO C h.objs.size), g, d, t, os⟩) :
    wpAny (model prog w) A (Builtin.«type.__call__» ⟨.ref C :: rest, kw⟩) Q E ⟨h, g, d, t, os⟩ := by
  repeat (first | with_reducible refine wpAny_loadPart_at hC ?_ | with_reducible refine wpAny_madeBy_exc hC ?_ | wp_step)
  refine codeAny_call_builtin_code (Code.quiet_builtin _ F.quiet) (look_new F hT hC ?_)
  refine new_kw F hT hC ?_ hrest
  show wpAny _ _ _ _ _ _
  have k : ∀ b o, h.get? b = some o → ((h.push (W.kdv_tup rest)).push (excO C h.objs.size)).get? b = some o := fun b o e => Heap.get?_push_of_some _ (Heap.get?_push_of_some _ e)
  have hC1 := k _ _ hC
  have hget : ((h.push (W.kdv_tup rest)).push (excO C h.objs.size)).get? (h.objs.size + 1) = some (excO C h.objs.size) := by heap_get
  have hcC : (Value.ref C :: bm).contains (.ref C) = true := by simp
  have i1 := hi.keeps k
  have b1 := (hb (.ref (h.objs.size + 1))).keeps k
  unfold isInstance
  repeat (first | with_reducible refine wpAny_loadPart_at hget ?_ | (with_reducible refine wpAny_isSubtype_exc hC1 ?_; rw [hcC]) | wp_step)
  show wpAny _ _ (typeLookup (.ref C) _) _ _ _
  refine i1.at ?_
  refine wpAny_holding (wpAny_bind (b1.at ?_))
  refine wpAny_bind (wpAny_call (codeAny_mono hq fun r s' z => ?_))
  rcases r with e | (v | _ | _ | _) <;> first | exact z | exact z.elim | skip
  obtain ⟨rfl, z⟩ := z
  first
    | exact wpAny_pure (wpAny_pure z)
    | (wp_walk; exact z)
theorem look_type {M : Model} {rest : List Value} {kw : List (Str × Value)} {Q : Unit → Shared → Prop} (hC : h.get? C = some (excClassObj nm q C N bs bm hdct sn sub ab col dd k0 k1 k2 k3 k5 newId))
    (hq : Q () ⟨h, g, d, t, os⟩) : wpAny M A (checkBuiltinCall "type.__call__" ⟨.ref C :: rest, kw⟩) Q E ⟨h, g, d, t, os⟩ := by
  have f3 := tc_sub
  have ty : (⟨h, g, d, t, os⟩ : Shared).TypeIs (.ref C) "type" := ⟨_, hC, rfl⟩
  simp only [checkBuiltinCall, tc_kind, tc_split]
  repeat (any_goals (first | assumption | with_reducible refine wpAny_loadPart_at hC ?_ | with_reducible refine wpAny_onRaise ?_ | with_reducible refine wpAny_map ?_ | wp_step))
theorem call_kw (F : ExcBaseFacts B newId initId bmB) (hT : ∀ X : String, bm.contains (.type X) = bmB.contains (.type X)) {rest : List Value} {kw : List (Str × Value)} {fI : Addr}
    (hC : h.get? C = some (excClassObj nm q C N bs bm hdct sn sub ab col dd k0 k1 k2 k3 k5 newId))
    (hi : W.Looks (model prog w) h (typeLookup (.ref C) "__init__") (some (.ref fI))) (hb : ∀ self, W.Looks (model prog w) h (bindSpecial (.ref fI) self) (.ref fI, [self])) (hrest : rest.length ≤ sizeLine)
    (hq : codeAny (model prog w) (A.under (.builtin "type.__call__" ⟨.ref C :: rest, kw⟩)) (.call (.ref fI) ⟨.ref (h.objs.size + 1) :: rest, kw⟩) (W.InitBack (h.objs.size + 1) R)
      ⟨(h.push (W.kdv_tup rest)).push (excO C h.objs.size), g, d, t, os⟩) :
    codeAny (model prog w) A (.call (.ref C) ⟨rest, kw⟩) R ⟨h, g, d, t, os⟩ := by
  have f1 := tc_lookup
  have f2 := tc_bind (.ref C)
  have ty : (⟨h, g, d, t, os⟩ : Shared).TypeIs (.ref C) "type" := ⟨_, hC, rfl⟩
  refine codeAny_of_tree ?_
  show wpAny _ _ (callAny (.ref C) _) _ _ _
  repeat (any_goals (first | assumption | with_reducible refine wpAny_loadPart_at hC ?_ | wp_step))
  refine ⟨rfl, ?_⟩
  refine codeAny_call_builtin_at (Code.quiet_builtin _ (by decide +kernel)) entry_typeCall (look_type hC (type_kw F hT hC hi hb hrest ?_))
  refine codeAny_mono hq fun r s' z => ?_
  rcases r with e | (v | _ | _ | _) <;> exact z
end
end MeX
end PySem
namespace ME
open PySem PySem.Spec L2
noncomputable def Src.up : Src → Src
  | .p i => .p (i + 1)
  | .k i => .k i
  | .d i => .d i
theorem pick_up {α : Type} (x : α) (us ds ws : List α) : ∀ l : List Src, pick (x :: us) ds ws (l.map Src.up) = pick us ds ws l
  | [] => rfl
  | .p i :: r => by
    show pick (x :: us) ds ws (.p (i + 1) :: r.map Src.up) = _
    unfold pick
    rw [List.getElem?_cons_succ, pick_up x us ds ws r]
  | .k i :: r => by
    show pick (x :: us) ds ws (.k i :: r.map Src.up) = _
    unfold pick
    rw [pick_up x us ds ws r]
  | .d i :: r => by
    show pick (x :: us) ds ws (.d i :: r.map Src.up) = _
    unfold pick
    rw [pick_up x us ds ws r]
theorem pick_self {α : Type} (x : α) (us ds ws : List α) (l : List Src) : pick (x :: us) ds ws (.p 0 :: l.map Src.up) = x :: pick us ds ws l := by
  show x :: pick (x :: us) ds ws (l.map Src.up) = _
  rw [pick_up]
/-- what the __init__ of an exception class promises: the fields are stored -/
noncomputable def spXI (C : Addr) (nms : List Str) : Sp := fun vs H Q _ => ∃ a ws, vs = .ref a :: ws ∧ ws.length = nms.length ∧ H a = some (exo a C none) ∧
  ∀ d H', H d = none → d ≠ a → H' a = some (exo a C (some d)) → H' d = some (exd d (nms.zip ws).reverse) → (∀ b, b ≠ a → b ≠ d → H' b = H b) → Q .non H'
/-- an exception class of the text, its __init__ and the fields that it stores -/
structure XCl (P : Program) (w : World) (K : PySem.W.Frag) (mg : Str → Option Value) (base : Heap) (k : Nat) (x : Str) (C : Addr) (nms : List Str) (fI : Addr) (fd : FuncData) : Prop where
  oex : OexC K C
  init : PySem.W.findIn K (.ref C) "__init__" = some (some (.ref fI))
  fn : PySem.W.typeIn K (.ref fI) = some (.type "function")
  ok : FnOk P w K mg base (L2.CX P w) k fI fd ("self" :: nms) (spXI C nms)
  mgC : mg x = some (.ref C)
section
variable {X : Cx} {m : Am} {es : List Expr} {kws : List Keyword} {ks : List Str} {ra rk : AX} {n k : Nat} {pos p : Pos} {x : Str} {C fI : Addr} {nms : List Str} {fd : FuncData} {dvs : List V} {l : List Src}
/-- C(..), made to be raised or kept -/
theorem pmk_exc (T : XCl X.prog X.w X.K X.mg X.base k x C nms fI fd) (hr : Room (k + 1) X.A) (hx : Passes (L2.CX X.prog X.w) X (fun _ _ _ => False)) (hb : Bd X.K fd ("self" :: nms) (n + 1) ks dvs (.p 0 :: l.map Src.up)) (hg : Gl X x) (hn : n ≤ 1000)
    (ha : PAK X es kws n ks (tAK m n ks.length ra rk)) (hdb : (x == ("__debug__" : Str)) = false := by decide) :
    PMk X (.Call (.Name x p) es kws pos) (fun σ H Q => tAK m n ks.length ra rk σ H fun vs zs H1 => (pick vs dvs zs l).length = nms.length ∧ ∀ d, H1 d = none → Q (.ref C) (some d) (upd H1 d (.xd (nms.zip (pick vs dvs zs l)).reverse))) := by
  intro pins s σ H Q I h
  obtain ⟨nm, q, N, bs, bm, sn, sub, ab, col, dd, k0, k1, k2, k3, k5, hC, hbm⟩ := T.oex.cls
  refine wpAny_Call_Name_kw (ld_glob I hg T.mgC ?_ hdb)
  refine ha.run pos (.ref C) [] pins s σ H _ _ T.oex.kC I h fun us ws s2 vs zs H1 I1 r1 rz l1 l2 ⟨hlen, hq⟩ => ?_
  show wpAny _ _ (call (.ref C) us (ks.zip ws)) _ _ _
  obtain ⟨its, vd, bd⟩ := hb.ex
  obtain ⟨hp, g, dr, tk, os⟩ := s2
  have hsz : hp.objs.size ≤ hp.objs.size + 1 := Nat.le_succ _
  have hn1 : H1 (hp.objs.size + 1) = none := I1.hok.fresh hsz
  have kk : ∀ b o, hp.get? b = some o → ((hp.push (PySem.W.kdv_tup us)).push (PySem.HandSPX.excO C hp.objs.size)).get? b = some o := fun b o e => Heap.get?_push_of_some _ (Heap.get?_push_of_some _ e)
  have hget : ((hp.push (PySem.W.kdv_tup us)).push (PySem.HandSPX.excO C hp.objs.size)).get? (hp.objs.size + 1) = some (PySem.HandSPX.excO C hp.objs.size) := by heap_get
  have I2 : Inv X pins σ (upd H1 (hp.objs.size + 1) (exo (hp.objs.size + 1) C none)) ⟨(hp.push (PySem.W.kdv_tup us)).push (PySem.HandSPX.excO C hp.objs.size), g, dr, tk, os⟩ :=
    I1.laid (t' := tk) (a := hp.objs.size + 1) (o := exo (hp.objs.size + 1) C none) (h' := (hp.push (PySem.W.kdv_tup us)).push (PySem.HandSPX.excO C hp.objs.size)) kk hsz (exo_ok hget)
  have hus : us.length ≤ sizeLine := by
    rw [l1, sizeLine_eq]; omega
  have vp : Vals (V.ref (hp.objs.size + 1) :: pick vs dvs zs l) (Value.ref (hp.objs.size + 1) :: pick us its ws l) := .cons rfl (vals_pick r1 vd rz l)
  have bt := bd ⟨(hp.push (PySem.W.kdv_tup us)).push (PySem.HandSPX.excO C hp.objs.size), g, dr, tk, os⟩ (.ref (hp.objs.size + 1) :: us) ws I2.kIn (by simp [l1]) l2
  rw [pick_self] at bt
  have sp : spXI C nms (.ref (hp.objs.size + 1) :: pick vs dvs zs l) (upd H1 (hp.objs.size + 1) (exo (hp.objs.size + 1) C none))
      (fun v H2 => v = .non ∧ ∃ (d : Addr) (fs : List (Str × V)), H2 (hp.objs.size + 1) = some (exo (hp.objs.size + 1) C (some d)) ∧ H2 d = some (exd d fs) ∧ H1 d = none ∧ Q (.ref C) (some d) (upd (del H2 (hp.objs.size + 1)) d (.xd fs))) (fun _ _ _ => False) := by
    refine ⟨hp.objs.size + 1, _, rfl, hlen, upd_same, fun d H' hd hne ha' hd' hr' => ⟨rfl, d, _, ha', hd', ?_, ?_⟩⟩
    · rw [upd_ne hne] at hd; exact hd
    · have e : upd (del H' (hp.objs.size + 1)) d (.xd (nms.zip (pick vs dvs zs l)).reverse) = upd H1 d (.xd (nms.zip (pick vs dvs zs l)).reverse) := by
        funext b
        by_cases hbd : b = d
        · subst hbd; rw [upd_same, upd_same]
        · rw [upd_ne hbd, upd_ne hbd]
          by_cases hba : b = hp.objs.size + 1
          · subst hba; rw [del_same, hn1]
          · rw [del_ne hba, hr' b hba hbd, upd_ne hba]
      rw [e]
      exact hq d (by rw [upd_ne hne] at hd; exact hd)
  refine wpAny_call (PySem.MeX.call_kw F.excBase_ValueError (fun Y => PySem.HandSPX.refsVE_contains Y bm hbm) (I1.kIn _ _ hC) (PySem.W.looks_findIn I1.kIn T.init) (fun self => PySem.W.bind_fn I1.kIn self T.fn) hus
    (codeAny_mono (T.ok.run _ X.stack _ _ ⟨Value.ref (hp.objs.size + 1) :: us, ks.zip ws⟩ (Value.ref (hp.objs.size + 1) :: pick us its ws l) _ _ (fun _ _ _ => False) (hr.make C us (ks.zip ws)) (I2.env0.make C us (ks.zip ws)) bt vp sp) fun r s' hq' => ?_))
  cases r with
  | error er => exact hx pins σ _ _ er s' I2 hq'
  | ok fl =>
    cases fl with
    | ret u =>
      obtain ⟨v, H2, os2, bare2, un2, hok2, rv, ev, d, fs, ea, ed, hd1, q2⟩ := hq'
      subst ev
      obtain ⟨h2, g2, d2, t2, os'⟩ := s'
      exact ⟨rv, mk_end (raises_own T.oex.exC T.oex.tyC) I1 hsz kk un2 hok2 os2 bare2 ea ed hd1 q2⟩
    | next => exact False.elim hq'
    | brk => exact False.elim hq'
    | cont => exact False.elim hq'
end

/-! ### exceptions as data -/
theorem lookup_none {α β : Type} [BEq α] [LawfulBEq α] {k : α} : ∀ {l : List (α × β)}, k ∉ l.map (·.1) → l.lookup k = none
  | [], _ => rfl
  | (a, b) :: r, h => by
    have h1 : (k == a) = false := by
      simp only [List.map_cons, List.mem_cons, not_or] at h
      exact beq_eq_false_iff_ne.mpr h.1
    rw [List.lookup_cons, h1]
    exact lookup_none fun z => h (by simp only [List.map_cons, List.mem_cons]; exact .inr z)
theorem lookup_snoc {α β : Type} [BEq α] [LawfulBEq α] {k a : α} {b : β} : ∀ {l : List (α × β)}, (l ++ [(a, b)]).lookup k = match l.lookup k with | some x => some x | none => if k == a then some b else none
  | [] => by
    show List.lookup k [(a, b)] = _
    rw [List.lookup_cons]
    cases k == a <;> rfl
  | (c, d) :: r => by
    rw [List.cons_append, List.lookup_cons, List.lookup_cons]
    cases k == c with
    | true => rfl
    | false => exact lookup_snoc
theorem lookup_rev {α β : Type} [BEq α] [LawfulBEq α] {k : α} : ∀ {l : List (α × β)}, (l.map (·.1)).Nodup → l.reverse.lookup k = l.lookup k
  | [], _ => rfl
  | (a, b) :: r, h => by
    have h' : a ∉ r.map (·.1) ∧ (r.map (·.1)).Nodup := List.nodup_cons.mp h
    rw [List.reverse_cons, lookup_snoc, lookup_rev h'.2, List.lookup_cons]
    by_cases e : k = a
    · subst e
      rw [lookup_none h'.1]
      simp
    · have : (k == a) = false := beq_eq_false_iff_ne.mpr e
      rw [this]
      cases r.lookup k <;> rfl
theorem zip_keys {α β : Type} : ∀ {a : List α} {b : List β}, b.length = a.length → (a.zip b).map (·.1) = a
  | [], _, _ => rfl
  | x :: a, [], h => by simp at h
  | x :: a, y :: b, h => by
    simp only [List.zip_cons_cons, List.map_cons]
    rw [zip_keys (by simpa using h)]
noncomputable def mExcG (n k : Nat) (dd : List D) (l : List Src) (nf : Nat) (a b : AX) : DS → M (List D) := fun δ => (a δ).bnd fun x => (b δ).bnd fun y => if x.length = n ∧ y.length = k then (if (pick x dd y l).length = nf then M.ret (pick x dd y l) else M.stuck) else M.stuck
noncomputable def mExc (c n k : Nat) (dd : List D) (l : List Src) (nf : Nat) (a b : AX) : EX := fun δ => (mExcG n k dd l nf a b δ).bnd fun fs => M.ret (.exc c fs)
noncomputable def sRaise (c n k : Nat) (dd : List D) (l : List Src) (nf : Nat) (a b : AX) : SX := sBnd (mExcG n k dd l nf a b) fun fs δ p => some (.er c fs δ, p)
section
variable {X : Cx} {m : Am} {es : List Expr} {kws : List Keyword} {ks : List Str} {ra rk : AX} {n k : Nat} {pos p : Pos} {x : Str} {fI : Addr} {c : Nat} {fd : FuncData} {dvs : List V} {dd : List D} {l : List Src}
theorem tAK_gen {α β : Type} {R : Rl β α} {j : Nat} {g : List D → List D → M α} {σ : St} {H : Hp} {Q : β → Hp → Prop} (h : tY m r0 R () (fun _ δ => (ra δ).bnd fun x => (rk δ).bnd fun y => if x.length = n ∧ y.length = j then g x y else M.stuck) σ H Q) :
    tAK m n j ra rk σ H (fun vs zs H1 => ∃ G p δ ds es, Wd m.S m.pen G H1 p ∧ SlR m.S m.pen m.B G H1 σ δ ∧ Reps m.S G m.pen vs ds ∧ Reps m.S G m.pen zs es ∧ Post m.S m.pen R G H1 Q (fun c d H' => m.W c d σ H') (g ds es p)) := by
  have h' : tY m r0 R () (fun _ δ => ((ra δ).bnd fun x => (rk δ).bnd fun y => if x.length = n ∧ y.length = j then M.ret (x, y) else M.stuck).bnd fun z => g z.1 z.2) σ H Q := by
    obtain ⟨G, p, δ, u, w, sl, r, h⟩ := h
    refine ⟨G, p, δ, u, w, sl, r, ?_⟩
    have e : (((ra δ).bnd fun x => (rk δ).bnd fun y => if x.length = n ∧ y.length = j then M.ret (x, y) else M.stuck).bnd fun z => g z.1 z.2) = (ra δ).bnd fun x => (rk δ).bnd fun y => if x.length = n ∧ y.length = j then g x y else M.stuck := by
      rw [M.assoc]
      congr 1; funext x
      rw [M.assoc]
      congr 1; funext y
      split <;> rfl
    dsimp only at h ⊢
    rw [e]; exact h
  refine (tY_bind (R1 := rP m.rA m.rA) r0_mono h').imp fun v H1 h2 => ?_
  obtain ⟨G, p, δ, ⟨_, ds, es⟩, w, sl, ⟨_, r1, r2⟩, h5⟩ := h2
  exact ⟨G, p, δ, ds, es, w, sl, r1, r2, h5⟩
/-- raise C(..) -/
theorem ms_raise {pos' : Pos} (T : XCl X.prog X.w X.K X.mg X.base k x (m.S.ca c) (m.S.nm c) fI fd) (nd : (m.S.nm c).Nodup) (hc : X.calm = true) (tk : Takes X m.W) (hr : Room (k + 1) X.A) (hx : Passes (L2.CX X.prog X.w) X (fun _ _ _ => False)) (hb : Bd X.K fd ("self" :: m.S.nm c) (n + 1) ks dvs (.p 0 :: l.map Src.up)) (hg : Gl X x) (hn : n ≤ 1000)
    (hdd : ∀ G pen, Reps m.S G pen dvs dd) (ha : PAK X es kws n ks (tAK m n ks.length ra rk)) (hdb : (x == ("__debug__" : Str)) = false := by decide) :
    PS X (.Raise (some (.Call (.Name x p) es kws pos)) none pos') (tS m (sRaise c n ks.length dd l (m.S.nm c).length ra rk)) := by
  refine PS.imp (ps_raise hc tk (pmk_exc T hr hx hb hg hn ha hdb)) fun K σ H h => ?_
  refine (tAK_gen (tS_bind (R := m.rA) h)).imp fun v H1 ⟨G, p, δ, ds, es, w, sl, r1, r2, h5⟩ => ?_
  have rp := reps_pick r1 (hdd G m.pen) r2 l
  split at h5
  · rename_i hl
    refine ⟨by rw [rp.length]; exact hl, fun d hd => ?_⟩
    obtain ⟨a, G1, p1, δ1, w1, x1, sl1, ra1, q1⟩ := h5 (pick v.1 dvs v.2 l) G H1 Ex.refl w rp
    have w2 := Wd.alloc (o := .xd ((m.S.nm c).zip (pick v.1 dvs v.2 l)).reverse) w1 hd
    have x2 : Ex m.pen _ _ _ _ := Ex.alloc (o := .xd ((m.S.nm c).zip (pick v.1 dvs v.2 l)).reverse) hd (w1.gfree hd)
    refine q1 (some d) σ _ _ x2.sub w2 (x1.trans x2) (sl1.ex x2) ⟨_, _, upd_same, fun f => lookup_rev (by rw [zip_keys (by rw [rp.length]; exact hl)]; exact nd), by rw [rp.length]; exact hl, Reps.mono x2.sub ra1⟩
  · exact h5.elim
end
end ME

namespace ME
open PySem PySem.Spec L2

/-! ### operators -/
noncomputable def szOk (n : Nat) : Bool := decide (n ≤ 16777216)
theorem szOk_le {n : Nat} (h : szOk n = true) : n ≤ sizeLine := by rw [sizeLine_eq]; exact of_decide_eq_true h
noncomputable def dAdd : D → D → M D
  | .int i, .int j => M.ret (.int (i + j))
  | .str x, .str y => if szOk (x.length + y.length) then M.ret (.str (x ++ y)) else M.stuck
  | .lst a, .lst b => if szOk (a.length + b.length) then M.ret (.lst (a ++ b)) else M.stuck
  | .tup a, .tup b => if szOk (a.length + b.length) then M.ret (.tup (a ++ b)) else M.stuck
  | _, _ => M.stuck
noncomputable def dSub : D → D → M D
  | .int i, .int j => M.ret (.int (i - j))
  | _, _ => M.stuck
noncomputable def dMul : D → D → M D
  | .int i, .int j => if decide (i.natAbs < 2 ^ 64) || decide (j.natAbs < 2 ^ 64) then M.ret (.int (i * j)) else M.stuck
  | _, _ => M.stuck
noncomputable def dPow : D → D → M D
  | .int i, .int j => if decide (0 ≤ j) && decide (j ≤ 1000000) && decide (i.natAbs < 2 ^ 64) then M.ret (.int (i ^ j.toNat)) else M.stuck
  | _, _ => M.stuck
noncomputable def dMod : D → D → M D
  | .int i, .int j => if decide (0 < j) then M.ret (.int (i % j)) else M.stuck
  | _, _ => M.stuck
noncomputable def dDiv : D → D → M D
  | .int i, .int j => if decide (0 < j) && decide (j < 1073741824) then M.ret (.int (i / j)) else M.stuck
  | _, _ => M.stuck
noncomputable def dNeg : D → M D
  | .int i => M.ret (.int (-i))
  | _ => M.stuck
noncomputable def dCmpI (f : Int → Int → Bool) : D → D → M D
  | .int i, .int j => M.ret (.bl (f i j))
  | _, _ => M.stuck
section
variable {X : Cx} {m : Am}
/-- an end that changes nothing -/
theorem fin_same {G H : Hp} {p : Pn} {Q : VK} {E : XK} {d : D} {v : V} (w : Wd m.S m.pen G H p) (r : Rep m.S G m.pen v d) (h : Post m.S m.pen m.rE G H Q E (M.ret d p)) : Q v H := h v G H Ex.refl w r
/-- an end that lays one frozen object -/
theorem fin_new {G H : Hp} {p : Pn} {Q : VK} {E : XK} {d : D} {o : HO} (w : Wd m.S m.pen G H p) (h : Post m.S m.pen m.rE G H Q E (M.ret d p)) (r : ∀ a, H a = none → Rep m.S (upd G a o) m.pen (.ref a) d) : ∀ a, H a = none → Q (.ref a) (upd H a o) := fun a ha =>
  h (.ref a) _ _ (Ex.alloc ha (w.gfree ha)) (w.alloc ha) (r a ha)
theorem r_add (hK : X.K = m.S.K) : R2Ok m (fun x y H Q => ((rI0 fun i j => .int (i + j)) x y H Q ∨ (∃ i j, x = .str i ∧ y = .str j ∧ i.length + j.length ≤ sizeLine ∧ Q (.str (i ++ j)) H)) ∨ rCat x y H Q ∨ rCatA X.K x y H Q) dAdd := by
  rintro σ x y H Q ⟨G, p, δ, ⟨⟨_, dx⟩, dy⟩, w, sl, ⟨⟨_, rx⟩, ry⟩, h⟩
  have rx : Rep m.S G m.pen x dx := rx
  have ry : Rep m.S G m.pen y dy := ry
  rw [hK]
  cases rx with
  | int i => cases ry with
    | int j => exact .inl (.inl ⟨i, j, rfl, rfl, fin_same w (.int _) h⟩)
    | _ => exact h.elim
  | str i => cases ry with
    | str j =>
      dsimp only [dAdd] at h
      split at h
      · rename_i hz
        exact .inl (.inr ⟨i, j, rfl, rfl, szOk_le hz, fin_same w (.str _) h⟩)
      · exact h.elim
    | _ => exact h.elim
  | @lst a vs ds ha ra => cases ry with
    | @lst b us es hb rb =>
      dsimp only [dAdd] at h
      split at h
      · rename_i hz
        refine .inr (.inl ⟨a, b, vs, us, rfl, rfl, w.sub _ _ ha, w.sub _ _ hb, by rw [ra.length, rb.length]; exact szOk_le hz, fin_new w h fun c hc => ?_⟩)
        exact .lst upd_same ((ra.append rb).mono (Sub.alloc (w.gfree hc)))
      · exact h.elim
    | _ => exact h.elim
  | @tup a vs ds ha ra => cases ry with
    | @tup b us es hb rb =>
      dsimp only [dAdd] at h
      split at h
      · rename_i hz
        refine .inr (.inr ⟨a, b, vs, us, rfl, rfl, w.sub.sqt ha, w.sub.sqt hb, by rw [ra.length, rb.length]; exact szOk_le hz, fun e => ?_, fun _ e => ?_, fun _ _ => fin_new w h fun c hc => ?_⟩)
        · subst e; cases ra; exact fin_same w (.tup hb rb) h
        · subst e; cases rb; rw [List.append_nil] at h; exact fin_same w (.tup ha ra) h
        · exact .tup (.of upd_same) ((ra.append rb).mono (Sub.alloc (w.gfree hc)))
      · exact h.elim
    | _ => exact h.elim
  | _ => exact h.elim
theorem r_sub : R2Ok m (rI0 fun i j => .int (i - j)) dSub := by
  rintro σ x y H Q ⟨G, p, δ, ⟨⟨_, dx⟩, dy⟩, w, sl, ⟨⟨_, rx⟩, ry⟩, h⟩
  have rx : Rep m.S G m.pen x dx := rx
  have ry : Rep m.S G m.pen y dy := ry
  cases rx with
  | int i => cases ry with
    | int j => exact ⟨i, j, rfl, rfl, fin_same w (.int _) h⟩
    | _ => exact h.elim
  | _ => exact h.elim
theorem r_cmpI {f : Int → Int → Bool} : R2Ok m (rI0 fun i j => .bl (f i j)) (dCmpI f) := by
  rintro σ x y H Q ⟨G, p, δ, ⟨⟨_, dx⟩, dy⟩, w, sl, ⟨⟨_, rx⟩, ry⟩, h⟩
  have rx : Rep m.S G m.pen x dx := rx
  have ry : Rep m.S G m.pen y dy := ry
  cases rx with
  | int i => cases ry with
    | int j => exact ⟨i, j, rfl, rfl, fin_same w (.bl _) h⟩
    | _ => exact h.elim
  | _ => exact h.elim
theorem abs64 {i : Int} (h : i.natAbs < 2 ^ 64) : -(2 ^ 64) < i ∧ i < 2 ^ 64 := by omega
theorem r_mul : R2Ok m (rI CMul fun i j => .int (i * j)) dMul := by
  rintro σ x y H Q ⟨G, p, δ, ⟨⟨_, dx⟩, dy⟩, w, sl, ⟨⟨_, rx⟩, ry⟩, h⟩
  have rx : Rep m.S G m.pen x dx := rx
  have ry : Rep m.S G m.pen y dy := ry
  cases rx with
  | int i => cases ry with
    | int j =>
      dsimp only [dMul] at h
      split at h
      · rename_i hz
        refine ⟨i, j, rfl, rfl, ?_, fin_same w (.int _) h⟩
        rcases Bool.or_eq_true _ _ ▸ hz with q | q
        · exact .inl (abs64 (of_decide_eq_true q))
        · exact .inr (abs64 (of_decide_eq_true q))
      · exact h.elim
    | _ => exact h.elim
  | _ => exact h.elim
theorem r_pow : R2Ok m (rI CPow fun i j => .int (i ^ j.toNat)) dPow := by
  rintro σ x y H Q ⟨G, p, δ, ⟨⟨_, dx⟩, dy⟩, w, sl, ⟨⟨_, rx⟩, ry⟩, h⟩
  have rx : Rep m.S G m.pen x dx := rx
  have ry : Rep m.S G m.pen y dy := ry
  cases rx with
  | int i => cases ry with
    | int j =>
      dsimp only [dPow] at h
      split at h
      · rename_i hz
        simp only [Bool.and_eq_true, decide_eq_true_eq] at hz
        exact ⟨i, j, rfl, rfl, ⟨hz.1.1, hz.1.2, hz.2⟩, fin_same w (.int _) h⟩
      · exact h.elim
    | _ => exact h.elim
  | _ => exact h.elim
theorem r_mod : R2Ok m (rI (fun _ j => 0 < j) fun i j => .int (i % j)) dMod := by
  rintro σ x y H Q ⟨G, p, δ, ⟨⟨_, dx⟩, dy⟩, w, sl, ⟨⟨_, rx⟩, ry⟩, h⟩
  have rx : Rep m.S G m.pen x dx := rx
  have ry : Rep m.S G m.pen y dy := ry
  cases rx with
  | int i => cases ry with
    | int j =>
      dsimp only [dMod] at h
      split at h
      · rename_i hz
        exact ⟨i, j, rfl, rfl, of_decide_eq_true hz, fin_same w (.int _) h⟩
      · exact h.elim
    | _ => exact h.elim
  | _ => exact h.elim
theorem r_neg : R1Ok m (rU fun i => .int (-i)) dNeg := by
  rintro σ x H Q ⟨G, p, δ, ⟨_, dx⟩, w, sl, ⟨_, rx⟩, h⟩
  have rx : Rep m.S G m.pen x dx := rx
  cases rx with
  | int i => exact ⟨i, rfl, fin_same w (.int _) h⟩
  | _ => exact h.elim
theorem op_addD : OpR X (binaryOp .Add) (fun x y H Q => ((rI0 fun i j => .int (i + j)) x y H Q ∨ (∃ i j, x = .str i ∧ y = .str j ∧ i.length + j.length ≤ sizeLine ∧ Q (.str (i ++ j)) H)) ∨ rCat x y H Q ∨ rCatA X.K x y H Q) :=
  OpR.or (OpR.or op_add op_add_str) (OpR.or op_cat op_catA)
end
/-! ### displays, items, len -/
noncomputable def mLst (a : AX) : EX := fun δ => (a δ).bnd fun xs => if szOk xs.length then M.ret (.lst xs) else M.stuck
noncomputable def mTup (a : AX) : EX := fun δ => (a δ).bnd fun xs => if szOk xs.length then M.ret (.tup xs) else M.stuck
/-- x[i] -/
noncomputable def dIx : D → D → M D
  | .lst l, .int i => M.opt (atI l i)
  | .tup l, .int i => M.opt (atI l i)
  | .str z, .int i => if szOk z.length then (match atI z.cps.toList i with | some c => M.ret (.str ⟨#[c]⟩) | none => M.stuck) else M.stuck
  | _, _ => M.stuck
noncomputable def dLen : List D → M D
  | [.lst l] => M.ret (.int l.length)
  | [.tup l] => M.ret (.int l.length)
  | [.dct l] => M.ret (.int l.length)
  | [.str x] => if szOk x.length then M.ret (.int x.length) else M.stuck
  | _ => M.stuck
/-- a built-in called -/
noncomputable def mCB (f : List D → M D) (a : AX) : EX := fun δ => (a δ).bnd f
section
variable {X : Cx} {m : Am} {a b e : Expr} {es : List Expr} {pos : Pos} {ea eb : EX} {ra : AX}
theorem me_lst (h : PA X es (tAs m ra)) : PE X (.List es pos) (tE m (mLst ra)) := by
  refine PE.imp (pe_lst h) fun σ H Q h => ?_
  refine (tY_bind (R1 := m.rA) r0_mono h).imp fun vs H1 h2 => ?_
  obtain ⟨G, p, δ, ⟨_, ds⟩, w, sl, ⟨_, r⟩, h5⟩ := h2
  have r : Reps m.S G m.pen vs ds := r
  dsimp only at h5
  split at h5
  · rename_i hz
    exact ⟨by rw [r.length]; exact szOk_le hz, fin_new w h5 fun c hc => .lst upd_same (r.mono (Sub.alloc (w.gfree hc)))⟩
  · exact h5.elim
theorem me_tup {x1 : Nat} (h : PA X es (tAs m ra)) : PE X (.Tuple es x1 pos) (tE m (mTup ra)) := by
  refine PE.imp (pe_tup h) fun σ H Q h => ?_
  refine (tY_bind (R1 := m.rA) r0_mono h).imp fun vs H1 h2 => ?_
  obtain ⟨G, p, δ, ⟨_, ds⟩, w, sl, ⟨_, r⟩, h5⟩ := h2
  have r : Reps m.S G m.pen vs ds := r
  dsimp only at h5
  split at h5
  · rename_i hz
    exact ⟨by rw [r.length]; exact szOk_le hz, fin_new w h5 fun c hc => .tup (.of upd_same) (r.mono (Sub.alloc (w.gfree hc)))⟩
  · exact h5.elim
theorem reps_at {S : Sg} {G : Hp} {pen : Addr} {vs : List V} {ds : List D} {i : Int} {d : D} (r : Reps S G pen vs ds) (e : atI ds i = some d) : ∃ v, atI vs i = some v ∧ Rep S G pen v d := by
  unfold atI at e ⊢
  rw [r.length]
  cases q : ixN ds.length i with
  | none => rw [q] at e; cases e
  | some j => rw [q] at e; exact r.get e
theorem r_ix (hK : X.K = m.S.K) : R2Ok m (fun x y H Q => rIxL X.K x y H Q ∨ rIxT X.K x y H Q ∨ rIxS x y H Q) dIx := by
  rintro σ x y H Q ⟨G, p, δ, ⟨⟨_, dx⟩, dy⟩, w, sl, ⟨⟨_, rx⟩, ry⟩, h⟩
  have rx : Rep m.S G m.pen x dx := rx
  have ry : Rep m.S G m.pen y dy := ry
  rw [hK]
  cases rx with
  | @lst a vs ds ha ra => cases ry with
    | int i =>
      dsimp only [dIx] at h
      cases q : atI ds i with
      | none => rw [q] at h; exact h.elim
      | some d =>
        rw [q] at h
        obtain ⟨v, ev, rv⟩ := reps_at ra q
        exact .inl ⟨a, vs, i, v, rfl, rfl, .of (w.sub _ _ ha), ev, fin_same w rv h⟩
    | _ => exact h.elim
  | @tup a vs ds ha ra => cases ry with
    | int i =>
      dsimp only [dIx] at h
      cases q : atI ds i with
      | none => rw [q] at h; exact h.elim
      | some d =>
        rw [q] at h
        obtain ⟨v, ev, rv⟩ := reps_at ra q
        exact .inr (.inl ⟨a, vs, i, v, rfl, rfl, w.sub.sqt ha, ev, fin_same w rv h⟩)
    | _ => exact h.elim
  | str z => cases ry with
    | int i =>
      dsimp only [dIx] at h
      split at h
      · rename_i hz
        cases q : atI z.cps.toList i with
        | none => rw [q] at h; exact h.elim
        | some c => rw [q] at h; exact .inr (.inr ⟨z, i, c, rfl, rfl, szOk_le hz, q, fin_same w (.str _) h⟩)
      · exact h.elim
    | _ => exact h.elim
  | _ => exact h.elim
theorem IxR.or {r r' : R2} (h : IxR X r) (h' : IxR X r') : IxR X (fun x y H Q => r x y H Q ∨ r' x y H Q) := by
  intro value slice pins s σ H x y v u Q I rx ry q hs
  rcases q with q | q
  · exact h value slice pins s σ H x y v u Q I rx ry q hs
  · exact h' value slice pins s σ H x y v u Q I rx ry q hs
theorem me_ix (hK : X.K = m.S.K) (ha : PE X a (tE m ea)) (hb : PE X b (tE m eb)) (hs : PlainIx b) : PE X (.Subscript a b pos) (tE m (mBin dIx ea eb)) := by
  refine PE.imp (pe_ix (IxR.or ix_list (IxR.or ix_tup ix_str)) ha hb hs) fun σ H Q h => ?_
  refine (tY_bind (R1 := m.rE) r0_mono h).imp fun x H1 h2 => ?_
  exact (tY_bind (R1 := m.rE) (rP_mono r0_mono (rE_mono m)) h2).imp fun y H2 h4 => r_ix hK σ x y H2 Q h4
/-- a built-in function by its name -/
noncomputable def RAOk (m : Am) (r : List V → Hp → VK → Prop) (f : List D → M D) : Prop := ∀ σ xs H Q, tY m (rP r0 m.rA) m.rE ((), xs) (fun z _ => f z.2) σ H Q → r xs H Q
theorem me_cb {id : String} {x : Str} {p : Pos} {r : List V → Hp → VK → Prop} {f : List D → M D} (hc : CallR X (.builtin id) r) (hr : RAOk m r f) (hg : Gl X x) (hm : X.mg x = none) (hv : bootBuiltins x = some (.builtin id)) (ha : PA X (e :: es) (tAs m ra)) (hn : x ≠ "__name__" := by decide) (hdb : (x == ("__debug__" : Str)) = false := by decide)
    (he : starEach (e :: es) X.env = (false, eval e X.env) :: starEach es X.env := by rfl) (hpl : (backTo pos (starEach es X.env)).any (·.1) = false := by rfl) : PE X (.Call (.Name x p) (e :: es) [] pos) (tE m (mCB f ra)) := by
  refine PE.imp (pe_callB hc hg hm hv ha hn hdb he hpl) fun σ H Q h => ?_
  exact (tY_bind (R1 := m.rA) r0_mono h).imp fun xs H1 h2 => hr σ xs H1 Q h2
theorem me_cty {T : String} {x : Str} {p : Pos} {r : List V → Hp → VK → Prop} {f : List D → M D} (hc : CallR X (.type T) r) (hr : RAOk m r f) (hg : Gl X x) (hm : X.mg x = none) (hv : bootBuiltins x = some (.type T)) (ha : PA X (e :: es) (tAs m ra)) (hn : x ≠ "__name__" := by decide) (hdb : (x == ("__debug__" : Str)) = false := by decide)
    (he : starEach (e :: es) X.env = (false, eval e X.env) :: starEach es X.env := by rfl) (hpl : (backTo pos (starEach es X.env)).any (·.1) = false := by rfl) : PE X (.Call (.Name x p) (e :: es) [] pos) (tE m (mCB f ra)) := by
  refine PE.imp (pe_callTy hc hg hm hv ha hn hdb he hpl) fun σ H Q h => ?_
  exact (tY_bind (R1 := m.rA) r0_mono h).imp fun xs H1 h2 => hr σ xs H1 Q h2
theorem CallR.or {f : Value} {r r' : List V → Hp → VK → Prop} (h : CallR X f r) (h' : CallR X f r') : CallR X f (fun xs H Q => r xs H Q ∨ r' xs H Q) := by
  intro pins s σ H xs us Q I r q
  rcases q with q | q
  · exact h pins s σ H xs us Q I r q
  · exact h' pins s σ H xs us Q I r q
end
end ME

namespace ME
open PySem PySem.Spec L2

/-! ### targets -/
noncomputable abbrev GX := D → DS → Option DS
noncomputable abbrev GXs := List D → DS → Option DS
noncomputable def gN (i : Nat) : GX := fun d δ => some (δ.set i (some (.d d)))
noncomputable def gT (g : GXs) : GX := fun d δ => match d with
  | .tup ds => g ds δ
  | _ => none
noncomputable def gs0 : GXs := fun ds δ => match ds with
  | [] => some δ
  | _ => none
noncomputable def gs1 (g : GX) (r : GXs) : GXs := fun ds δ => match ds with
  | d :: l => match g d δ with
    | some δ' => r l δ'
    | none => none
  | [] => none
/-- slots outside js are as they were -/
noncomputable def Off (js : List Nat) (σ σ' : St) : Prop := σ'.length = σ.length ∧ ∀ j, j ∉ js → σ'[j]? = σ[j]?
theorem Off.trans {js : List Nat} {a b c : St} (h : Off js a b) (k : Off js b c) : Off js a c := ⟨k.1.trans h.1, fun j hj => (k.2 j hj).trans (h.2 j hj)⟩
noncomputable def tG (m : Am) (js : List Nat) (g : GX) : TG := fun v σ H Q => ∃ G p δ d, Wd m.S m.pen G H p ∧ SlR m.S m.pen m.B G H σ δ ∧ Rep m.S G m.pen v d ∧ ∃ δ', g d δ = some δ' ∧ ∀ σ', Off js σ σ' → SlR m.S m.pen m.B G H σ' δ' → Q σ' H
noncomputable def tGs (m : Am) (js : List Nat) (g : GXs) : TGs := fun vs σ H Q => ∃ G p δ ds, Wd m.S m.pen G H p ∧ SlR m.S m.pen m.B G H σ δ ∧ Reps m.S G m.pen vs ds ∧ ∃ δ', g ds δ = some δ' ∧ ∀ σ', Off js σ σ' → SlR m.S m.pen m.B G H σ' δ' → Q σ' H
theorem PG.imp {X : Cx} {e : Expr} {t t' : TG} (h : PG X e t) (i : ∀ v σ H Q, t' v σ H Q → t v σ H Q) : PG X e t' := ⟨fun pins s σ H v u Q I r q => h.run pins s σ H v u Q I r (i v σ H Q q)⟩
theorem PGs.imp {X : Cx} {e : List Expr} {t t' : TGs} (h : PGs X e t) (i : ∀ v σ H Q, t' v σ H Q → t v σ H Q) : PGs X e t' := ⟨fun pins s σ H v u Q I r q => h.run pins s σ H v u Q I r (i v σ H Q q)⟩
section
variable {X : Cx} {m : Am} {js : List Nat} {pos : Pos}
theorem mg_name {i : Nat} {x : Str} (hN : X.N.Nodup) (hi : X.N[i]? = some x) (hx : Loc X.env.scope x) (hj : i ∈ js) (hf : X.fn x = true ∨ X.env.scope.names.lookup x = some .local := by first | exact .inl rfl | exact .inr rfl | assumption) : PG X (.Name x pos) (tG m js (gN i)) := by
  refine PG.imp (pg_name hN hi hx hf) fun v σ H Q ⟨G, p, δ, d, w, sl, r, δ', e, q⟩ => ?_
  have e' : δ.set i (some (.d d)) = δ' := Option.some.inj e
  subst e'
  exact q _ ⟨by simp, fun j hj' => List.getElem?_set_ne (fun z : i = j => hj' (z ▸ hj))⟩ (sl.set r)
theorem mgs_nil : PGs X [] (tGs m js gs0) := by
  refine PGs.imp pgs_nil fun vs σ H Q ⟨G, p, δ, ds, w, sl, r, δ', e, q⟩ => ?_
  cases r with
  | nil => cases e; exact ⟨rfl, q σ ⟨rfl, fun _ _ => rfl⟩ sl⟩
  | cons _ _ => cases e
theorem mgs_cons {e : Expr} {es : List Expr} {g : GX} {u : GXs} (h1 : PG X e (tG m js g)) (h2 : PGs X es (tGs m js u)) (hs : (assignEach (e :: es) X.env).map (·.2) = assign e X.env :: (assignEach es X.env).map (·.2) := by rfl) : PGs X (e :: es) (tGs m js (gs1 g u)) := by
  refine PGs.imp (pgs_cons h1 h2 hs) fun vs σ H Q ⟨G, p, δ, ds, w, sl, r, δ', e, q⟩ => ?_
  cases r with
  | nil => cases e
  | @cons v vs d ds rv rr =>
    dsimp only [gs1] at e
    cases h : g d δ with
    | none => rw [h] at e; cases e
    | some δ1 =>
      rw [h] at e
      exact ⟨v, vs, rfl, G, p, δ, d, w, sl, rv, δ1, h, fun σ1 o1 sl1 => ⟨G, p, δ1, ds, w, sl1, rr, δ', e, fun σ2 o2 sl2 => q σ2 (o1.trans o2) sl2⟩⟩
theorem mg_tup {es : List Expr} {k n : Nat} {g : GXs} (hK : X.K = m.S.K) (hc : X.calm = true) (h : PGs X es (tGs m js g)) (hn : (assignEach es X.env).length = n) (hl : ∀ ds δ δ', g ds δ = some δ' → ds.length = n) (hst : (assignEach es X.env).findIdx? (·.1) = none := by rfl) : PG X (.Tuple es k pos) (tG m js (gT g)) := by
  refine PG.imp (pg_tup hc h hn hst) fun v σ H Q ⟨G, p, δ, d, w, sl, r, δ', e, q⟩ => ?_
  cases r with
  | @tup a vs ds ha ra =>
    have e' : g ds δ = some δ' := e
    refine ⟨a, vs, rfl, ?_, by rw [ra.length]; exact hl ds δ δ' e', G, p, δ, ds, w, sl, ra, δ', e', q⟩
    rw [hK]; exact w.sub.sqt ha
  | _ => cases e
end

/-! ### what is walked -/
/-- the iterator J gives ds, one after another -/
noncomputable def ItR (m : Am) (G : Hp) (J : It) (ds : List D) : Prop := ∀ G' H p, Sub G G' → Wd m.S m.pen G' H p →
  (∀ i d, ds[i]? = some d → J.go i H ∧ ∀ x H', J.yld i H x H' → ∃ G'', Ex m.pen G' H G'' H' ∧ Wd m.S m.pen G'' H' p ∧ Rep m.S G'' m.pen x d) ∧ (∀ i, ds.length ≤ i → J.stop i H)
noncomputable def rIt (m : Am) : Rl It (List D) := fun G J ds => ItR m G J ds
noncomputable def tI (m : Am) (f : DS → M (List D)) : TI := fun σ H R => tY m r0 (rIt m) () (fun _ => f) σ H R
theorem PI.imp {X : Cx} {tg e : Expr} {t t' : TI} (h : PI X tg e t) (i : ∀ σ H R, t' σ H R → t σ H R) : PI X tg e t' := ⟨fun pins s σ H R I q => h.run pins s σ H R I (i σ H R q)⟩
/-- the items of a list, of a tuple -/
noncomputable def iLst (e : EX) : DS → M (List D) := fun δ => (e δ).bnd fun d => match d with
  | .lst l => M.ret l
  | _ => M.stuck
noncomputable def iTpl (e : EX) : DS → M (List D) := fun δ => (e δ).bnd fun d => match d with
  | .tup l => M.ret l
  | _ => M.stuck
noncomputable def iRng (e : AX) : DS → M (List D) := fun δ => (e δ).bnd fun d => match d with
  | [.int j] => if decide (-(2 ^ 62) ≤ j) && decide (j < 2 ^ 62) then M.ret ((List.range j.toNat).map fun (i : Nat) => D.int (i : Int)) else M.stuck
  | _ => M.stuck
section
variable {X : Cx} {m : Am} {tg e : Expr} {ea : EX} {ra : AX}
theorem mi_rng {p pos : Pos} (hg : Gl X "range") (hm : X.mg "range" = none) (ha : PA X [e] (tAs m ra)) (hs : starEach [e] X.env = [(false, eval e X.env)] := by rfl) : PI X tg (.Call (.Name "range" p) [e] [] pos) (tI m (iRng ra)) := by
  refine PI.imp (pi_range1 hg hm ha hs) fun σ H R h => ?_
  refine (tY_bind (R1 := m.rA) r0_mono h).imp fun xs H1 h2 => ?_
  obtain ⟨G, p, δ, ⟨_, ds⟩, w, sl, ⟨_, r⟩, h5⟩ := h2
  have r : Reps m.S G m.pen xs ds := r
  dsimp only at h5
  split at h5
  · cases r with
    | cons r1 r2 =>
      cases r2
      cases r1 with
      | int j =>
        split at h5
        · rename_i hz
          simp only [Bool.and_eq_true, decide_eq_true_eq] at hz
          refine ⟨_, rfl, hz.1, hz.2, h5 _ G H1 Ex.refl w ?_⟩
          intro G' H' p' s' w'
          refine ⟨fun i d e => ?_, fun i hi => by rw [List.length_map, List.length_range] at hi; exact hi⟩
          rw [List.getElem?_map] at e
          cases q : (List.range (Int.toNat _))[i]? with
          | none => rw [q] at e; cases e
          | some k =>
          rw [q] at e
          cases e
          have hi := (List.getElem?_eq_some_iff.mp q).1
          rw [List.length_range] at hi
          rw [List.getElem?_range hi] at q
          cases q
          refine ⟨hi, fun y H2 ⟨e2, q⟩ => ?_⟩
          subst e2 q
          refine ⟨G', Ex.refl, w', ?_⟩
          have : (0 : Int) + i = (i : Int) := by omega
          rw [this]
          exact .int _
        · exact h5.elim
  · exact h5.elim
end

/-! ### for -/
noncomputable def forGo (g : GX) (s : SX) : List D → SX
  | [], δ, p => some (.nx δ, p)
  | d :: ds, δ, p => match g d δ with
    | none => none
    | some δ1 => match s δ1 p with
      | some (.nx δ2, p2) => forGo g s ds δ2 p2
      | some (.ct δ2, p2) => forGo g s ds δ2 p2
      | some (.bk δ2, p2) => some (.nx δ2, p2)
      | r => r
noncomputable def sFor (f : DS → M (List D)) (g : GX) (s : SX) : SX := sBnd f fun ds => forGo g s ds
section
variable {X : Cx} {m : Am} {tg iter : Expr} {body : List Stmt} {f : DS → M (List D)} {g : GX} {s : SX} {js : List Nat} {pos : Pos}
theorem ms_for (hp : PassesOwn (model X.prog X.w) X.A X.env X.xe) (hc : X.calm = true) (hi : PI X tg iter (tI m f)) (hg : PG X tg (tG m js g)) (hb : PSs X body (tS m s)) (hs : ∀ x, foldedSetIterable iter X.env x = pure x := by intro _; rfl) :
    PS X (.For tg iter body [] pos) (tS m (sFor f g s)) := by
  refine PS.imp (ps_for hp hc hi hg hb hs) fun K σ H h => ?_
  refine (tS_bind (R := rIt m) h).imp fun J H1 ⟨ds, G1, p1, δ1, w1, x1, sl1, it, q1⟩ => ?_
  let W : Nat → Nat → St → Hp → Prop := fun i n σ H => n = ds.length - i ∧ i ≤ ds.length ∧ ∃ G p δ, Sub G1 G ∧ Wd m.S m.pen G H p ∧ Ex m.pen m.G0 m.B G H ∧ SlR m.S m.pen m.B G H σ δ ∧ PostS m K G (forGo g s (ds.drop i) δ p)
  refine ⟨W, ⟨_, rfl, Nat.zero_le _, G1, p1, δ1, Sub.refl _, w1, x1, sl1, q1⟩, ?_⟩
  rintro i n σ2 H2 ⟨rfl, hle, G, p, δ, sb, w, x, sl, q⟩
  obtain ⟨go, st⟩ := it G H2 p sb w
  by_cases hi : i < ds.length
  · right
    have hd : ds[i]? = some ds[i] := List.getElem?_eq_getElem hi
    obtain ⟨g1, g2⟩ := go i _ hd
    refine ⟨g1, W (i + 1) (ds.length - (i + 1)), fun σ' H' hN => ⟨_, by omega, hN⟩, fun y H' hy => ?_⟩
    obtain ⟨G'', x'', w'', r''⟩ := g2 y H' hy
    rw [List.drop_eq_getElem_cons hi] at q
    dsimp only [forGo] at q
    cases hg' : g ds[i] δ with
    | none => rw [hg'] at q; exact q.elim
    | some δ' =>
      rw [hg'] at q
      refine ⟨G'', p, δ, ds[i], w'', sl.ex x'', r'', δ', hg', fun σ' _ sl' => ⟨G'', p, δ', w'', x.trans x'', sl', ?_⟩⟩
      dsimp only at q
      rcases hs' : s δ' p with _ | ⟨o, p2⟩
      · rw [hs'] at q; exact q
      · rw [hs'] at q
        cases o with
        | nx δ2 => exact fun σ3 G3 H3 s3 w3 x3 sl3 => ⟨rfl, hi, G3, p2, δ2, sb.trans (x''.sub.trans s3), w3, x3, sl3, q.mono (x''.sub.trans s3)⟩
        | ct δ2 => exact fun σ3 G3 H3 s3 w3 x3 sl3 => ⟨rfl, hi, G3, p2, δ2, sb.trans (x''.sub.trans s3), w3, x3, sl3, q.mono (x''.sub.trans s3)⟩
        | bk δ2 => exact q.mono x''.sub
        | rt d => exact q.mono x''.sub
        | er c fs δ2 => exact q.mono x''.sub
  · left
    have : i = ds.length := by omega
    subst this
    refine ⟨st _ (Nat.le_refl _), ?_⟩
    rw [List.drop_length] at q
    exact q σ2 G H2 (Sub.refl _) w x sl
end
end ME

namespace ME
open PySem PySem.Spec L2

noncomputable def wipeD (δ : DS) : List Nat → DS
  | [] => δ
  | v :: vs => (wipeD δ vs).set v none
noncomputable def M.calm {α : Type} (m : M α) : M α := fun p => match m p with
  | some (.ok a, p') => some (.ok a, p')
  | _ => none
noncomputable def compGo (g : GX) (t : TX) (e : EX) (δ : DS) : List D → List D → M D
  | [], acc => if szOk acc.length then M.ret (.lst acc) else M.stuck
  | d :: r, acc => match g d δ with
    | none => M.stuck
    | some δ1 => (t δ1).calm.bnd fun b => if b = true then (e δ1).calm.bnd fun y => if decide (acc.length < 16777216) then compGo g t e δ r (acc ++ [y]) else M.stuck else compGo g t e δ r acc
noncomputable def mComp (f : DS → M (List D)) (g : GX) (t : TX) (e : EX) (vs : List Nat) : EX := fun δ => (f δ).bnd fun ds => compGo g t e (wipeD δ vs) ds []
noncomputable def mYes : TX := fun _ => M.ret true
noncomputable abbrev Am.nox (m : Am) : Am := { m with W := fun _ _ _ _ => False }
section
variable {S : Sg} {pen : Addr} {B G H : Hp} {σ : St} {δ : DS}
theorem SlR.setNone {i : Nat} (sl : SlR S pen B G H σ δ) : SlR S pen B G H (σ.set i none) (δ.set i none) := by
  have old : ∀ (j : Nat) s, (δ.set i none)[j]? = some (some s) → δ[j]? = some (some s) ∧ j ≠ i := fun j s e => by
    by_cases hj : i = j
    · subst hj
      rw [List.getElem?_set] at e
      simp only [if_true] at e
      split at e
      · cases e
      · cases e
    · rw [List.getElem?_set_ne hj] at e
      exact ⟨e, Ne.symm hj⟩
  have same : ∀ (j : Nat), j ≠ i → (σ.set i Option.none)[j]? = σ[j]? := fun j hj => List.getElem?_set_ne (Ne.symm hj)
  refine ⟨by simp [sl.len], fun j x e => ?_, fun j xs e => ?_, fun j xs e => ?_, fun j c xs e => ?_, fun j k s t l e1 e2 n1 n2 f1 f2 => ?_⟩
  · obtain ⟨e', hj⟩ := old j _ e
    rw [same j hj]; exact sl.val j x e'
  · obtain ⟨e', hj⟩ := old j _ e
    rw [same j hj]; exact sl.ml j xs e'
  · obtain ⟨e', hj⟩ := old j _ e
    rw [same j hj]; exact sl.md j xs e'
  · obtain ⟨e', hj⟩ := old j _ e
    rw [same j hj]; exact sl.mo j c xs e'
  · obtain ⟨e1', hj⟩ := old j _ e1
    obtain ⟨e2', hk⟩ := old k _ e2
    rw [same j hj] at f1
    rw [same k hk] at f2
    exact sl.inj j k s t l e1' e2' n1 n2 f1 f2
theorem SlR.wipe (sl : SlR S pen B G H σ δ) : ∀ vs : List Nat, SlR S pen B G H (wipe σ vs) (wipeD δ vs)
  | [] => sl
  | v :: vs => (SlR.wipe sl vs).setNone
theorem wipe_in {σ : St} {j : Nat} : ∀ {vs : List Nat}, j ∈ vs → j < σ.length → (wipe σ vs)[j]? = some none
  | v :: vs, h, hl => by
    unfold L2.wipe
    by_cases e : v = j
    · subst e
      rw [List.getElem?_set_self (by rw [wipe_length]; exact hl)]
    · rw [List.getElem?_set_ne e]
      exact wipe_in (by rcases List.mem_cons.mp h with z | z; exact absurd z.symm e; exact z) hl
theorem Off.wipe {vs : List Nat} {σ σ' : St} (h : Off vs (wipe σ vs) σ') : wipe σ' vs = wipe σ vs := by
  apply List.ext_getElem?
  intro j
  have hl : σ'.length = σ.length := by rw [h.1, wipe_length]
  by_cases hj : j ∈ vs
  · by_cases hb : j < σ.length
    · rw [wipe_in hj hb, wipe_in hj (by rw [hl]; exact hb)]
    · rw [List.getElem?_eq_none (by rw [wipe_length, hl]; omega), List.getElem?_eq_none (by rw [wipe_length]; omega)]
  · rw [wipe_out hj, h.2 j hj]
theorem Wd.freeze {p : Pn} {a : Addr} {o : HO} (w : Wd S pen G H p) (h : H a = some o) (hg : G a = none) (hp : a ≠ pen) (ht : ∀ x, o ≠ .tbl x := by intro _ z; cases z) : Wd S pen (upd G a o) H p := by
  obtain ⟨l, e, c⟩ := id w.pn
  have tn : ∀ q ∈ S.T, q.1 ≠ a := fun q hq z => by
    obtain ⟨ps, hP, _⟩ := w.tabs q hq
    rw [z, h] at hP; exact ht _ (Option.some.inj hP)
  refine ⟨fun b u q => ?_, ?_, ⟨l, e, Sub.alloc hg _ _ c⟩, w.tabs, fun q hq => by rw [upd_ne (tn q hq)]; exact w.gt q hq⟩
  · by_cases z : b = a
    · subst z; rw [upd_same] at q; rw [h]; exact q
    · rw [upd_ne z] at q; exact w.sub b u q
  · rw [upd_ne (Ne.symm hp)]; exact w.np
/-- an unfrozen object is written -/
theorem Wd.writeM {p : Pn} {a : Addr} {o u : HO} (w : Wd S pen G H p) (h : H a = some u) (hu : ∀ x, u ≠ .tbl x) (hx : ∀ (c : Addr) (q : Str), u ≠ LamX.CodeO c q) (hg : G a = none) (hp : a ≠ pen) : Wd S pen G (upd H a o) p := by
  obtain ⟨l, e, c⟩ := id w.pn
  refine ⟨fun b v q => ?_, w.np, ⟨l, by rw [upd_ne (Ne.symm hp)]; exact e, c⟩, fun t ht => ?_, w.gt⟩
  · have : b ≠ a := fun z => by rw [z, hg] at q; cases q
    rw [upd_ne this]; exact w.sub b v q
  · obtain ⟨ps, h1, h2, h3⟩ := w.tabs t ht
    refine ⟨ps, ?_, h2, fun pos cv hc => ?_⟩
    · have : t.1 ≠ a := fun z => by rw [z, h] at h1; exact hu ps (Option.some.inj h1)
      rw [upd_ne this]; exact h1
    · obtain ⟨c', e1, e2⟩ := h3 pos cv hc
      have : c' ≠ a := fun z => by rw [z, h] at e2; exact hx _ _ (Option.some.inj e2)
      exact ⟨c', e1, by rw [upd_ne this]; exact e2⟩
theorem lst_code {xs : List V} (c : Addr) (q : Str) : HO.lst xs ≠ LamX.CodeO c q := by intro z; cases z
end
section
variable {X : Cx} {m : Am} {pos : Pos}
theorem mts_nil : PTs X [] (tT m mYes) := by
  have h0 := pts_nil (X := X)
  refine ⟨fun pins s σ H Q I h => h0.run pins s σ H Q I ?_⟩
  obtain ⟨G, p, δ, _, w, sl, _, h5⟩ := h
  exact h5 true G H Ex.refl w rfl
theorem mts_one {c : Expr} {t : TX} (h : PT X c (tT m t)) : PTs X [c] (tT m t) := pts_one h
theorem tLc_of {own : List (Str × Nat)} {f : DS → M (List D)} {g : GX} {t : TX} {e : EX} {σ : St} {H : Hp} {Q : VK} (h : tE m (mComp f g t e (own.map (·.2))) σ H Q) :
    tLc (tI m f) (tG m.nox (own.map (·.2)) g) (tT m.nox t) (tE m.nox e) (own.map (·.2)) σ H Q := by
  refine (tY_bind (R1 := rIt m) r0_mono h).imp fun J H1 h2 => ?_
  obtain ⟨G1, p1, δ, ⟨_, ds⟩, w1, sl1, ⟨_, it⟩, q1⟩ := h2
  have it : ItR m G1 J ds := it
  intro L hL
  have nL : L ≠ m.pen := w1.ne hL
  have gL : G1 L = none := w1.gfree hL
  let W : Nat → Nat → Hp → Prop := fun i n H => n = ds.length - i ∧ i ≤ ds.length ∧ ∃ G p acc us, Wd m.S m.pen G H p ∧ Ex m.pen G1 H1 G H ∧ G L = none ∧ H L = some (.lst us) ∧ Reps m.S G m.pen us acc ∧
    Post m.S m.pen m.rE G1 H1 Q (fun c d H' => m.W c d σ H') (compGo g t e (wipeD δ (own.map (·.2))) (ds.drop i) acc p)
  refine ⟨W, ⟨_, rfl, Nat.zero_le _, G1, p1, [], [], w1.allocM hL, Ex.allocM hL, gL, upd_same, .nil, q1⟩, ?_⟩
  rintro i n H2 ⟨rfl, hle, G, p, acc, us, w, x, gl, hl, ra, q⟩
  obtain ⟨go, st⟩ := it G H2 p x.sub w
  by_cases hi : i < ds.length
  · right
    have hd : ds[i]? = some ds[i] := List.getElem?_eq_getElem hi
    obtain ⟨g1, g2⟩ := go i _ hd
    refine ⟨g1, W (i + 1) (ds.length - (i + 1)), fun H' hN => ⟨_, by omega, hN⟩, fun y H' hy => ?_⟩
    obtain ⟨G'', x'', w'', r''⟩ := g2 y H' hy
    rw [List.drop_eq_getElem_cons hi] at q
    dsimp only [compGo] at q
    cases hg' : g ds[i] (wipeD δ (own.map (·.2))) with
    | none => rw [hg'] at q; exact q.elim
    | some δ' =>
      rw [hg'] at q
      dsimp only at q
      refine ⟨G'', p, _, ds[i], w'', (sl1.ex (x.trans x'')).wipe _, r'', δ', hg', fun σ' o' sl' => ⟨o'.wipe, G'', p, δ', (), w'', sl', trivial, ?_⟩⟩
      dsimp only [M.bnd, M.calm] at q ⊢
      rcases hs' : t δ' p with _ | ⟨o, p2⟩
      · rw [hs'] at q; exact q.elim
      · rw [hs'] at q
        cases o with
        | ex c fs => exact q.elim
        | ok b =>
          intro b' G3 H3 x3 w3 eb
          have eb : b' = b := eb
          subst eb
          dsimp only at q
          have x13 := (x.trans x'').trans x3
          have hl3 : H3 L = some (.lst us) := x3.keep L _ nL (by intro _ z; cases z) (x''.keep L _ nL (by intro _ z; cases z) hl)
          have gl3 : G3 L = none := x3.un L (x''.un L gl (by rw [hl]; simp)) (by rw [x''.keep L _ nL (by intro _ z; cases z) hl]; simp)
          cases b' with
          | false => exact ⟨rfl, hi, G3, p2, acc, us, w3, x13, gl3, hl3, ra.mono (x''.sub.trans x3.sub), q⟩
          | true =>
            simp only [if_true] at q ⊢
            refine ⟨G3, p2, δ', (), w3, sl'.ex x3, trivial, ?_⟩
            dsimp only [M.bnd, M.calm] at q ⊢
            rcases he' : e δ' p2 with _ | ⟨o, p4⟩
            · rw [he'] at q; exact q.elim
            · rw [he'] at q
              cases o with
              | ex c fs => exact q.elim
              | ok dy =>
                intro v G4 H4 x4 w4 rv
                dsimp only at q
                split at q
                · rename_i hlt
                  have hl4 : H4 L = some (.lst us) := x4.keep L _ nL (by intro _ z; cases z) hl3
                  have gl4 : G4 L = none := x4.un L gl3 (by rw [hl3]; simp)
                  have r4 := ra.mono ((x''.sub.trans x3.sub).trans x4.sub)
                  refine ⟨us, hl4, by rw [r4.length, sizeLine_eq]; exact of_decide_eq_true hlt, rfl, hi, G4, p4, acc ++ [dy], us ++ [v], w4.writeM hl4 (by intro _ z; cases z) (fun c q => lst_code c q) gl4 nL, ?_, gl4, upd_same, r4.append (.cons rv .nil), q⟩
                  have x14 := x13.trans x4
                  refine ⟨x14.sub, fun b o hb ht e => ?_, fun b e => ?_, x14.un⟩
                  · have : b ≠ L := fun z => by rw [z, hL] at e; cases e
                    rw [upd_ne this]; exact x14.keep b o hb ht e
                  · by_cases z : b = L
                    · rw [z]; exact hL
                    · rw [upd_ne z] at e; exact x14.dom b e
                · exact q.elim
  · left
    have : i = ds.length := by omega
    subst this
    refine ⟨st _ (Nat.le_refl _), ?_⟩
    rw [List.drop_length] at q
    dsimp only [compGo] at q
    split at q
    · refine q (.ref L) (upd G L (.lst us)) H2 ⟨x.sub.trans (Sub.alloc gl), x.keep, x.dom, fun b e n => ?_⟩ (w.freeze hl gl nL) (.lst upd_same (ra.mono (Sub.alloc gl)))
      have : b ≠ L := fun z => n (by rw [z]; exact hL)
      rw [upd_ne this]; exact x.un b e n
    · exact q.elim
theorem me_lc {elt tg iter : Expr} {ifs : List Expr} {scope : Scope} {own : List (Str × Nat)} {f : DS → M (List D)} {g : GX} {t : TX} {e : EX} (hc : X.calm = true) (hN : X.N.Nodup) (hi : PI X tg iter (tI m f)) (ok : BlkOk X.N X.env.scope scope own)
    (hg : ∀ (s : Shared) (H : Hp) (C : Addr) (cl : List (Str × Addr)) (fp : List Addr), PG (X.blk s H scope (compEnvC scope cl C X.env) fp) tg (tG m.nox (own.map (·.2)) g))
    (ht : ∀ (s : Shared) (H : Hp) (C : Addr) (cl : List (Str × Addr)) (fp : List Addr), PTs (X.blk s H scope (compEnvC scope cl C X.env) fp) ifs (tT m.nox t))
    (he : ∀ (s : Shared) (H : Hp) (C : Addr) (cl : List (Str × Addr)) (fp : List Addr), PE (X.blk s H scope (compEnvC scope cl C X.env) fp) elt (tE m.nox e)) (hs : ∀ x, foldedSetIterable iter X.env x = pure x := by intro _; rfl) :
    PE X (.ListComp elt [⟨tg, iter, ifs, 0⟩] scope pos) (tE m (mComp f g t e (own.map (·.2)))) := by
  exact PE.imp (pe_lc hc hN hi ok hg ht he hs) fun σ H Q h => tLc_of h
end
end ME

namespace ME
open PySem PySem.Spec L2

/-! ### lists that are being made -/
noncomputable def sNewL (i : Nat) (ra : AX) : SX := sBnd ra fun ds δ p => if szOk ds.length then some (.nx (δ.set i (some (.ml ds))), p) else none
noncomputable def sApp (i : Nat) (e : EX) : SX := fun δ p => match δ[i]? with
  | some (some (.ml xs)) => sBnd e (fun d δ p => if decide (xs.length < 16777216) then some (.nx (δ.set i (some (.ml (xs ++ [d])))), p) else none) δ p
  | _ => none
noncomputable def sFrz (i : Nat) (s : SX) : SX := fun δ p => match δ[i]? with
  | some (some (.ml xs)) => s (δ.set i (some (.d (.lst xs)))) p
  | _ => none
section
variable {S : Sg} {pen : Addr} {B G H : Hp} {σ : St} {δ : DS} {i : Nat}
theorem set_old {s0 : Option Sl} {j : Nat} {s : Sl} (e : (δ.set i s0)[j]? = some (some s)) : (j = i ∧ s0 = some s ∧ i < δ.length) ∨ (j ≠ i ∧ δ[j]? = some (some s)) := by
  by_cases hj : i = j
  · subst hj
    rw [List.getElem?_set] at e
    simp only [if_true] at e
    split at e
    · rename_i hl; exact .inl ⟨rfl, Option.some.inj e, hl⟩
    · cases e
  · rw [List.getElem?_set_ne hj] at e
    exact .inr ⟨Ne.symm hj, e⟩
theorem SlR.setMl {l : Addr} {vs : List V} {xs : List D} (sl : SlR S pen B G H σ δ) (h : H l = some (.lst vs)) (r : Reps S G pen vs xs) (hg : G l = none) (hb : B l = none) (hp : l ≠ pen)
    (ne : ∀ (j : Nat) s, j ≠ i → δ[j]? = some (some s) → (∀ x, s ≠ .d x) → σ[j]? ≠ some (some (.ref l))) : SlR S pen B G H (σ.set i (some (.ref l))) (δ.set i (some (.ml xs))) := by
  have same : ∀ (j : Nat), j ≠ i → (σ.set i (some (V.ref l)))[j]? = σ[j]? := fun j hj => List.getElem?_set_ne (Ne.symm hj)
  refine ⟨by simp [sl.len], fun j x e => ?_, fun j ys e => ?_, fun j ys e => ?_, fun j c ys e => ?_, fun j k s t a e1 e2 n1 n2 f1 f2 => ?_⟩
  · rcases set_old e with ⟨_, z, _⟩ | ⟨hj, e'⟩
    · cases z
    · rw [same j hj]; exact sl.val j x e'
  · rcases set_old e with ⟨hj, z, hl⟩ | ⟨hj, e'⟩
    · cases z
      subst hj
      exact ⟨l, vs, by rw [List.getElem?_set_self (by rw [sl.len]; exact hl)], h, r, hg, hb, hp⟩
    · rw [same j hj]; exact sl.ml j ys e'
  · rcases set_old e with ⟨_, z, _⟩ | ⟨hj, e'⟩
    · cases z
    · rw [same j hj]; exact sl.md j ys e'
  · rcases set_old e with ⟨_, z, _⟩ | ⟨hj, e'⟩
    · cases z
    · rw [same j hj]; exact sl.mo j c ys e'
  · rcases set_old e1 with ⟨hj, z, hl⟩ | ⟨hj, e1'⟩
    · rcases set_old e2 with ⟨hk, _, _⟩ | ⟨hk, e2'⟩
      · rw [hj, hk]
      · rw [hj, List.getElem?_set_self (by rw [sl.len]; exact hl)] at f1
        cases f1
        rw [same k hk] at f2
        exact absurd f2 (ne k t hk e2' n2)
    · rcases set_old e2 with ⟨hk, z, hl⟩ | ⟨hk, e2'⟩
      · rw [hk, List.getElem?_set_self (by rw [sl.len]; exact hl)] at f2
        cases f2
        rw [same j hj] at f1
        exact absurd f1 (ne j s hj e1' n1)
      · rw [same j hj] at f1
        rw [same k hk] at f2
        exact sl.inj j k s t a e1' e2' n1 n2 f1 f2
/-- what stands at the address of a slot that is being made -/
theorem SlR.at {j : Nat} {s : Sl} (sl : SlR S pen B G H σ δ) (e : δ[j]? = some (some s)) (n : ∀ x, s ≠ .d x) : ∃ l o, σ[j]? = some (some (.ref l)) ∧ H l = some o ∧ G l = none ∧ l ≠ pen ∧ (∀ x, o ≠ .tbl x) ∧ ∀ c q, o ≠ LamX.CodeO c q := by
  cases s with
  | d x => exact absurd rfl (n x)
  | ml xs => obtain ⟨l, vs, h1, h2, _, h4, _, h6⟩ := sl.ml j xs e; exact ⟨l, _, h1, h2, h4, h6, (by intro _ z; cases z), (by intro _ _ z; cases z)⟩
  | md xs => obtain ⟨l, vs, h1, h2, _, h4, _, h6⟩ := sl.md j xs e; exact ⟨l, _, h1, h2, h4, h6, (by intro _ z; cases z), (by intro _ _ z; cases z)⟩
  | mo c xs => obtain ⟨l, dx, vs, h1, h2, _, _, h4, h6⟩ := sl.mo j c xs e; exact ⟨l, _, h1, h2, h4, h6.1, (by intro _ z; cases z), (by intro _ _ z; cases z)⟩
/-- the object of slot i is written: the other slots stay -/
theorem SlR.other {l : Addr} {o : HO} {s0 : Sl} (sl : SlR S pen B G H σ δ) (ei : δ[i]? = some (some s0)) (n0 : ∀ x, s0 ≠ .d x) (ai : σ[i]? = some (some (.ref l))) : SlR S pen B G (upd H l o) σ (δ.set i none) := by
  have ne : ∀ (j : Nat) s a, j ≠ i → δ[j]? = some (some s) → (∀ x, s ≠ .d x) → σ[j]? = some (some (.ref a)) → a ≠ l := fun j s a hj e n f z => by
    subst z
    exact hj (sl.inj j i s s0 a e ei n n0 f ai)
  refine ⟨by simp [sl.len], fun j x e => ?_, fun j ys e => ?_, fun j ys e => ?_, fun j c ys e => ?_, fun j k s t a e1 e2 n1 n2 f1 f2 => ?_⟩
  · rcases set_old e with ⟨_, z, _⟩ | ⟨hj, e'⟩
    · cases z
    · exact sl.val j x e'
  · rcases set_old e with ⟨_, z, _⟩ | ⟨hj, e'⟩
    · cases z
    · obtain ⟨a, vs, h1, h2, h3⟩ := sl.ml j ys e'
      exact ⟨a, vs, h1, by rw [upd_ne (ne j _ a hj e' (by intro _ z; cases z) h1)]; exact h2, h3⟩
  · rcases set_old e with ⟨_, z, _⟩ | ⟨hj, e'⟩
    · cases z
    · obtain ⟨a, vs, h1, h2, h3⟩ := sl.md j ys e'
      exact ⟨a, vs, h1, by rw [upd_ne (ne j _ a hj e' (by intro _ z; cases z) h1)]; exact h2, h3⟩
  · rcases set_old e with ⟨_, z, _⟩ | ⟨hj, e'⟩
    · cases z
    · obtain ⟨a, dx, vs, h1, h2, h3⟩ := sl.mo j c ys e'
      exact ⟨a, dx, vs, h1, by rw [upd_ne (ne j _ a hj e' (by intro _ z; cases z) h1)]; exact h2, h3⟩
  · rcases set_old e1 with ⟨_, z, _⟩ | ⟨hj, e1'⟩
    · cases z
    · rcases set_old e2 with ⟨_, z, _⟩ | ⟨hk, e2'⟩
      · cases z
      · exact sl.inj j k s t a e1' e2' n1 n2 f1 f2
theorem set_same {α : Type} {l : List α} {j : Nat} {x y : α} : (l.set j x).set j y = l.set j y := by
  apply List.ext_getElem?
  intro k
  by_cases h : j = k
  · subst h
    simp [List.getElem?_set]
  · rw [List.getElem?_set_ne h, List.getElem?_set_ne h, List.getElem?_set_ne h]
theorem set_id {α : Type} {l : List α} {j : Nat} {x : α} (h : l[j]? = some x) : l.set j x = l := by
  apply List.ext_getElem?
  intro k
  by_cases e : j = k
  · subst e
    have := (List.getElem?_eq_some_iff.mp h).1
    rw [List.getElem?_set_self this, h]
  · rw [List.getElem?_set_ne e]
end
section
variable {X : Cx} {m : Am} {pos : Pos} {i : Nat} {x : Str}
/-- first an expression, the slots told -/
theorem tS_step {α β : Type} {R : Rl β α} {f : DS → M α} {k : α → SX} {K : Ends} {σ : St} {G H : Hp} {p : Pn} {δ : DS} (w : Wd m.S m.pen G H p) (x : Ex m.pen m.G0 m.B G H) (sl : SlR m.S m.pen m.B G H σ δ) (h : PostS m K G (sBnd f k δ p)) :
    tY m r0 R () (fun _ => f) σ H (fun b H1 => ∃ a G1 p1, Wd m.S m.pen G1 H1 p1 ∧ Ex m.pen G H G1 H1 ∧ R G1 b a ∧ PostS m K G1 (k a δ p1)) := by
  refine ⟨G, p, δ, (), w, sl, trivial, ?_⟩
  dsimp only [sBnd] at h ⊢
  rcases he : f δ p with _ | ⟨o, p1⟩
  · rw [he] at h; exact h
  · rw [he] at h
    cases o with
    | ok a => exact fun v G' H' x' w' r => ⟨a, G', p1, w', x', r, h.mono x'.sub⟩
    | ex c fs => exact fun d G' H' x' w' r => h d σ G' H' x'.sub w' (x.trans x') (sl.ex x') r
/-- x = [..], a list that is being made -/
theorem ms_newL {es : List Expr} {ra : AX} {pos' pos2 : Pos} (hN : X.N.Nodup) (hi : X.N[i]? = some x) (hx : Loc X.env.scope x) (h : PA X es (tAs m ra)) (hs : swapsWith (.List es pos2) (some (.Name x pos')) pos.line X.env = pure false := by rfl) (hf : X.fn x = true ∨ X.env.scope.names.lookup x = some .local := by first | exact .inl rfl | exact .inr rfl | assumption) :
    PS X (.Assign [.Name x pos'] (.List es pos2) pos) (tS m (sNewL i ra)) := by
  refine PS.imp (ps_set hN hi hx (pe_lst h) hs hf) fun K σ H h => ?_
  refine (tS_bind (R := m.rA) h).imp fun vs H1 ⟨ds, G, p, δ, w, x, sl, r, q⟩ => ?_
  have r : Reps m.S G m.pen vs ds := r
  split at q
  · rename_i hz
    refine ⟨by rw [r.length]; exact szOk_le hz, fun a ha => ?_⟩
    have xa : Ex m.pen G H1 G (upd H1 a (.lst vs)) := Ex.allocM ha
    refine q _ G _ (Sub.refl _) (w.allocM ha) (x.trans xa) ((sl.ex xa).setMl upd_same r (w.gfree ha) (x.dom a ha) (w.ne ha) fun j s hj e n z => ?_)
    obtain ⟨l, o, h1, h2, _⟩ := sl.at e n
    rw [h1] at z
    cases z
    rw [ha] at h2; cases h2
  · exact q.elim
/-- x.append(e) -/
theorem ms_app {e : Expr} {ea : EX} {p1 p2 p3 : Pos} (hN : X.N[i]? = some x) (hv : Vis X.env.scope x) (hK : X.K = m.S.K) (he : PE X e (tE m ea)) (hd : (x == ("__debug__" : Str)) = false := by decide) (hcd : (x == ("__classdict__" : Str)) = false := by decide)
    (hs : swapsWith (.Call (.Attribute (.Name x p1) "append" p2) [e] [] p3) none pos.line X.env = pure false := by rfl)
    (hbase : attributeBase (.Name x p1) "append" X.env (eval (.Name x p1) X.env) = eval (.Name x p1) X.env := by rfl)
    (hfew : ((backTo p3 (starEach [e] X.env)).all (fun x => !x.1) && (backToKw p3 (keywordEach [] X.env)).all (fun x => x.1.isSome)
      && decide ([e].length + ([] : List Keyword).length + (if ([] : List Keyword).isEmpty then 0 else 1) < 30)) = true := by rfl)
    (hline : (p2.endLine == p3.line) = true := by rfl) (hst : starEach [e] X.env = (false, eval e X.env) :: starEach [] X.env := by rfl) (hplain : (backTo p3 (starEach [] X.env)).any (·.1) = false := by rfl) :
    PS X (.Expr (.Call (.Attribute (.Name x p1) "append" p2) [e] [] p3) pos) (tS m (sApp i ea)) := by
  have base := ps_expr (pos := pos) (pe_bm (cpos := p3) (apos := p2) PySem.F.plainAttrs_list PySem.F.slot_list_append PySem.F.type_list_append mt_append (pe_var (pos := p1) hN hv hd hcd) (pa_cons he pa_nil hst) hbase hfew hline hst hplain) hs
  refine PS.imp base fun K σ H h => ?_
  obtain ⟨G, p, δ, w, x, sl, h⟩ := h
  dsimp only [sApp] at h
  split at h
  · rename_i xs ei
    obtain ⟨l, vs, e1, e2, r, e4, e5, e6⟩ := sl.ml i xs ei
    refine ⟨.ref l, e1, .inl ⟨rfl, vs, .of e2⟩, ?_⟩
    refine (tS_step (R := m.rE) w x sl h).imp fun v H1 ⟨d, G1, p1, w1, x1, rv, q⟩ => ?_
    split at q
    · rename_i hz
      have hl : H1 l = some (.lst vs) := x1.keep l _ e6 (by intro _ z; cases z) e2
      have gl : G1 l = none := x1.un l e4 (by rw [e2]; simp)
      have r1 := r.mono x1.sub
      refine ⟨l, vs, v, rfl, rfl, hl, by rw [r.length, sizeLine_eq]; exact of_decide_eq_true hz, ?_⟩
      have w2 : Wd m.S m.pen G1 (upd H1 l (.lst (vs ++ [v]))) p1 := w1.writeM hl (by intro _ z; cases z) (fun c q => lst_code c q) gl e6
      have x02 : Ex m.pen m.G0 m.B G1 (upd H1 l (.lst (vs ++ [v]))) := by
        have x01 := x.trans x1
        refine ⟨x01.sub, fun b o hb ht e => ?_, fun b e => ?_, x01.un⟩
        · have : b ≠ l := fun z => by rw [z, e5] at e; cases e
          rw [upd_ne this]; exact x01.keep b o hb ht e
        · by_cases z : b = l
          · rw [z]; exact e5
          · rw [upd_ne z] at e; exact x01.dom b e
      have s1 := sl.ex x1
      have s2 := (s1.other (o := .lst (vs ++ [v])) ei (by intro _ z; cases z) e1).setMl (i := i) (l := l) upd_same (r1.append (.cons rv .nil)) gl e5 e6 fun j s hj e n z => by
        rcases set_old e with ⟨_, q, _⟩ | ⟨hj', e'⟩
        · cases q
        · exact hj (s1.inj j i s _ l e' ei n (by intro _ z; cases z) z e1)
      rw [set_same, set_id e1] at s2
      exact q σ G1 _ (Sub.refl _) w2 x02 s2
    · exact q.elim
  · exact h.elim
end
end ME

namespace ME
open PySem PySem.Spec L2

/-! ### a, b = x, y -/
noncomputable def sPar2 (i j : Nat) (ra : AX) : SX := sBnd ra fun ds δ p => match ds with
  | [a, b] => some (.nx ((δ.set i (some (.d a))).set j (some (.d b))), p)
  | _ => none
noncomputable def sPar3 (i j l : Nat) (ra : AX) : SX := sBnd ra fun ds δ p => match ds with
  | [a, b, c] => some (.nx (((δ.set i (some (.d a))).set j (some (.d b))).set l (some (.d c))), p)
  | _ => none
section
variable {X : Cx} {m : Am} {pos : Pos}
theorem ms_par2 {i j : Nat} {x y : Str} {a b : Expr} {ra : AX} {px py pt : Pos} {kt k2 pt2} (hc : X.calm = true) (hN : X.N.Nodup) (hi : X.N[i]? = some x) (hj : X.N[j]? = some y) (hij : i ≠ j) (hx : X.env.scope.names.lookup x = some .local) (hy : X.env.scope.names.lookup y = some .local) (ha : PA X [a, b] (tAs m ra))
    (hw : swappedStores [.Tuple [.Name x px, .Name y py] kt pt] (.Tuple [a, b] k2 pt2) X.env = pure (some [x, y])) (hs : swapsWithSole [.Tuple [.Name x px, .Name y py] kt pt] (.Tuple [a, b] k2 pt2) pos.line X.env = pure false := by rfl) :
    PS X (.Assign [.Tuple [.Name x px, .Name y py] kt pt] (.Tuple [a, b] k2 pt2) pos) (tS m (sPar2 i j ra)) := by
  refine PS.imp (ps_par hc hN hi hj hij hx hy ha hw hs) fun K σ H h => ?_
  refine (tS_bind (R := m.rA) h).imp fun vs H1 ⟨ds, G, p, δ, w, x, sl, r, q⟩ => ?_
  have r : Reps m.S G m.pen vs ds := r
  split at q
  · cases r with
    | cons r1 r2 => cases r2 with
      | cons r2 r3 =>
        cases r3
        exact ⟨_, _, rfl, q _ G H1 (Sub.refl _) w x ((sl.set r1).set r2)⟩
  · exact q.elim
/-! ### names of the module, classes, types -/
theorem me_gcls {x : Str} {c : Nat} (hg : Gl X x) (hm : X.mg x = some (.ref (m.S.ca c))) (hd : (x == ("__debug__" : Str)) = false := by decide) : PE X (.Name x pos) (tE m (mC (.cls c))) := me_c (pe_glob (v := .ref (m.S.ca c)) hg hm rfl hd) fun _ => .cls c
theorem me_ty {x : Str} {n : String} (hg : Gl X x) (hm : X.mg x = none) (hv : bootBuiltins x = some (.type n)) (hn : x ≠ "__name__" := by decide) (hd : (x == ("__debug__" : Str)) = false := by decide) : PE X (.Name x pos) (tE m (mC (.ty n))) := me_c (pe_bltn (v := .ty n) hg hm hv rfl hn hd) fun _ => .ty n
end

/-! ### isinstance -/
noncomputable def tyName : D → Option String
  | .non => some "NoneType"
  | .bl _ => some "bool"
  | .int _ => some "int"
  | .str _ => some "str"
  | .tup _ => some "tuple"
  | .lst _ => some "list"
  | .dct _ => some "dict"
  | _ => none
noncomputable def tyNames : List String := ["NoneType", "bool", "int", "str", "tuple", "list", "dict"]
noncomputable def tyGoals : List String := ["int", "bool", "str", "list", "tuple", "dict"]
noncomputable def subB (a b : String) : Bool := a == b || (a == "bool" && b == "int")
theorem kit_all : ∀ a ∈ tyNames, ∀ n ∈ tyGoals, kitB a n = some (subB a n) := by decide +kernel
theorem tyName_in {d : D} {a : String} (h : tyName d = some a) : a ∈ tyNames := by
  cases d <;> first | (cases h; decide) | cases h
/-- the classes: those of plain objects, those of errors; which stands below which -/
structure IsT where
  os : List Nat
  xs : List Nat
  ts : List String
  sub : Nat → Nat → Bool
  subT : Nat → String → Bool
/-- what is below d's class -/
noncomputable def isOne (T : IsT) (d : D) (t : D) : Option Bool := match t with
  | .ty n => match d with
    | .obj c _ => if T.os.contains c && T.ts.contains n then some (T.subT c n) else none
    | .exc c _ => if T.xs.contains c && T.ts.contains n then some (T.subT c n) else none
    | d => match tyName d with
      | some a => if tyGoals.contains n then some (subB a n) else none
      | none => none
  | .cls c' => match d with
    | .obj c _ => if T.os.contains c && (T.os.contains c' || T.xs.contains c') then some (T.sub c c') else none
    | .exc c _ => if T.xs.contains c && (T.os.contains c' || T.xs.contains c') then some (T.sub c c') else none
    | d => match tyName d with
      | some _ => if T.os.contains c' || T.xs.contains c' then some false else none
      | none => none
  | _ => none
noncomputable def dIsi (T : IsT) : List D → M D
  | [d, t] => match isOne T d t with
    | some b => M.ret (.bl b)
    | none => M.stuck
  | _ => M.stuck
/-- an own class of plain objects, as isinstance asks it -/
structure OCl (K : PySem.W.Frag) (C : Addr) : Prop where
  cl : Cls K C
  ha : PySem.W.findIn K (.ref C) "__class__" = some (some (.builtin "object.__class__"))
  hn : PySem.W.specialIn K (.builtin "object.__class__") "__get__" = some (some (.builtin "getset_descriptor.__get__"))
  htk : PySem.W.takesIn K (.builtin "object.__class__") = some true
  hm : PySem.W.mroIn K C (.type "object") = some true
structure XOk (K : PySem.W.Frag) (C : Addr) : Prop where
  hcl : (PySem.W.clsIn K C).isSome = true
  hga : PySem.W.findIn K (.ref C) "__getattribute__" = some (some (.builtin "BaseException.__getattribute__"))
  hgt : PySem.W.findIn K (.ref C) "__getattr__" = some none
  hsub : PySem.W.subIn K (.ref C) (.type "BaseException") = some true
  ha : PySem.W.findIn K (.ref C) "__class__" = some (some (.builtin "object.__class__"))
  hn : PySem.W.specialIn K (.builtin "object.__class__") "__get__" = some (some (.builtin "getset_descriptor.__get__"))
  htk : PySem.W.takesIn K (.builtin "object.__class__") = some true
  hm : PySem.W.mroIn K C (.type "object") = some true
structure IsF (S : Sg) (T : IsT) : Prop where
  own : ∀ c, c ∈ T.os ∨ c ∈ T.xs → ∀ c', c' ∈ T.os ∨ c' ∈ T.xs → PySem.W.kitOne S.K (.ref (S.ca c)) (.ref (S.ca c')) = some (T.sub c c')
  ty : ∀ c, c ∈ T.os ∨ c ∈ T.xs → ∀ n ∈ T.ts, PySem.W.kitOne S.K (.ref (S.ca c)) (.type n) = some (T.subT c n)
  b : ∀ a ∈ tyNames, ∀ c', c' ∈ T.os ∨ c' ∈ T.xs → PySem.W.kitOne S.K (.type a) (.ref (S.ca c')) = some false
  oc : ∀ c ∈ T.os, OCl S.K (S.ca c)
  xc : ∀ c ∈ T.xs, XOk S.K (S.ca c)
section
variable {X : Cx} {m : Am}
/-- isinstance(e, c), e an exception that is kept -/
noncomputable def rIsE (K : PySem.W.Frag) : List V → Hp → VK → Prop := fun xs H Q => ∃ (a C : Addr) (d : Option Addr) (c : V) (u : Value) (b : Bool), xs = [.ref a, c] ∧ ClsV c u ∧ H a = some (ExV a C d) ∧ (∀ x, d = some x → ∃ fs, H x = some (.xd fs)) ∧ XOk K C ∧ PySem.W.kitOne K (.ref C) u = some b ∧ Q (.bl b) H
theorem excInst {pins : List (Addr × Obj)} {s : Shared} {σ : St} {H : Hp} {a C : Addr} {d : Option Addr} (I : Inv X pins σ H s) (h : H a = some (ExV a C d)) (hd : ∀ x, d = some x → ∃ fs, H x = some (.xd fs)) : ∃ oe od, PySem.W.InstAt s.heap a oe C od ∧ oe.dict = d := by
  obtain ⟨⟨oe, vs, e1, z, e2⟩, _⟩ := I.hok a _ h
  have no : PySem.W.notCls oe = true := by
    obtain ⟨oc, odd, dt, sl⟩ := oe
    cases e2
    rfl
  cases d with
  | none => exact ⟨oe, none, ⟨e1, z.1, no, by rw [z.2]; trivial⟩, z.2⟩
  | some x =>
    obtain ⟨fs, hx⟩ := hd x rfl
    obtain ⟨mA, ⟨od, es, ep, e3, _⟩, _⟩ := I.hok x _ hx
    exact ⟨oe, some od, ⟨e1, z.1, no, by rw [z.2]; exact e3⟩, z.2⟩
theorem call_isE : CallR X (.builtin "isinstance") (rIsE X.K) := by
  intro pins s σ H xs us Q I r h
  obtain ⟨a, C, d, c, u, b, rfl, k, ha, hd, xo, e, q⟩ := h
  obtain ⟨u1, u2, rfl, r1, r2⟩ := vals2 r
  have e2 := k.eq r2
  subst e2
  cases (show u1 = Value.ref a from r1)
  obtain ⟨oe, od, ia, _⟩ := excInst I ha hd
  exact PySem.W.kia_one (PySem.W.kitx_exc (od := od) (ox := oe) xo.hcl xo.hga xo.hgt xo.hsub xo.ha xo.hn xo.htk xo.hm) I.kIn ia e (fun z => nomatch z) fun tk => ⟨.bl b, H, I.tok tk, rfl, q⟩
theorem tyX_of {G H : Hp} {p : Pn} {v : V} {d : D} {a : String} (w : Wd m.S m.pen G H p) (r : Rep m.S G m.pen v d) (h : tyName d = some a) : TyX m.S.K H v (.type a) := by
  cases r with
  | non => cases h; exact .base .non
  | bl b => cases h; exact .base (.bl b)
  | int b => cases h; exact .base (.int b)
  | str b => cases h; exact .base (.str b)
  | tup hq _ =>
    cases h
    rcases w.sub.sqt hq with (z | ⟨o, z⟩) | ⟨o, its, n, z, c, _⟩
    · exact .base (.tup z)
    · exact .fTuple z
    · exact .kTuple z c
  | lst hq _ => cases h; exact .base (.lst (w.sub _ _ hq))
  | dct hq _ => cases h; exact .fDict (w.sub _ _ hq)
  | _ => cases h
theorem or_of {T : IsT} {c : Nat} (h : (T.os.contains c || T.xs.contains c) = true) : c ∈ T.os ∨ c ∈ T.xs := by
  rcases Bool.or_eq_true _ _ ▸ h with z | z
  · exact .inl (List.contains_iff_mem.mp z)
  · exact .inr (List.contains_iff_mem.mp z)
theorem r_isi {T : IsT} (hK : X.K = m.S.K) (F : IsF m.S T) : RAOk m (fun xs H Q => rIsi X.K xs H Q ∨ rIsE X.K xs H Q) (dIsi T) := by
  rintro σ xs H Q ⟨G, p, δ, ⟨_, ds⟩, w, sl, ⟨_, r⟩, h⟩
  have r : Reps m.S G m.pen xs ds := r
  rw [hK]
  cases r with
  | nil => exact h.elim
  | @cons v vs d ds r1 r2 => cases r2 with
    | nil => exact h.elim
    | @cons v2 vs d2 ds r2 r3 => cases r3 with
      | cons _ _ => exact h.elim
      | nil =>
        dsimp only [dIsi] at h
        cases hb : isOne T d d2 with
        | none => rw [hb] at h; exact h.elim
        | some b =>
          rw [hb] at h
          have fin : Q (.bl b) H := fin_same w (.bl b) h
          cases r2 with
          | ty n =>
            dsimp only [isOne] at hb
            have gen : ∀ a, tyName d = some a → (match tyName d with | some a => if tyGoals.contains n then some (subB a n) else none | none => none) = some b → rIsi m.S.K [v, .ty n] H Q := fun a ea hb => by
              rw [ea] at hb
              dsimp only at hb
              split at hb
              · rename_i hn
                cases hb
                exact ⟨v, .ty n, _, _, _, rfl, .ty n, tyX_of w r1 ea, kit_ty (kit_all a (tyName_in ea) n (List.contains_iff_mem.mp hn)), fin⟩
              · cases hb
            cases r1 with
            | @obj a dx c vs ds ha hl rr =>
              dsimp only at hb
              split at hb
              · rename_i hc
                cases hb
                have h1 := (Bool.and_eq_true _ _ ▸ hc).1
                have h2 := (Bool.and_eq_true _ _ ▸ hc).2
                have c1 := List.contains_iff_mem.mp h1
                have o := F.oc c c1
                exact .inl ⟨.ref a, .ty n, _, _, _, rfl, .ty n, .base (.ins (w.sub _ _ ha) o.cl o.ha o.hn o.htk o.hm), F.ty c (.inl c1) n (List.contains_iff_mem.mp h2), fin⟩
              · cases hb
            | @exc a dd c fs vs ds ha hd hf hl rr =>
              dsimp only at hb
              split at hb
              · rename_i hc
                cases hb
                have h1 := (Bool.and_eq_true _ _ ▸ hc).1
                have h2 := (Bool.and_eq_true _ _ ▸ hc).2
                have c1 := List.contains_iff_mem.mp h1
                exact .inr ⟨a, _, some dd, .ty n, _, _, rfl, .ty n, w.sub _ _ ha, fun x e => by cases e; exact ⟨fs, w.sub _ _ hd⟩, F.xc c c1, F.ty c (.inr c1) n (List.contains_iff_mem.mp h2), fin⟩
              · cases hb
            | @exc0 a c ha =>
              dsimp only at hb
              split at hb
              · rename_i hc
                cases hb
                have h1 := (Bool.and_eq_true _ _ ▸ hc).1
                have h2 := (Bool.and_eq_true _ _ ▸ hc).2
                have c1 := List.contains_iff_mem.mp h1
                exact .inr ⟨a, _, none, .ty n, _, _, rfl, .ty n, w.sub _ _ ha, fun x e => (nomatch e), F.xc c c1, F.ty c (.inr c1) n (List.contains_iff_mem.mp h2), fin⟩
              · cases hb
            | non => exact .inl (gen _ rfl hb)
            | bl _ => exact .inl (gen _ rfl hb)
            | int _ => exact .inl (gen _ rfl hb)
            | str _ => exact .inl (gen _ rfl hb)
            | tup _ _ => exact .inl (gen _ rfl hb)
            | lst _ _ => exact .inl (gen _ rfl hb)
            | dct _ _ => exact .inl (gen _ rfl hb)
            | _ => cases hb
          | cls c' =>
            dsimp only [isOne] at hb
            have gen : ∀ a, tyName d = some a → (match tyName d with | some _ => if T.os.contains c' || T.xs.contains c' then some false else none | none => none) = some b → rIsi m.S.K [v, .ref (m.S.ca c')] H Q := fun a ea hb => by
              rw [ea] at hb
              dsimp only at hb
              split at hb
              · rename_i hn
                cases hb
                exact ⟨v, _, _, _, _, rfl, .own _, tyX_of w r1 ea, F.b a (tyName_in ea) c' (or_of hn), fin⟩
              · cases hb
            cases r1 with
            | @obj a dx c vs ds ha hl rr =>
              dsimp only at hb
              split at hb
              · rename_i hc
                cases hb
                have h1 := (Bool.and_eq_true _ _ ▸ hc).1
                have h2 := (Bool.and_eq_true _ _ ▸ hc).2
                have c1 := List.contains_iff_mem.mp h1
                have o := F.oc c c1
                exact .inl ⟨.ref a, _, _, _, _, rfl, .own _, .base (.ins (w.sub _ _ ha) o.cl o.ha o.hn o.htk o.hm), F.own c (.inl c1) c' (or_of h2), fin⟩
              · cases hb
            | @exc a dd c fs vs ds ha hd hf hl rr =>
              dsimp only at hb
              split at hb
              · rename_i hc
                cases hb
                have h1 := (Bool.and_eq_true _ _ ▸ hc).1
                have h2 := (Bool.and_eq_true _ _ ▸ hc).2
                have c1 := List.contains_iff_mem.mp h1
                exact .inr ⟨a, _, some dd, _, _, _, rfl, .own _, w.sub _ _ ha, fun x e => by cases e; exact ⟨fs, w.sub _ _ hd⟩, F.xc c c1, F.own c (.inr c1) c' (or_of h2), fin⟩
              · cases hb
            | @exc0 a c ha =>
              dsimp only at hb
              split at hb
              · rename_i hc
                cases hb
                have h1 := (Bool.and_eq_true _ _ ▸ hc).1
                have h2 := (Bool.and_eq_true _ _ ▸ hc).2
                have c1 := List.contains_iff_mem.mp h1
                exact .inr ⟨a, _, none, _, _, _, rfl, .own _, w.sub _ _ ha, fun x e => (nomatch e), F.xc c c1, F.own c (.inr c1) c' (or_of h2), fin⟩
              · cases hb
            | non => exact .inl (gen _ rfl hb)
            | bl _ => exact .inl (gen _ rfl hb)
            | int _ => exact .inl (gen _ rfl hb)
            | str _ => exact .inl (gen _ rfl hb)
            | tup _ _ => exact .inl (gen _ rfl hb)
            | lst _ _ => exact .inl (gen _ rfl hb)
            | dct _ _ => exact .inl (gen _ rfl hb)
            | _ => cases hb
          | _ => cases hb
end
end ME

namespace ME
open PySem PySem.Spec L2

/-! ### attributes, by values -/
noncomputable def AtR (X : Cx) (f : Str) (r : V → Hp → VK → Prop) : Prop :=
  ∀ (pins : List (Addr × Obj)) (s : Shared) (σ : St) (H : Hp) (x : V) (u : Value) (Q : VK), Inv X pins σ H s → RelV x u → r x H Q → wpAny (model X.prog X.w) X.A (getAttr u f true) (EP X pins σ Q) X.xe s
theorem AtR.or {X : Cx} {f : Str} {r r' : V → Hp → VK → Prop} (h : AtR X f r) (h' : AtR X f r') : AtR X f (fun x H Q => r x H Q ∨ r' x H Q) := by
  intro pins s σ H x u Q I rx q
  rcases q with q | q
  · exact h pins s σ H x u Q I rx q
  · exact h' pins s σ H x u Q I rx q
section
variable {X : Cx} {m : Am} {e : Expr} {f : Str} {pos : Pos} {ea : EX}
theorem pe_at {r : V → Hp → VK → Prop} {ta : TE} (hr : AtR X f r) (he : PE X e ta) (hb : attributeBase e f X.env (eval e X.env) = eval e X.env) : PE X (.Attribute e f pos) (tUn r ta) := by
  refine ⟨fun pins s σ H Q I h => ?_⟩
  exact attr_of hb (thn (he.run pins s σ H _ I h) fun u s1 ⟨x, H1, I1, rx, q⟩ => hr pins s1 σ H1 x u Q I1 rx q)
theorem me_at {r : V → Hp → VK → Prop} {o : D → M D} (hr : AtR X f r) (ho : R1Ok m r o) (he : PE X e (tE m ea)) (hb : attributeBase e f X.env (eval e X.env) = eval e X.env := by rfl) : PE X (.Attribute e f pos) (tE m (mUn o ea)) := by
  refine PE.imp (pe_at hr he hb) fun σ H Q h => ?_
  exact (tY_bind (R1 := m.rE) r0_mono h).imp fun x H1 h2 => ho σ x H1 Q h2
/-- a field of an instance -/
noncomputable def rFld (K : PySem.W.Frag) (f : Str) : V → Hp → VK → Prop := fun x H Q => ∃ a C dx fs v, x = .ref a ∧ H a = some (.ins C dx fs) ∧ Cls K C ∧ NoAttr K C f ∧ fs.lookup f = some v ∧ Q v H
theorem at_fld : AtR X f (rFld X.K f) := by
  intro pins s σ H x u Q I rx h
  obtain ⟨a, C, dx, fs, v, ex, ea, c, n, l, q⟩ := h
  subst ex
  obtain rfl : u = Value.ref a := rx
  exact getattr_ok I ea c n l fun u' s2 I2 ru => ⟨v, H, I2, ru, q⟩
/-- a field of an exception that is kept -/
noncomputable def rXfld (K : PySem.W.Frag) (f : Str) : V → Hp → VK → Prop := fun x H Q => ∃ a C d fs v, x = .ref a ∧ H a = some (ExV a C (some d)) ∧ H d = some (.xd fs) ∧ XfC K C ∧ PySem.W.findIn K (.ref C) f = some none ∧ fs.lookup f = some v ∧ Q v H
theorem at_xfld : AtR X f (rXfld X.K f) := by
  intro pins s σ H x u Q I rx h
  obtain ⟨a, C, d, fs, v, ex, ea, ed, T, hno, l, q⟩ := h
  subst ex
  obtain rfl : u = Value.ref a := rx
  obtain ⟨⟨oe, vs, e1, z, e2⟩, _⟩ := I.hok a _ ea
  obtain ⟨mA, hns, hr⟩ := I.hok d _ ed
  obtain ⟨od, ho, hl⟩ := lookIn_ns hns
  obtain ⟨u, hu, ru⟩ := RelO.some_of (v := v) (o := mA f) (by rw [← l]; exact hr f)
  have J : PySem.W.InstAt s.heap a oe C (some od) := ⟨e1, z.1, by unfold PySem.W.notCls; rw [e2] <;> rfl, by rw [z.2]; exact ho⟩
  exact HandSPX.exc_get I.kIn J T.ga T.gg T.exC (PySem.W.findObj_own T.hdC hno rfl (by rw [hl, hu])) (handed_of ru) ⟨v, H, I.tok _, ru, q⟩

/-- fields by class and place -/
noncomputable def dFld (os xs : List (Nat × Nat)) : D → M D
  | .obj c fs => match os.lookup c with
    | some i => M.opt fs[i]?
    | none => M.stuck
  | .exc c fs => match xs.lookup c with
    | some i => M.opt fs[i]?
    | none => M.stuck
  | _ => M.stuck
theorem mem_of_lookup {α β : Type} [BEq α] [LawfulBEq α] {k : α} {v : β} : ∀ {l : List (α × β)}, l.lookup k = some v → (k, v) ∈ l
  | (a, b) :: r, h => by
    rw [List.lookup_cons] at h
    cases e : k == a with
    | true => rw [e] at h; cases h; rw [beq_iff_eq.mp e]; exact List.mem_cons_self
    | false => rw [e] at h; exact List.mem_cons_of_mem _ (mem_of_lookup h)
theorem zip_lookup {α β : Type} [BEq α] [LawfulBEq α] {k : α} {v : β} : ∀ {a : List α} {b : List β} {i : Nat}, a.Nodup → a[i]? = some k → b[i]? = some v → (a.zip b).lookup k = some v
  | [], _, _, _, h, _ => by simp at h
  | _ :: _, [], _, _, _, h => by simp at h
  | x :: a, y :: b, 0, nd, h1, h2 => by
    simp at h1 h2; subst h1; subst h2
    simp [List.lookup_cons]
  | x :: a, y :: b, i + 1, nd, h1, h2 => by
    have nd' := List.nodup_cons.mp nd
    have hx : (k == x) = false := beq_eq_false_iff_ne.mpr fun e => nd'.1 (by rw [← e]; exact List.mem_of_getElem? (by simpa using h1))
    rw [List.zip_cons_cons, List.lookup_cons, hx]
    exact zip_lookup nd'.2 (by simpa using h1) (by simpa using h2)
theorem r_fld {os xs : List (Nat × Nat)} (hK : X.K = m.S.K) (ho : ∀ q ∈ os, Cls m.S.K (m.S.ca q.1) ∧ NoAttr m.S.K (m.S.ca q.1) f ∧ (m.S.nm q.1)[q.2]? = some f ∧ (m.S.nm q.1).Nodup)
    (hx : ∀ q ∈ xs, XfC m.S.K (m.S.ca q.1) ∧ PySem.W.findIn m.S.K (.ref (m.S.ca q.1)) f = some none ∧ (m.S.nm q.1)[q.2]? = some f ∧ (m.S.nm q.1).Nodup) : R1Ok m (fun x H Q => rFld X.K f x H Q ∨ rXfld X.K f x H Q) (dFld os xs) := by
  rintro σ x H Q ⟨G, p, δ, ⟨_, d⟩, w, sl, ⟨_, r⟩, h⟩
  have r : Rep m.S G m.pen x d := r
  rw [hK]
  cases r with
  | @obj a dx c vs ds ha hl rr =>
    dsimp only [dFld] at h
    cases e : os.lookup c with
    | none => rw [e] at h; exact h.elim
    | some i =>
      rw [e] at h
      dsimp only at h
      cases e2 : ds[i]? with
      | none => rw [e2] at h; exact h.elim
      | some dv =>
        rw [e2] at h
        obtain ⟨h1, h2, h3, h4⟩ := ho _ (mem_of_lookup e)
        obtain ⟨v, ev, rv⟩ := rr.get e2
        exact .inl ⟨a, _, dx, _, v, rfl, w.sub _ _ ha, h1, h2, zip_lookup h4 h3 ev, fin_same w rv h⟩
  | @exc a dd c fs vs ds ha hd hf hl rr =>
    dsimp only [dFld] at h
    cases e : xs.lookup c with
    | none => rw [e] at h; exact h.elim
    | some i =>
      rw [e] at h
      dsimp only at h
      cases e2 : ds[i]? with
      | none => rw [e2] at h; exact h.elim
      | some dv =>
        rw [e2] at h
        obtain ⟨h1, h2, h3, h4⟩ := hx _ (mem_of_lookup e)
        obtain ⟨v, ev, rv⟩ := rr.get e2
        exact .inr ⟨a, _, dd, fs, v, rfl, w.sub _ _ ha, w.sub _ _ hd, h1, h2, by rw [hf]; exact zip_lookup h4 h3 ev, fin_same w rv h⟩
  | @exc0 a c ha =>
    dsimp only [dFld] at h
    cases e : xs.lookup c with
    | none => rw [e] at h; exact h.elim
    | some i => rw [e] at h; exact h.elim
  | _ => exact h.elim
end
end ME

namespace ME
open PySem PySem.Spec L2

noncomputable def kPy : Key → PyData
  | .inl i => .int i
  | .inr x => .str x
mutual
noncomputable def toPy : D → Option PyData
  | .non => some .none
  | .bl b => some (.bool b)
  | .int i => some (.int i)
  | .str x => some (.str x)
  | .tup l => (toPyL l).map .tuple
  | .lst l => (toPyL l).map .list
  | .dct l => (toPyK l).map .dict
  | _ => none
noncomputable def toPyL : List D → Option (List PyData)
  | [] => some []
  | d :: r => match toPy d, toPyL r with
    | some p, some q => some (p :: q)
    | _, _ => none
noncomputable def toPyK : List (Key × D) → Option (List (PyData × PyData))
  | [] => some []
  | (k, d) :: r => match toPy d, toPyK r with
    | some p, some q => some ((kPy k, p) :: q)
    | _, _ => none
end
section
variable {X : Cx} {m : Am} {pins : List (Addr × Obj)} {s : Shared} {σ : St} {G H : Hp}
theorem not_sys {a : Addr} {o : HO} (I : Inv X pins σ H s) (hS : ∃ o, X.base.get? sysModules = some o) (h : H a = some o) : a ≠ sysModules := fun z => by
  obtain ⟨u, hu⟩ := hS
  have := (I.bs _ _ hu).2
  rw [z, this] at h; cases h
theorem key_reads {h : Heap} {k : Key} {v : Value} (e : keyIs k v = true) : Reads h v (kPy k) [] := by
  rcases keyIs_shape e with ⟨i, t, rfl, rfl⟩ | ⟨x, t, rfl, rfl⟩
  · exact .int i t
  · exact .str x t
mutual
theorem Rep.reads (I : Inv X pins σ H s) (hK : X.K = m.S.K) (hS : ∃ o, X.base.get? sysModules = some o) (sb : Sub G H) : ∀ {v : V} {d : D} {u : Value} {pd : PyData}, Rep m.S G m.pen v d → RelV v u → toPy d = some pd → ∃ as, Reads s.heap u pd as ∧ sysModules ∉ as
  | _, _, _, _, .non, r, e => by cases e; cases r; exact ⟨_, .none, by simp⟩
  | _, _, _, _, .bl b, r, e => by cases e; cases r; exact ⟨_, .bool b, by simp⟩
  | _, _, _, _, .int i, r, e => by cases e; obtain ⟨t, rfl⟩ := r; exact ⟨_, .int i t, by simp⟩
  | _, _, _, _, .str x, r, e => by cases e; obtain ⟨t, rfl⟩ := r; exact ⟨_, .str x t, by simp⟩
  | _, _, _, _, .tup (a := a) (vs := vs) (ds := ds) ha ra, r, e => by
    cases r
    simp only [toPy, Option.map_eq_some_iff] at e
    obtain ⟨l, el, rfl⟩ := e
    obtain ⟨its, rv, ⟨o, h1, h2, n, h3⟩, _⟩ := I.tuple (by rw [hK]; exact sb.sqt ha)
    obtain ⟨as, q, ns⟩ := Reps.reads I hK hS sb ra rv el
    exact ⟨as, .tuple h1 h2 h3 (by simpa using q), ns⟩
  | _, _, _, _, .lst (a := a) (vs := vs) (ds := ds) ha ra, r, e => by
    cases r
    simp only [toPy, Option.map_eq_some_iff] at e
    obtain ⟨l, el, rfl⟩ := e
    have hl := sb _ _ ha
    obtain ⟨_, its, n, rv, h1⟩ := I.hok a _ hl
    obtain ⟨as, q, ns⟩ := Reps.reads I hK hS sb ra rv el
    exact ⟨a :: as, .list h1 rfl rfl (by simpa using q), by simp only [List.mem_cons, not_or]; exact ⟨Ne.symm (not_sys I hS hl), ns⟩⟩
  | _, _, _, _, .dct (a := a) (kvs := kvs) (ds := ds) ha ra, r, e => by
    cases r
    simp only [toPy, Option.map_eq_some_iff] at e
    obtain ⟨l, el, rfl⟩ := e
    have hl := sb _ _ ha
    obtain ⟨_, _, _, vs, kv, o, es, ep, h1, h2, h3, _, pr, _⟩ := I.hok a _ hl
    obtain ⟨as, q1, q2, ns⟩ := RepK.reads I hK hS sb ra kv pr el
    exact ⟨a :: [] ++ as, .dict h1 h2.1 h3 q1 q2, by simp only [List.cons_append, List.nil_append, List.mem_cons, not_or]; exact ⟨Ne.symm (not_sys I hS hl), ns⟩⟩
  | _, _, _, _, .obj _ _ _, _, e => by cases e
  | _, _, _, _, .exc _ _ _ _ _, _, e => by cases e
  | _, _, _, _, .exc0 _, _, e => by cases e
  | _, _, _, _, .cls _, _, e => by cases e
  | _, _, _, _, .ty _, _, e => by cases e
  | _, _, _, _, .pen, _, e => by cases e
theorem Reps.reads (I : Inv X pins σ H s) (hK : X.K = m.S.K) (hS : ∃ o, X.base.get? sysModules = some o) (sb : Sub G H) : ∀ {v : List V} {d : List D} {u : List Value} {pd : List PyData}, Reps m.S G m.pen v d → Vals v u → toPyL d = some pd → ∃ as, ReadsAll s.heap u pd as ∧ sysModules ∉ as
  | _, _, _, _, .nil, r, e => by cases r; cases e; exact ⟨_, .nil, by simp⟩
  | _, _, _, _, .cons (d := d) (ds := ds) h hr, r, e => by
    cases r with
    | cons r1 r2 =>
      simp only [toPyL] at e
      cases e1 : toPy d with
      | none => rw [e1] at e; cases e
      | some p =>
        cases e2 : toPyL ds with
        | none => rw [e1, e2] at e; cases e
        | some q =>
          rw [e1, e2] at e
          cases e
          obtain ⟨as, q1, n1⟩ := Rep.reads I hK hS sb h r1 e1
          obtain ⟨bs, q2, n2⟩ := Reps.reads I hK hS sb hr r2 e2
          exact ⟨as ++ bs, .cons q1 q2, by simp only [List.mem_append, not_or]; exact ⟨n1, n2⟩⟩
theorem RepK.reads (I : Inv X pins σ H s) (hK : X.K = m.S.K) (hS : ∃ o, X.base.get? sysModules = some o) (sb : Sub G H) : ∀ {v : List (Key × V)} {d : List (Key × D)} {u : List (Key × Value)} {es : List DictEntry} {pd : List (PyData × PyData)}, RepK m.S G m.pen v d → KV v u → Pairs (mixKind X.prog X.w) es u → toPyK d = some pd →
    ∃ as, ReadsAll s.heap (es.map (·.key)) (pd.map (·.1)) [] ∧ ReadsAll s.heap (es.map (·.val)) (pd.map (·.2)) as ∧ sysModules ∉ as
  | _, _, _, _, _, .nil, r, p, e => by cases r; cases p; cases e; exact ⟨_, .nil, .nil, by simp⟩
  | _, _, _, _, _, .cons (d := d) (ds := ds) h hr, r, p, e => by
    cases r with
    | cons r1 r2 =>
      cases p with
      | cons p1 pv p2 =>
      simp only [toPyK] at e
      cases e1 : toPy d with
      | none => rw [e1] at e; cases e
      | some pp =>
        cases e2 : toPyK ds with
        | none => rw [e1, e2] at e; cases e
        | some q =>
          rw [e1, e2] at e
          cases e
          obtain ⟨ek, rv⟩ := r1
          dsimp only at ek rv
          obtain ⟨as, q1, n1⟩ := Rep.reads I hK hS sb h (pv.symm ▸ rv) e1
          obtain ⟨bs, q2, q3, n2⟩ := RepK.reads I hK hS sb hr r2 p2 e2
          refine ⟨as ++ bs, ?_, .cons q1 q3, by simp only [List.mem_append, not_or]; exact ⟨n1, n2⟩⟩
          have kr : Reads s.heap _ (kPy _) [] := key_reads (h := s.heap) (show keyIs _ _ = true from p1)
          rw [← ek] at kr
          exact .cons (as := []) (bs := []) kr q2
end
end
/-! ### repr -/
noncomputable def dRepr : List D → M D
  | [d] => match toPy d with
    | some p => if p.showable && decide (p.depth ≤ 60) && szOk p.shown.length then M.ret (.str p.shown) else M.stuck
    | none => M.stuck
  | _ => M.stuck
section
variable {X : Cx} {m : Am}
noncomputable def rRepr (m : Am) : List V → Hp → VK → Prop := fun xs H Q => ∃ x G d p, xs = [x] ∧ Sub G H ∧ Rep m.S G m.pen x d ∧ toPy d = some p ∧ p.showable = true ∧ p.depth ≤ 60 ∧ p.shown.length ≤ sizeLine ∧ Q (.str p.shown) H
theorem call_reprM (hK : X.K = m.S.K) (hS : ∃ o, X.base.get? sysModules = some o) (hg : X.A.guards = some []) (hu : X.A.units + 64 < cLine) : CallR X (.builtin "repr") (rRepr m) := by
  intro pins s σ H xs us Q I r h
  obtain ⟨x, G, d, p, rfl, sb, rp, e, hs, hd, hz, q⟩ := h
  obtain ⟨u, rfl, ru⟩ := vals1 r
  obtain ⟨as, rd, ns⟩ := rp.reads I hK hS sb ru e
  have done : ∀ h' t tk, (∀ b o, s.heap.get? b = some o → h'.get? b = some o) → EP X pins σ Q (.str p.shown t) { s with heap := h', toks := tk } := fun h' t tk k => ⟨.str _, H, I.kept k, ⟨t, rfl⟩, q⟩
  cases rd with
  | none => exact PySem.P.repr_of_none (done s.heap _ _ fun _ _ z => z)
  | bool b => exact PySem.P.repr_of_bool (done s.heap _ _ fun _ _ z => z)
  | int i t => exact PySem.P.repr_of_int (by simpa [PyData.showable] using hs) (done s.heap _ _ fun _ _ z => z)
  | str x t => exact PySem.P.repr_of_str (done s.heap _ _ fun _ _ z => z) hz
  | list h1 h2 h3 h4 => exact repr_of_reads' (.list h1 h2 h3 h4) hs (fun _ => ns) hg (by omega) (fun _ _ z => z) (fun h' u tk k => done h' u tk k) hz
  | tuple h1 h2 h3 h4 => exact repr_of_reads' (.tuple h1 h2 h3 h4) hs (fun _ => ns) hg (by omega) (fun _ _ z => z) (fun h' u tk k => done h' u tk k) hz
  | dict h1 h2 h3 h4 h5 => exact repr_of_reads' (.dict h1 h2 h3 h4 h5) hs (fun _ => ns) hg (by omega) (fun _ _ z => z) (fun h' u tk k => done h' u tk k) hz
theorem r_repr : RAOk m (rRepr m) dRepr := by
  rintro σ xs H Q ⟨G, p, δ, ⟨_, ds⟩, w, sl, ⟨_, r⟩, h⟩
  have r : Reps m.S G m.pen xs ds := r
  cases r with
  | nil => exact h.elim
  | @cons v vs d ds r1 r2 => cases r2 with
    | cons _ _ => exact h.elim
    | nil =>
      dsimp only [dRepr] at h
      cases e : toPy d with
      | none => rw [e] at h; exact h.elim
      | some pd =>
        rw [e] at h
        dsimp only at h
        split at h
        · rename_i hz
          simp only [Bool.and_eq_true, decide_eq_true_eq] at hz
          exact ⟨v, G, d, pd, rfl, w.sub, r1, e, hz.1.1, hz.1.2, szOk_le hz.2, fin_same w (.str _) h⟩
        · exact h.elim
/-! ### == and != of plain data -/
noncomputable def dEq (neg : Bool) : D → D → M D
  | .str x, .str y => M.ret (.bl (neg ^^ (x == y)))
  | a, b => match toPy a, toPy b with
    | some p, some q => if SeqAt.shaped p && SeqAt.shaped q then M.ret (.bl (neg ^^ PyData.eqv p q)) else M.stuck
    | _, _ => M.stuck
noncomputable def rEqM (m : Am) (neg : Bool) : R2 := fun x y H Q => ∃ G d e p q, Sub G H ∧ Rep m.S G m.pen x d ∧ Rep m.S G m.pen y e ∧ toPy d = some p ∧ toPy e = some q ∧ SeqAt.shaped p = true ∧ SeqAt.shaped q = true ∧ Q (.bl (neg ^^ PyData.eqv p q)) H
theorem op_eqM (hK : X.K = m.S.K) (hS : ∃ o, X.base.get? sysModules = some o) (hu : X.A.units + 64 < cLine) : OpR X (compareOp .Eq) (rEqM m false) := by
  intro pins s σ H x y v u Q I rx ry h
  obtain ⟨G, d, e, p, q, sb, r1, r2, e1, e2, s1, s2, k⟩ := h
  obtain ⟨as, d1, _⟩ := r1.reads I hK hS sb rx e1
  obtain ⟨bs, d2, _⟩ := r2.reads I hK hS sb ry e2
  rw [Bool.false_xor] at k
  exact SeqAt.compareEq_shaped d1 d2 s1 s2 hu ⟨.bl _, H, I, rfl, k⟩
theorem op_neM (hK : X.K = m.S.K) (hS : ∃ o, X.base.get? sysModules = some o) (hu : X.A.units + 64 < cLine) : OpR X (compareOp .NotEq) (rEqM m true) := by
  intro pins s σ H x y v u Q I rx ry h
  obtain ⟨G, d, e, p, q, sb, r1, r2, e1, e2, s1, s2, k⟩ := h
  obtain ⟨as, d1, _⟩ := r1.reads I hK hS sb rx e1
  obtain ⟨bs, d2, _⟩ := r2.reads I hK hS sb ry e2
  rw [Bool.true_xor] at k
  exact SeqAt.compareNe_shaped d1 d2 s1 s2 hu ⟨.bl _, H, I, rfl, k⟩
theorem r_eqG {neg : Bool} {r0' : R2} (hs : ∀ x y H Q, Q (.bl (neg ^^ (x == y))) H → r0' (.str x) (.str y) H Q) : R2Ok m (fun x y H Q => r0' x y H Q ∨ rEqM m neg x y H Q) (dEq neg) := by
  rintro σ x y H Q ⟨G, p, δ, ⟨⟨_, dx⟩, dy⟩, w, sl, ⟨⟨_, rx⟩, ry⟩, h⟩
  have rx : Rep m.S G m.pen x dx := rx
  have ry : Rep m.S G m.pen y dy := ry
  have gen : (∀ a b, ¬ (dx = .str a ∧ dy = .str b)) → rEqM m neg x y H Q := fun hn => by
    have e : dEq neg dx dy = (match toPy dx, toPy dy with
      | some p, some q => if SeqAt.shaped p && SeqAt.shaped q then M.ret (.bl (neg ^^ PyData.eqv p q)) else M.stuck
      | _, _ => M.stuck) := by
      unfold dEq
      split
      · exact absurd ⟨rfl, rfl⟩ (hn _ _)
      · rfl
    dsimp only at h
    rw [e] at h
    cases e1 : toPy dx with
    | none => rw [e1] at h; exact h.elim
    | some p1 =>
      cases e2 : toPy dy with
      | none => rw [e1, e2] at h; exact h.elim
      | some p2 =>
        rw [e1, e2] at h
        dsimp only at h
        split at h
        · rename_i hz
          simp only [Bool.and_eq_true] at hz
          exact ⟨G, dx, dy, p1, p2, w.sub, rx, ry, e1, e2, hz.1, hz.2, fin_same w (.bl _) h⟩
        · exact h.elim
  cases rx with
  | str a => cases ry with
    | str b => exact .inl (hs a b H Q (fin_same w (.bl _) h))
    | _ => exact .inr (gen fun _ _ z => by cases z.2)
  | _ => exact .inr (gen fun _ _ z => by cases z.1)
theorem r_eq : R2Ok m (fun x y H Q => rEq x y H Q ∨ rEqM m false x y H Q) (dEq false) := r_eqG fun x y H Q h => ⟨rfl, by rw [Bool.false_xor] at h; rw [dec_str]; exact h⟩
theorem r_ne : R2Ok m (fun x y H Q => rNe x y H Q ∨ rEqM m true x y H Q) (dEq true) := r_eqG fun x y H Q h => ⟨rfl, by rw [Bool.true_xor] at h; rw [dec_str]; exact h⟩
end
end ME


namespace ME
open PySem PySem.Spec L2

/-! ### text * int -/
noncomputable def dMulT : D → D → M D
  | .str x, .int n => if szOk (x.length * n.toNat) && decide (-(2 ^ 63) ≤ n) && decide (n ≤ 16777216) then M.ret (.str (Txt.mul x n)) else M.stuck
  | a, b => dMul a b
section
variable {X : Cx} {m : Am}
noncomputable def rMulT : R2 := fun x y H Q => ∃ z n, x = .str z ∧ y = .int n ∧ MulOk z n ∧ Q (.str (Txt.mul z n)) H
theorem op_mulT : OpR X (binaryOp .Mult) rMulT := by
  intro pins s σ H x y v u Q I rx ry h
  obtain ⟨z, n, rfl, rfl, ok, q⟩ := h
  obtain ⟨t, rfl⟩ := rx
  obtain ⟨t', rfl⟩ := ry
  exact SB.mul ok fun t' k => ⟨.str _, H, I.tok _, ⟨_, rfl⟩, q⟩
theorem r_mulT : R2Ok m (fun x y H Q => (rI CMul fun i j => .int (i * j)) x y H Q ∨ rMulT x y H Q) dMulT := by
  rintro σ x y H Q ⟨G, p, δ, ⟨⟨_, dx⟩, dy⟩, w, sl, ⟨⟨u1, rx⟩, ry⟩, h⟩
  have rx' : Rep m.S G m.pen x dx := rx
  have ry' : Rep m.S G m.pen y dy := ry
  by_cases hs : ∃ z n, dx = .str z ∧ dy = .int n
  · obtain ⟨z, n, rfl, rfl⟩ := hs
    cases rx'
    cases ry'
    dsimp only [dMulT] at h
    split at h
    · rename_i hz
      simp only [Bool.and_eq_true, decide_eq_true_eq] at hz
      refine .inr ⟨z, n, rfl, rfl, ?_, fin_same w (.str _) h⟩
      have h1 := szOk_le hz.1.1
      rw [sizeLine_eq] at h1
      by_cases hn : 0 ≤ n
      · exact PyProof.Rows.mulOk_of z.length n.toNat (Nat.le_refl _) (by omega) hz.1.2 (by omega) h1
      · exact PyProof.Rows.mulOk_of z.length 0 (Nat.le_refl _) (by omega) hz.1.2 (by omega) (by omega)
    · exact h.elim
  · refine .inl (r_mul σ x y H Q ⟨G, p, δ, ⟨⟨_, dx⟩, dy⟩, w, sl, ⟨⟨u1, rx⟩, ry⟩, ?_⟩)
    have e : dMulT dx dy = dMul dx dy := by
      unfold dMulT
      split
      · exact absurd ⟨_, _, rfl, rfl⟩ hs
      · rfl
    dsimp only at h ⊢
    rw [← e]; exact h
end
/-! ### in, not in: flat things -/
noncomputable def flatD : D → Bool
  | .non => true
  | .bl _ => true
  | .int _ => true
  | .str _ => true
  | _ => false
noncomputable def eqF : D → D → Bool
  | .non, .non => true
  | .bl a, .bl b => a == b
  | .bl a, .int b => (if a then 1 else 0) == b
  | .int a, .bl b => a == (if b then 1 else 0)
  | .int a, .int b => a == b
  | .str a, .str b => a == b
  | _, _ => false
noncomputable def inF (x : D) (l : List D) : Bool := l.any fun y => eqF y x
noncomputable def dIn (neg : Bool) : D → D → M D
  | x, .lst l => if flatD x && l.all flatD then M.ret (.bl (if neg then !inF x l else inF x l)) else M.stuck
  | x, .tup l => if flatD x && l.all flatD then M.ret (.bl (if neg then !inF x l else inF x l)) else M.stuck
  | _, _ => M.stuck
section
variable {X : Cx} {m : Am} {S : Sg} {G : Hp} {pen : Addr}
theorem Rep.flat {v : V} {d : D} (r : Rep S G pen v d) (h : flatD d = true) : flatV v = true := by
  cases r <;> first | rfl | (simp [flatD] at h; done)
theorem Rep.eqF {v u : V} {d e : D} (r : Rep S G pen v d) (q : Rep S G pen u e) (h : flatD d = true) (k : flatD e = true) : eqV v u = ME.eqF d e := by
  cases r <;> cases q <;> first | rfl | (simp [flatD] at h; done) | (simp [flatD] at k; done)
/-! ### len -/
theorem r_len (hK : X.K = m.S.K) : RAOk m (fun xs H Q => (∃ p ys, xs = [.ref p] ∧ (SqL X.K H p ys ∨ SqT X.K H p ys) ∧ Q (.int ys.length) H) ∨ (∃ z, xs = [.str z] ∧ z.length ≤ sizeLine ∧ Q (.int z.length) H) ∨ (∃ a kvs, xs = [V.ref a] ∧ Rd H a (.dK kvs) ∧ Q (.int kvs.length) H)) dLen := by
  rintro σ xs H Q ⟨G, p, δ, ⟨_, ds⟩, w, sl, ⟨_, r⟩, h⟩
  have r : Reps m.S G m.pen xs ds := r
  rw [hK]
  cases r with
  | nil => exact h.elim
  | @cons v vs d ds r1 r2 => cases r2 with
    | cons _ _ => cases d <;> exact h.elim
    | nil =>
      cases r1 with
      | @lst a vs ds ha ra => exact .inl ⟨a, vs, rfl, .inl (.of (w.sub _ _ ha)), by rw [ra.length]; exact fin_same w (.int _) h⟩
      | @tup a vs ds ha ra => exact .inl ⟨a, vs, rfl, .inr (w.sub.sqt ha), by rw [ra.length]; exact fin_same w (.int _) h⟩
      | @dct a ob vs ds ha ra => exact .inr (.inr ⟨a, vs, rfl, .inr ⟨ob, w.sub _ _ ha⟩, by rw [ra.length]; exact fin_same w (.int _) h⟩)
      | str x =>
        dsimp only [dLen] at h
        split at h
        · rename_i hz
          exact .inr (.inl ⟨x, rfl, szOk_le hz, fin_same w (.int _) h⟩)
        · exact h.elim
      | _ => exact h.elim
theorem call_lenDr : CallR X (.builtin "len") (fun xs H Q => ∃ a kvs, xs = [V.ref a] ∧ Rd H a (.dK kvs) ∧ Q (.int kvs.length) H) := by
  intro pins s σ H xs us Q I r h
  obtain ⟨a, kvs, rfl, ha, q⟩ := h
  obtain ⟨u, rfl, ru⟩ := vals1 r
  cases ru
  exact d_len I ha fun t s' I' => ⟨.int kvs.length, H, I', ⟨t, rfl⟩, q⟩
theorem call_lenM : CallR X (.builtin "len") (fun xs H Q => (∃ p ys, xs = [.ref p] ∧ (SqL X.K H p ys ∨ SqT X.K H p ys) ∧ Q (.int ys.length) H) ∨ (∃ z, xs = [.str z] ∧ z.length ≤ sizeLine ∧ Q (.int z.length) H) ∨ (∃ a kvs, xs = [V.ref a] ∧ Rd H a (.dK kvs) ∧ Q (.int kvs.length) H)) :=
  CallR.or call_len_seq (CallR.or call_len_str call_lenDr)
/-! ### an exception class without own __init__, called without arguments -/
end
end ME

namespace ME
open PySem PySem.Spec L2

/-! ### {k: v, ..} -/
noncomputable def mPairs : List (EX × EX) → DS → M (List (D × D))
  | [], _ => M.ret []
  | (a, b) :: r, δ => (a δ).bnd fun x => (b δ).bnd fun y => (mPairs r δ).bnd fun l => M.ret ((x, y) :: l)
noncomputable def dKey : D → Option Key
  | .int i => some (.inl i)
  | .str x => some (.inr x)
  | _ => none
noncomputable def dKeys : List (D × D) → Option (List (Key × D))
  | [] => some []
  | (k, v) :: r => match dKey k, dKeys r with
    | some k', some r' => some ((k', v) :: r')
    | _, _ => none
noncomputable def mDict (prs : List (EX × EX)) : EX := fun δ => (mPairs prs δ).bnd fun l => match dKeys l with
  | some kvs => if decide (kvs.map (·.1)).Nodup && decide (kvs.length ≤ 15) then M.ret (.dct kvs) else M.stuck
  | none => M.stuck
inductive Reps2 (S : Sg) (G : Hp) (pen : Addr) : List (V × V) → List (D × D) → Prop
  | nil : Reps2 S G pen [] []
  | cons {v u : V} {vs : List (V × V)} {d e : D} {ds : List (D × D)} : Rep S G pen v d → Rep S G pen u e → Reps2 S G pen vs ds → Reps2 S G pen ((v, u) :: vs) ((d, e) :: ds)
noncomputable def rP2 (m : Am) : Rl (List (V × V)) (List (D × D)) := fun G v d => Reps2 m.S G m.pen v d
section
variable {X : Cx} {m : Am} {pos : Pos}
/-- a value that is new, locked at once -/
noncomputable def QL (Q : VK) : VK := fun v H => ∃ d u, v = .ref d ∧ H d = some u ∧ Mut (some u) ∧ ∀ od, Q v (upd H d (.frz od u))
end
end ME

namespace ME
open PySem PySem.Spec L2

/-! ### the law's pen -/
/-- the numbers in a law's own draw -/
structure DrC where
  a1 : Int
  a0 : Int
  m1 : Int
  b1 : Int
  b0 : Int
  m2 : Int
  t0 : Int
  q1 : Int
  q0 : Int
  m3 : Int
noncomputable def cellOf (C : DrC) (p : Pn) : Option Int := if p.cells = [] then some (C.a1 * p.no + C.a0) else p.cells[(p.no % (p.cells.length : Int)).toNat]?
noncomputable def absI (i : Int) : Int := if i < 0 then -i else i
noncomputable def mix1 (C : DrC) (no cell : Int) : Int := (cell % C.m1 + C.b1 * no + C.b0) ^ (5 : Int).toNat % C.m2
noncomputable def mix2 (C : DrC) (no x : Int) : Int := (x * (2 * no + C.t0) + C.q1 * no * no + C.q0) ^ (3 : Int).toNat % C.m3
noncomputable def DrC.ok (C : DrC) : Bool := decide (0 < C.m1 ∧ C.m1 < 2 ^ 32 ∧ 0 < C.m2 ∧ C.m2 < 2 ^ 32 ∧ 0 < C.m3 ∧ C.m3 < 2 ^ 32 ∧ 0 ≤ C.a1 ∧ C.a1 < 2 ^ 20 ∧ 0 ≤ C.a0 ∧ C.a0 < 2 ^ 20 ∧ 0 ≤ C.b1 ∧ C.b1 < 2 ^ 20 ∧ 0 ≤ C.b0 ∧ C.b0 < 2 ^ 20 ∧ 0 ≤ C.t0 ∧ C.t0 < 2 ^ 20 ∧ 0 ≤ C.q1 ∧ C.q1 < 2 ^ 20 ∧ 0 ≤ C.q0 ∧ C.q0 < 2 ^ 20)
noncomputable def Pn.ok (p : Pn) : Prop := 0 ≤ p.no ∧ p.no ≤ 1000000 ∧ p.cells.length ≤ 63
noncomputable instance (p : Pn) : Decidable p.ok := inferInstanceAs (Decidable (_ ∧ _))
/-- a draw -/
noncomputable def drawF (C : DrC) (many : Int) (p : Pn) : Option (Int × Pn) :=
  if decide (0 < many) && decide (many.natAbs.log2 < 9000) && decide p.ok then
    if p.rest > 0 then some (p.rest % many, { p with rest := p.rest / many })
    else match cellOf C p with
      | none => none
      | some cell =>
        if p.no < (p.cells.length : Int) ∧ absI cell ≥ 10 ^ (18 : Int).toNat then
          some ((2 * (absI cell - 10 ^ (18 : Int).toNat) + (if cell < 0 then 1 else 0)) % many, { p with no := p.no + 1, rest := (2 * (absI cell - 10 ^ (18 : Int).toNat) + (if cell < 0 then 1 else 0)) / many })
        else some (mix2 C p.no (mix1 C p.no cell) / 32 % many, { p with no := p.no + 1 })
  else none
noncomputable def mDraw (C : DrC) : List D → M D := fun ds p => match ds with
  | [.pen, .int many] => match drawF C many p with
    | some (r, p') => some (.ok (.int r), p')
    | none => none
  | _ => none
/-- what laws know of a draw -/
theorem drawF_spec {C : DrC} {many : Int} {p : Pn} {r : Int} {p' : Pn} (h : drawF C many p = some (r, p')) : 0 ≤ r ∧ r < many ∧ p'.cells = p.cells ∧ p.no ≤ p'.no ∧ p'.no ≤ p.no + 1 := by
  unfold drawF at h
  split at h
  · rename_i hz
    simp only [Bool.and_eq_true, decide_eq_true_eq] at hz
    have hm := hz.1.1
    split at h
    · cases h; exact ⟨Int.emod_nonneg _ (by omega), Int.emod_lt_of_pos _ hm, rfl, Int.le_refl _, by show p.no ≤ p.no + 1; omega⟩
    · split at h
      · cases h
      · split at h
        · cases h; exact ⟨Int.emod_nonneg _ (by omega), Int.emod_lt_of_pos _ hm, rfl, by show p.no ≤ p.no + 1; omega, Int.le_refl _⟩
        · cases h; exact ⟨Int.emod_nonneg _ (by omega), Int.emod_lt_of_pos _ hm, rfl, by show p.no ≤ p.no + 1; omega, Int.le_refl _⟩
  · cases h
theorem drawF_some {C : DrC} {many : Int} {p : Pn} (h0 : 0 < many) (h1 : many < 2 ^ 8999) (hp : p.ok) : ∃ r p', drawF C many p = some (r, p') ∧ 0 ≤ r ∧ r < many ∧ p'.cells = p.cells ∧ p.no ≤ p'.no ∧ p'.no ≤ p.no + 1 := by
  have hl : many.natAbs.log2 < 9000 := by
    have hne : many.natAbs ≠ 0 := by omega
    have : many.natAbs < 2 ^ 8999 := by omega
    have := (Nat.log2_lt hne).mpr this
    omega
  have he : ∃ q, drawF C many p = some q := by
    unfold drawF
    rw [if_pos (by simp only [Bool.and_eq_true, decide_eq_true_eq]; exact ⟨⟨h0, hl⟩, hp⟩)]
    split
    · exact ⟨_, rfl⟩
    · have : ∃ c, cellOf C p = some c := by
        unfold cellOf
        split
        · exact ⟨_, rfl⟩
        · rename_i hne
          have hlen : 0 < p.cells.length := by
            cases h : p.cells with
            | nil => exact absurd h hne
            | cons _ _ => simp
          have : (p.no % (p.cells.length : Int)).toNat < p.cells.length := by
            have a1 := Int.emod_nonneg p.no (b := (p.cells.length : Int)) (by omega)
            have a2 := Int.emod_lt_of_pos p.no (b := (p.cells.length : Int)) (by omega)
            omega
          exact ⟨_, List.getElem?_eq_getElem this⟩
      obtain ⟨c, hc⟩ := this
      rw [hc]
      dsimp only
      split
      · exact ⟨_, rfl⟩
      · exact ⟨_, rfl⟩
  obtain ⟨⟨r, p'⟩, e⟩ := he
  exact ⟨r, p', e, drawF_spec e⟩

/-- a def by its body in HandS's own terms -/
theorem fn_okR {P : Program} {w : World} {K : PySem.W.Frag} {mg : Str → Option Value} {base : Heap} {x qual : Str} {st : Stmt} {f : Addr} {fd : FuncData} {N ps : List Str} {k : Nat} {sp : Sp} (F : FunG K x qual st f fd) (Sc : FnScope N ps (defScope st))
    (len : ∀ vs H Q E, sp vs H Q E → vs.length = ps.length)
    (hb : ∀ (cdv : Value) (A : Around) (outer : List Env) (s : Shared) (H : Hp) (vs : List V) (Q : VK) (E : XK), fd.code = cdv → A.guards = some [] → Room k (A.deeper (PyProof.Rows.envOfC qual (defScope st) s.heap.objs.size f cdv)) → sp vs H Q E →
      ∃ t, PSs (cxOf (L2.CX P w) P w K mg base N qual (defScope st) f cdv A outer s H E) (defBody st) t ∧ t { nx := fun _ H' => Q .non H', rt := Q } (start N vs) H) :
    FnG P w K mg base (k + 1) f fd ps sp := by
  refine ⟨len, fun A outer s H args us vs Q E hg hr e0 hbd r sp => ?_⟩
  obtain ⟨oc, od, dV, kV, doc, pm, an, cdv, ct, osl, rfl, lk, hcd⟩ := F.ex
  exact LamX.run_ofS lk hcd Sc hr e0 hbd r (len vs H Q E sp) fun hr' => hb cdv A outer s H vs Q E rfl hg hr' sp
end ME

namespace ME
open PySem PySem.Spec L2

/-! ### the pen's own list, read and written -/
noncomputable def dIxP : D → D → M D
  | .pen, .int i => fun p => if i = 0 then some (.ok (.lst (p.cells.map D.int)), p) else if i = 1 then some (.ok (.int p.no), p) else if i = 2 then some (.ok (.int p.rest), p) else none
  | _, _ => M.stuck
/-- pen[k] = e -/
noncomputable def sPen (i : Nat) (k : Int) (e : EX) : SX := sBnd e fun d δ p => match d, δ[i]? with
  | .int z, some (some (.d .pen)) => if k = 1 then some (.nx δ, { p with no := z }) else if k = 2 then some (.nx δ, { p with rest := z }) else none
  | _, _ => none
noncomputable def dDivW : D → D → M D
  | .int i, .int j => if decide (0 < j) && decide (j.natAbs.log2 < 9000) then M.ret (.int (i / j)) else M.stuck
  | _, _ => M.stuck
noncomputable def dAbs : List D → M D
  | [.int i] => M.ret (.int (if i < 0 then -i else i))
  | _ => M.stuck
noncomputable def dInt1 : List D → M D
  | [.int i] => M.ret (.int i)
  | [.bl k] => M.ret (.int (if k then 1 else 0))
  | _ => M.stuck
theorem reps_ints {S : Sg} {G : Hp} {pen : Addr} : ∀ l : List Int, Reps S G pen (l.map V.int) (l.map D.int)
  | [] => .nil
  | i :: l => .cons (.int i) (reps_ints l)
section
variable {X : Cx} {m : Am} {a b e : Expr} {es : List Expr} {pos : Pos} {ea eb : EX} {ra : AX}
theorem r_ixP : R2Ok m (rIxL X.K) dIxP := by
  rintro σ x y H Q ⟨G, p, δ, ⟨⟨_, dx⟩, dy⟩, w, sl, ⟨⟨_, rx⟩, ry⟩, h⟩
  have rx : Rep m.S G m.pen x dx := rx
  have ry : Rep m.S G m.pen y dy := ry
  cases rx with
  | pen => cases ry with
    | int i =>
      obtain ⟨l, e1, e2⟩ := id w.pn
      dsimp only [dIxP] at h
      split at h
      · rename_i hz; subst hz
        exact ⟨m.pen, _, 0, _, rfl, rfl, .of e1, rfl, h (.ref l) G H Ex.refl w (.lst e2 (reps_ints _))⟩
      · split at h
        · rename_i hz; subst hz
          exact ⟨m.pen, _, 1, _, rfl, rfl, .of e1, rfl, h _ G H Ex.refl w (.int _)⟩
        · split at h
          · rename_i hz; subst hz
            exact ⟨m.pen, _, 2, _, rfl, rfl, .of e1, rfl, h _ G H Ex.refl w (.int _)⟩
          · exact h.elim
    | _ => exact h.elim
  | _ => exact h.elim
theorem me_ixP (ha : PE X a (tE m ea)) (hb : PE X b (tE m eb)) (hs : PlainIx b) : PE X (.Subscript a b pos) (tE m (mBin dIxP ea eb)) := by
  refine PE.imp (pe_ix ix_list ha hb hs) fun σ H Q h => ?_
  refine (tY_bind (R1 := m.rE) r0_mono h).imp fun x H1 h2 => ?_
  exact (tY_bind (R1 := m.rE) (rP_mono r0_mono (rE_mono m)) h2).imp fun y H2 h4 => r_ixP σ x y H2 Q h4
theorem r_divW : R2Ok m (rI CDivW fun i j => .int (i / j)) dDivW := by
  rintro σ x y H Q ⟨G, p, δ, ⟨⟨_, dx⟩, dy⟩, w, sl, ⟨⟨_, rx⟩, ry⟩, h⟩
  have rx : Rep m.S G m.pen x dx := rx
  have ry : Rep m.S G m.pen y dy := ry
  cases rx with
  | int i => cases ry with
    | int j =>
      dsimp only [dDivW] at h
      split at h
      · rename_i hz
        simp only [Bool.and_eq_true, decide_eq_true_eq] at hz
        exact ⟨i, j, rfl, rfl, hz, fin_same w (.int _) h⟩
      · exact h.elim
    | _ => exact h.elim
  | _ => exact h.elim
theorem r_abs : RAOk m (fun xs H Q => ∃ i, xs = [.int i] ∧ Q (.int (if i < 0 then -i else i)) H) dAbs := by
  rintro σ xs H Q ⟨G, p, δ, ⟨_, ds⟩, w, sl, ⟨_, r⟩, h⟩
  have r : Reps m.S G m.pen xs ds := r
  cases r with
  | nil => exact h.elim
  | cons r1 r2 => cases r2 with
    | nil => cases r1 with
      | int i => exact ⟨i, rfl, fin_same w (.int _) h⟩
      | _ => exact h.elim
    | cons _ _ =>
      cases r1 <;> exact h.elim
theorem r_int1 : RAOk m (fun xs H Q => (∃ i, xs = [.int i] ∧ Q (.int i) H) ∨ ∃ k, xs = [.bl k] ∧ Q (.int (if k then 1 else 0)) H) dInt1 := by
  rintro σ xs H Q ⟨G, p, δ, ⟨_, ds⟩, w, sl, ⟨_, r⟩, h⟩
  have r : Reps m.S G m.pen xs ds := r
  cases r with
  | nil => exact h.elim
  | cons r1 r2 => cases r2 with
    | nil => cases r1 with
      | int i => exact .inl ⟨i, rfl, fin_same w (.int _) h⟩
      | bl i => exact .inr ⟨i, rfl, fin_same w (.int _) h⟩
      | _ => exact h.elim
    | cons _ _ =>
      cases r1 <;> exact h.elim
/-- the pen is written -/
theorem Wd.penSet {S : Sg} {pen : Addr} {G H : Hp} {p p' : Pn} (w : Wd S pen G H p) {l : Addr} (hl : H pen = some (.lst [.ref l, .int p.no, .int p.rest])) (hc : G l = some (.lst (p.cells.map V.int))) (e : p'.cells = p.cells) : Wd S pen G (upd H pen (.lst [.ref l, .int p'.no, .int p'.rest])) p' := by
  refine ⟨fun b u q => ?_, w.np, ⟨l, upd_same, by rw [e]; exact hc⟩, ?_, w.gt⟩
  · have : b ≠ pen := fun z => by rw [z, w.np] at q; cases q
    rw [upd_ne this]; exact w.sub b u q
  · intro t ht
    obtain ⟨ps, h1, h2, h3⟩ := w.tabs t ht
    refine ⟨ps, ?_, h2, fun pos cv hc => ?_⟩
    · have : t.1 ≠ pen := fun z => by rw [z, hl] at h1; cases h1
      rw [upd_ne this]; exact h1
    · obtain ⟨c', e1, e2⟩ := h3 pos cv hc
      have : c' ≠ pen := fun z => by rw [z, hl] at e2; exact lst_code _ _ (Option.some.inj e2)
      exact ⟨c', e1, by rw [upd_ne this]; exact e2⟩
theorem Ex.penSet {pen : Addr} {G H : Hp} {o : HO} (h : H pen ≠ none) : Ex pen G H G (upd H pen o) :=
  ⟨Sub.refl _, fun b u hb _ e => by rw [upd_ne hb]; exact e, fun b e => by
    by_cases z : b = pen
    · subst z; rw [upd_same] at e; cases e
    · rw [upd_ne z] at e; exact e, fun b e _ => e⟩
theorem ms_pen {i : Nat} {x : Str} {k : Int} {j : Nat} {p1 p2 p3 : Pos} (hN : X.N[i]? = some x) (hv : Vis X.env.scope x) (he : PE X e (tE m ea)) (hd : (x == ("__debug__" : Str)) = false := by decide) (hcd : (x == ("__classdict__" : Str)) = false := by decide)
    (ha : ∀ v, assign (.Subscript (.Name x p1) (.Constant (.int k) j p2) p3) X.env v = (do
      let ov ← holding [v] (eval (.Name x p1) X.env)
      let iv ← holding [v, ov] (eval (.Constant (.int k) j p2) X.env)
      standAt p3
      holding [v, ov, iv] (setItem ov iv v)
      release [v, ov, iv] []) := by intro _; rfl)
    (hs : swapsWithSole [.Subscript (.Name x p1) (.Constant (.int k) j p2) p3] e pos.line X.env = pure false := by rfl) (hw : swappedStores [.Subscript (.Name x p1) (.Constant (.int k) j p2) p3] e X.env = pure none := by rfl)
    (h1 : (assignEach [.Subscript (.Name x p1) (.Constant (.int k) j p2) p3] X.env).map (·.2) = [assign (.Subscript (.Name x p1) (.Constant (.int k) j p2) p3) X.env] := by rfl) :
    PS X (.Assign [.Subscript (.Name x p1) (.Constant (.int k) j p2) p3] e pos) (tS m (sPen i k ea)) := by
  refine PS.imp (ps_asg he (pg_sub (pe_var hN hv hd hcd) pe_int set_list ha) hs hw h1) fun K σ H h => ?_
  refine (tS_bind (R := m.rE) h).imp fun v H1 ⟨d, G, p, δ, w, x, sl, r, q⟩ => ?_
  have r : Rep m.S G m.pen v d := r
  split at q
  · rename_i z ep r0
    cases r with
    | int _ =>
    obtain ⟨u, e1, r1⟩ := sl.val i _ ep
    cases r1 with
    | pen =>
    obtain ⟨l, hl, hc⟩ := id w.pn
    split at q
    · rename_i hk
      subst hk
      refine ⟨.ref m.pen, e1, m.pen, _, 1, 1, rfl, rfl, hl, rfl, ?_⟩
      have w1 : Wd m.S m.pen G _ { p with no := z } := w.penSet hl hc rfl
      have x1 : Ex m.pen G H1 G (upd H1 m.pen (.lst [.ref l, .int z, .int p.rest])) := Ex.penSet (by rw [hl]; simp)
      exact q σ G _ (Sub.refl _) w1 (x.trans x1) (sl.ex x1)
    · split at q
      · rename_i hk
        subst hk
        refine ⟨.ref m.pen, e1, m.pen, _, 2, 2, rfl, rfl, hl, rfl, ?_⟩
        have w1 : Wd m.S m.pen G _ { p with rest := z } := w.penSet hl hc rfl
        have x1 : Ex m.pen G H1 G (upd H1 m.pen (.lst [.ref l, .int p.no, .int z])) := Ex.penSet (by rw [hl]; simp)
        exact q σ G _ (Sub.refl _) w1 (x.trans x1) (sl.ex x1)
      · exact q.elim
  · exact q.elim
end
end ME

/-! The end of a law's row for promises of the form FnG. -/
namespace ME
open PySem PySem.Spec PyProof.Rows L2

/-- the abstract heap at the law's call: the script (unless it is known by K), the tables -/
noncomputable def H0 (K : PySem.W.Frag) (a : Addr) (o : Obj) (ns : List Int) (tb : List Addr) : Hp := fun b =>
  if b = a ∧ K.lookup a = none then some (.frz o (.lst (ns.map V.int))) else if b ∈ tb then some (.tbl #[]) else none
section
variable {P : Program} {w : World} {K : PySem.W.Frag} {mg mb : Str → Option Value} {a : Addr} {cs : List (Addr × Addr)} {s : Shared} {vs : List Value} {ns : List Int}
noncomputable abbrev objL (vs : List Value) : Obj := { cls := .type "list", data := .seq vs.toArray }
noncomputable abbrev objT : Obj := { cls := .none, data := .fields #[] }
theorem H0_tab (ha : s.heap.get? a = some (objL vs)) {tb : List Addr} (hT : ∀ t ∈ tb, s.heap.get? t = some objT) {t : Addr} (h : t ∈ tb) : H0 K a (objL vs) ns tb t = some (.tbl #[]) := by
  have : t ≠ a := fun z => by
    have q := hT t h
    rw [z, ha] at q
    cases q
  unfold H0
  rw [if_neg (fun z => this z.1), if_pos h]
theorem H0_cases {o : Obj} {tb : List Addr} {b : Addr} {u : HO} (h : H0 K a o ns tb b = some u) : (b = a ∧ K.lookup a = none ∧ u = .frz o (.lst (ns.map V.int))) ∨ (b ∈ tb ∧ u = .tbl #[]) := by
  unfold H0 at h
  split at h
  · rename_i z; exact .inl ⟨z.1, z.2, (Option.some.inj h).symm⟩
  · split at h
    · rename_i z; exact .inr ⟨z, (Option.some.inj h).symm⟩
    · cases h
theorem H0_sq (KX : K.In s.heap) (ha : s.heap.get? a = some (objL vs)) (hi : IntsAre vs ns) (hl : ns.length ≤ sizeLine) {tb : List Addr} : SqL K (H0 K a (objL vs) ns tb) a (ns.map V.int) := by
  cases hk : K.lookup a with
  | none => exact .inl (.inr ⟨objL vs, by unfold H0; rw [if_pos ⟨rfl, hk⟩]⟩)
  | some o =>
    have e := KX a o hk
    rw [ha] at e
    cases e
    exact .inr ⟨_, vs.toArray, _, hk, rfl, rfl, rfl, by rw [List.size_toArray, hi.length]; exact hl, by simpa using vals_ints hi⟩
theorem H0_ok (ha : s.heap.get? a = some (objL vs)) (hi : IntsAre vs ns) (hl : ns.length ≤ sizeLine) {tb : List Addr} (hT : ∀ t ∈ tb, s.heap.get? t = some objT) : HOk P w (H0 K a (objL vs) ns tb) s.heap := by
  intro b u h
  rcases H0_cases h with ⟨rfl, _, rfl⟩ | ⟨hb, rfl⟩
  · exact ⟨ha, by rw [List.length_map]; exact hl, vs, _, vals_ints hi, ha⟩
  · exact hT b hb
/-- what is neither a list nor a table is untracked at the start -/
theorem H0_none (ha : s.heap.get? a = some (objL vs)) {tb : List Addr} (hT : ∀ t ∈ tb, s.heap.get? t = some objT) {b : Addr} {o : Obj} (e : s.heap.get? b = some o) (h1 : ∀ us n, o.data ≠ .seq us n) (h2 : o.data ≠ .fields #[]) : H0 K a (objL vs) ns tb b = none := by
  cases q : H0 K a (objL vs) ns tb b with
  | none => rfl
  | some u =>
    rcases H0_cases q with ⟨rfl, _, _⟩ | ⟨hb, _⟩
    · rw [ha] at e; cases e; exact (h1 _ _ rfl).elim
    · rw [hT b hb] at e; cases e; exact (h2 rfl).elim
/-- THE START AND THE END of a law's call -/
theorem law_callG {k : Nat} {fa : Addr} {fd : FuncData} {x : Str} {sp : Sp}
    (KX : K.In s.heap) (hns : s.heap.Ns mainGlobals mg) (hb : s.heap.Ns builtinsNs mb) (hbb : ∀ x : Str, x ≠ "__name__" → mb x = bootBuiltins x) (hlim : s.heap.NoLimit) (hg : s.gens = #[])
    (hT : ∀ p ∈ cs, s.heap.get? p.2 = some objT) (nT : ∀ p ∈ cs, K.lookup p.2 = none) (C : ∀ p ∈ cs, PySem.W.CodeHd s.heap p.1 p.2)
    (hsy : ∃ mm, s.heap.Ns sysModules mm) (hbm : ∃ (bm : Addr) (ob : Obj), mg "__builtins__" = some (.ref bm) ∧ bm ≠ builtinsNs ∧ s.heap.get? bm = some ob ∧ ob.cls = .type "module" ∧ ob.dict = some builtinsNs ∧ ob.data = .plain)
    (ha : s.heap.get? a = some (objL vs)) (hi : IntsAre vs ns) (hl : ns.length ≤ sizeLine) (hr : Room k callerA)
    (F : ∀ base : Heap, K.In base → base.Ns mainGlobals mg → (∃ o, base.get? sysModules = some o) → (∀ p ∈ cs, LamX.TabB base mg p.1 p.2) → FnG P w K mg base k fa fd [x] sp) (hbind : ∀ (s : Shared) (u : Value), BindsTo s fd ⟨[u], []⟩ [(x, u)])
    (hsp : ∀ H : Hp, (∀ p ∈ cs, H p.2 = some (.tbl #[])) → SqL K H a (ns.map V.int) → sp [.ref a] H (fun v _ => v = .bl true) fun _ _ _ => False) :
    codeAny (model P w) callerA (.call (.ref fa) ⟨[.ref a], []⟩) (fun r s' => r = .ok (.ret (.bool true)) ∧ OldK s.heap s'.heap ∧ s'.os = s.os ∧ AllBare s'.gens) s := by
  have hTb : ∀ t ∈ cs.map (·.2), s.heap.get? t = some objT := fun t ht => by
    obtain ⟨p, hp, e⟩ := List.mem_map.mp ht
    rw [← e]; exact hT p hp
  have memT : ∀ p ∈ cs, p.2 ∈ cs.map (·.2) := fun p hp => List.mem_map.mpr ⟨p, hp, rfl⟩
  obtain ⟨H, hH⟩ : ∃ H, H = H0 K a (objL vs) ns (cs.map (·.2)) := ⟨_, rfl⟩
  have up : ∀ {b : Addr} {o : Obj}, s.heap.get? b = some o → H b = none → (hidT s.heap H).get? b = some o := fun e n => hidT_get e n
  have free : ∀ {b : Addr} {o : Obj}, s.heap.get? b = some o → (∀ us n, o.data ≠ .seq us n) → o.data ≠ .fields #[] → H b = none := fun e h1 h2 => by rw [hH]; exact H0_none ha hTb e h1 h2
  have nsK : ∀ {b : Addr} {m : Str → Option Value}, s.heap.Ns b m → (hidT s.heap H).Ns b m := fun ⟨o, es, ep, e, d, r⟩ => ⟨o, es, ep, up e (free e (by intro us n z; rw [d] at z; cases z) (by intro z; rw [d] at z; cases z)), d, r⟩
  have hKb : K.In (hidT s.heap H) := fun b o e => up (KX b o e) (by
    cases q : H b with
    | none => rfl
    | some u =>
      rw [hH] at q
      rcases H0_cases q with ⟨rfl, hk, _⟩ | ⟨hb, _⟩
      · rw [hk] at e; cases e
      · obtain ⟨p, hp, ep⟩ := List.mem_map.mp hb
        rw [← ep, nT p hp] at e; cases e)
  have TB : ∀ p ∈ cs, LamX.TabB (hidT s.heap H) mg p.1 p.2 := fun p hp => by
    have hTp := hT p hp
    refine ⟨?_, ?_, fun z => ?_⟩
    · obtain ⟨o, us, file, tf, flags, tg, inF, text, tt, e1, r1, r2, r3, rest⟩ := C p hp
      exact ⟨o, us, file, tf, flags, tg, inF, text, tt, up e1 (free e1 (by intro us n z; rw [r2] at z; cases z) (by intro z; rw [r2] at z; cases z; simp at r3)), r1, r2, r3, rest⟩
    · obtain ⟨bm, ob, b1, b2, b3, b4, b5, b6⟩ := hbm
      refine ⟨bm, ob, b1, b2, fun q => ?_, fun q => ?_, up b3 (free b3 (by intro us n z; rw [b6] at z; cases z) (by intro z; rw [b6] at z; cases z)), b4, b5, b6⟩
      · obtain ⟨o, es, ep, e, hd, _⟩ := hns
        rw [q, e] at b3; cases b3; rw [hd] at b6; cases b6
      · rw [q, hTp] at b3; cases b3; cases b6
    · obtain ⟨o, es, ep, e, hd, _⟩ := hns
      rw [z, hTp] at e; cases e; cases hd
  have hok : HOk P w H s.heap := by rw [hH]; exact H0_ok ha hi hl hTb
  have hM : L2.Mod K mg (hidT s.heap H) := ⟨hKb, nsK hns, ⟨mb, nsK hb, hbb⟩, let ⟨mc, h1, h2⟩ := hlim; ⟨mc, nsK h1, h2⟩⟩
  have e0 : Env0 P w K mg (hidT s.heap H) callerA [] s H := ⟨rfl, hM, fun b o e => of_hidT e, Nat.le_of_eq (hidT_size _ _), trivial, fun b hb => absurd (show b ∈ ([] : List Addr) from hb) (by simp), hok, .of_eq hg⟩
  have sps := hsp H (fun p hp => by rw [hH]; exact H0_tab ha hTb (memT p hp)) (by rw [hH]; exact H0_sq KX ha hi hl)
  refine codeAny_mono ((F _ hKb (nsK hns) (by obtain ⟨mm, y⟩ := hsy; obtain ⟨o, _, _, e, _⟩ := nsK y; exact ⟨o, e⟩) TB).run callerA [] s H ⟨[.ref a], []⟩ [.ref a] [.ref a] _ _ rfl hr e0 (hbind s (.ref a)) (.cons rfl .nil) sps) fun r s' h => ?_
  cases r with
  | error e => obtain ⟨_, _, _, _, _, _, _, _, _, _, _, _, z⟩ := h; exact z.elim
  | ok fl =>
    cases fl with
    | next => exact False.elim h
    | brk => exact False.elim h
    | cont => exact False.elim h
    | ret u =>
      obtain ⟨v, H', os, bare, un, hok', r', q⟩ := h
      have q' : v = .bl true := q
      subst q'
      obtain rfl : u = Value.bool true := r'
      have key : ∀ b o, s.heap.get? b = some o → s'.heap.get? b = some o ∨ ∃ p ∈ cs, p.2 = b := fun b o e => by
        cases q : H b with
        | none => exact .inl (un.keep b o e q (by intro z; exact absurd (show b ∈ ([] : List Addr) from z) (by simp)) (by simp))
        | some u =>
          have q0 := q
          rw [hH] at q0
          rcases H0_cases q0 with ⟨rfl, _, rfl⟩ | ⟨hb, _⟩
          · have z2 := un.frzs _ _ _ q
            obtain ⟨e2, _⟩ := hok' _ _ z2
            rw [ha] at e; cases e
            exact .inl e2
          · obtain ⟨p, hp, ep⟩ := List.mem_map.mp hb
            exact .inr ⟨p, hp, ep⟩
      have grown : ∀ p ∈ cs, ∃ more : Array Value, s'.heap.get? p.2 = some { cls := .none, data := .fields more } := fun p hp => by
        obtain ⟨more, z⟩ := un.tbls p.2 #[] (by rw [hH]; exact H0_tab ha hTb (memT p hp))
        exact ⟨_, hok' p.2 _ z⟩
      refine ⟨rfl, ⟨fun b o e => ?_, fun b o e => ?_⟩, os, bare⟩
      · rcases key b o e with z | ⟨p, hp, rfl⟩
        · exact .inl z
        · obtain ⟨more, hm⟩ := grown p hp
          rw [hT p hp] at e
          cases e
          exact .inr (.inl ⟨((C p hp).tab (hT p hp)).isCodeTable, rfl, #[], more, rfl, by rw [Array.empty_append]; exact hm⟩)
      · rcases key b o e with z | ⟨p, hp, rfl⟩
        · exact ⟨o, z⟩
        · obtain ⟨more, hm⟩ := grown p hp
          exact ⟨_, hm⟩
end
theorem seer_sys {h : Heap} (x : h.NoSeer) : ∃ mm, h.Ns sysModules mm := let ⟨mm, h1, _⟩ := x.mods; ⟨mm, h1⟩
/-- what is known of the law's def at the head's heap h -/
noncomputable def LawAtG (l : PySem.W.OpenLaw) (w : World) (K : PySem.W.Frag) (k n : Nat) (x : Str) (mg : Str → Option Value) (fa : Addr) (h : Heap) : Prop :=
  ∃ (fd : FuncData) (cs : List (Addr × Addr)) (sp : Sp), (∀ p ∈ cs, h.get? p.2 = some objT) ∧ (∀ p ∈ cs, K.lookup p.2 = none) ∧ (∀ p ∈ cs, PySem.W.CodeHd h p.1 p.2) ∧ (∀ (s : Shared) (u : Value), BindsTo s fd ⟨[u], []⟩ [(x, u)]) ∧
    (∀ (H : Hp) (a : Addr) (ns : List Int), ns.length ≤ n → (∀ p ∈ cs, H p.2 = some (.tbl #[])) → SqL K H a (ns.map V.int) → sp [.ref a] H (fun v _ => v = .bl true) fun _ _ _ => False) ∧
    ∀ base : Heap, K.In base → base.Ns mainGlobals mg → (∃ o, base.get? sysModules = some o) → (∀ p ∈ cs, LamX.TabB base mg p.1 p.2) → FnG l.prog w K mg base k fa fd [x] sp
theorem walk_ofG {l : PySem.W.OpenLaw} {n k : Nat} {q : Program} {loose : List Str} {XP : (Str → Option Value) → Heap → Prop} {YP : World → Heap → Prop} {d : DefRec} {K : Params → PySem.W.Frag} {x : Str}
    (hn : l.most = some n) (hn2 : n ≤ sizeLine) (hdf : d.params.defaults = []) (hr : Room k callerA) (hq : importsNone q = true) (hY : ∀ (w : World) (h : Heap), YP w h → (K w.params).In h)
    (F : ∀ (w : World) (mg : Str → Option Value) (fa : Addr) (h : Heap), YP w h → (K w.params).In h → h.Ns mainGlobals mg → mg d.name = some (.ref fa) → LawAtG l w (K w.params) k n x mg fa h) :
    PySem.W.WalkO q loose XP YP l.row.toRowW d [] (fun f vs => PySem.call f vs) := by
  refine Att.attach_callB hn hdf fun w s₀ s₁ mg mb fa o pm cd doc a vs ns G Y ho hd hcd hmg hobj hints hlen hbits hg => ?_
  have KX := hY w _ Y
  obtain ⟨fd, cs, sp, hT, nT, C, hb, hsp, hF⟩ := F w mg fa _ Y KX G.T.g hmg
  exact law_callG KX G.T.g G.T.b G.T.builtins G.T.nolimit hg hT nT C (seer_sys (G.T.seer hq)) G.T.bmain hobj hints (Nat.le_trans hlen hn2) hr hF hb fun H hH hS => hsp H a ns hlen hH hS
end ME

/-! The law's def: the pen is made, then the rest as a mirror. -/
namespace ME
open PySem PySem.Spec PyProof.Rows L2

noncomputable abbrev penBody (p1 p2 p3 p4 p5 p6 p7 p8 p9 p10 : Pos) (k1 k2 k3 : Nat) : List Stmt :=
  [.Return (some (.List [.Call (.Name "list" p1) [.Subscript (.Name "_law_script" p2) (.Slice none (some (.Constant (.int 63) k1 p3)) none p4) p5] [] p6, .Constant (.int 0) k2 p7, .Constant (.int 0) k3 p8] p9)) p10]
noncomputable def spPen (K : PySem.W.Frag) : Sp := fun vs H Q _ => ∃ (a : Addr) (ns : List Int), vs = [.ref a] ∧ SqL K H a (ns.map V.int) ∧
  ∀ (l0 l pen : Addr), H l0 = none → upd H l0 (.lst ((ns.take 63).map V.int)) l = none → upd (upd H l0 (.lst ((ns.take 63).map V.int))) l (.lst ((ns.take 63).map V.int)) pen = none →
    Q (.ref pen) (upd (upd (upd H l0 (.lst ((ns.take 63).map V.int))) l (.lst ((ns.take 63).map V.int))) pen (.lst [.ref l, .int 0, .int 0]))
theorem cut63 (ns : List Int) : cutV (ns.map V.int) none (some 63) = (ns.take 63).map V.int := by
  unfold cutV
  simp [HT.sIx, List.map_take]
theorem fn_pen {P : Program} {w : World} {K : PySem.W.Frag} {mg : Str → Option Value} {base : Heap} {qual : Str} {st : Stmt} {f : Addr} {fd : FuncData} {p1 p2 p3 p4 p5 p6 p7 p8 p9 p10 : Pos} {k1 k2 k3 : Nat}
    (F : FunG K "_law_pen" qual st f fd) (Sc : FnScope ["_law_script"] ["_law_script"] (defScope st)) (hl : (defScope st).names.lookup ("list" : Str) = some .globalImplicit) (hv : Vis (defScope st) "_law_script") (hm : mg "list" = none)
    (hb : defBody st = penBody p1 p2 p3 p4 p5 p6 p7 p8 p9 p10 k1 k2 k3) : FnG P w K mg base 1 f fd ["_law_script"] (spPen K) := by
  refine fn_okR (k := 0) F Sc (fun vs H Q E h => by obtain ⟨a, ns, rfl, _⟩ := h; rfl) fun cdv A outer s H vs Q E hcv hg hr h => ?_
  rw [hb]
  refine ⟨_, pss_one (ps_ret (pe_lst (pa_cons (pe_callTy call_list_of (show Gl _ _ from hl) hm rfl (pa_cons (pe_slice sl_list (pe_var (i := 0) rfl hv) po_none (po_some pe_int)) pa_nil)) (pa_cons pe_int (pa_cons pe_int pa_nil))))), ?_⟩
  obtain ⟨a, ns, rfl, hs, q⟩ := h
  refine ⟨.ref a, rfl, _, rfl, a, _, rfl, hs, fun l0 h0 => ?_⟩
  refine ⟨l0, _, rfl, .inl (.of upd_same), fun l h1 => ?_⟩
  rw [cut63] at h1 ⊢
  exact ⟨show 3 ≤ sizeLine by rw [sizeLine_eq]; decide, fun pen h2 => q l0 l pen h0 h1 h2⟩
/-- the slots at the law's start, the pen made -/
noncomputable def lawDs (n : Nat) : DS := none :: some (.d .pen) :: List.replicate (n - 2) none
noncomputable def spLaw (S : Sg) (n : Nat) (body : SX) : Sp := fun vs H Q _ => ∃ (a : Addr) (ns : List Int), vs = [.ref a] ∧ SqL S.K H a (ns.map V.int) ∧ LamX.Tabs S.T H ∧ ∃ p', body (lawDs n) ⟨ns.take 63, 0, 0⟩ = some (.rt (.bl true), p') ∧ ∀ H', Q (.bl true) H'
theorem law_okM {P : Program} {w : World} {K : PySem.W.Frag} {mg : Str → Option Value} {base : Heap} {x qual pn : Str} {st : Stmt} {f fp : Addr} {fd fdp : FuncData} {N : List Str} {k : Nat} {S : Sg} {body : SX} {p1 p2 p3 p4 p5 : Pos} {rest : List Stmt}
    (hK : K = S.K) (F : FunG K x qual st f fd) (Sc : FnScope N ["_law_script"] (defScope st)) (hst : defBody st = .Assign [.Name pn p1] (.Call (.Name "_law_pen" p2) [.Name "_law_script" p3] [] p4) p5 :: rest)
    (h0 : N[0]? = some ("_law_script" : Str)) (h1 : N[1]? = some pn) (hN2 : 2 ≤ N.length) (hl : Loc (defScope st) pn) (hv : Vis (defScope st) "_law_script") (hgl : (defScope st).names.lookup ("_law_pen" : Str) = some .globalImplicit)
    (FP : FnG P w K mg base k fp fdp ["_law_script"] (spPen K)) (bp : Bd K fdp ["_law_script"] 1 [] [] [.p 0]) (hmp : mg "_law_pen" = some (.ref fp)) (hkp : PySem.W.keepIn K (.ref fp) = true)
    (hsw : ∀ env : Env, swapsWith (.Call (.Name "_law_pen" p2) [.Name "_law_script" p3] [] p4) (some (.Name pn p1)) p5.line env = pure false)
    (hb : ∀ (cdv : Value) (A : Around) (outer : List Env) (s : Shared) (pen : Addr) (G0 B H : Hp) (E : XK), fd.code = cdv → A.guards = some [] → Room k (A.deeper (envOfC qual (defScope st) s.heap.objs.size f cdv)) →
      PSs (cxOf (L2.CX P w) P w K mg base N qual (defScope st) f cdv A outer s H E) rest (tS ⟨S, pen, G0, B, fun c d _ H' => E c d H'⟩ body)) :
    FnG P w K mg base (k + 1) f fd ["_law_script"] (spLaw S N.length body) := by
  subst hK
  refine fn_okR F Sc (fun vs H Q E h => by obtain ⟨a, ns, rfl, _⟩ := h; rfl) fun cdv A outer s H vs Q E hcv hg hr h => ?_
  have hpe : PE (cxOf (L2.CX P w) P w S.K mg base N qual (defScope st) f cdv A outer s H E) (.Call (.Name "_law_pen" p2) [.Name "_law_script" p3] [] p4) (fun σ H Q => ∃ u, σ[0]? = some (some u) ∧ spPen S.K [u] H Q fun _ _ _ => False) := by
    refine ⟨fun pins s1 σ Hx Q I h => ?_⟩
    refine wpAny_Call_Name_kw (ld_glob I (show Gl _ _ from hgl) hmp ?_)
    have pv := pa_cons (pe_var (X := cxOf (L2.CX P w) P w S.K mg base N qual (defScope st) f cdv A outer s H E) (pos := p3) h0 hv) pa_nil
    obtain ⟨u, e1, sp⟩ := h
    refine PySem.W.callWith_K (h₀ := base) I.ok.mod.kin hkp (thn (pv.run p4 pins s1 σ Hx (fun vs H1 => ∃ u, vs = [u] ∧ spPen S.K [u] H1 Q fun _ _ _ => False) I ⟨u, e1, u, rfl, sp⟩) fun us s2 ⟨vs, H1, I1, r, u, ev, q⟩ => ⟨I1.kIn, ?_⟩) rfl rfl
    subst ev
    obtain ⟨its, vd, bd⟩ := bp.ex
    cases vd
    have lu : us.length = 1 := by rw [← r.length]; rfl
    have bt := bd s2 us [] I1.kIn lu rfl
    have pk : pick us ([] : List Value) [] [.p 0] = us := by
      match us, lu with
      | [y], _ => rfl
    rw [pk] at bt
    refine wpAny_call (codeAny_mono (FP.run _ _ s2 H1 ⟨us, []⟩ us [u] Q (fun _ _ _ => False) (show A.guards = some [] from hg) hr I1.env0 bt r q) fun r s' hq => ?_)
    cases r with
    | error e => obtain ⟨_, _, _, _, _, _, _, _, _, _, _, _, z⟩ := hq; exact z.elim
    | ok fl =>
      cases fl with
      | ret u => exact I1.after hq
      | next => exact False.elim hq
      | brk => exact False.elim hq
      | cont => exact False.elim hq
  rw [hst]
  have hrest : PSs (cxOf (L2.CX P w) P w S.K mg base N qual (defScope st) f cdv A outer s H E) rest (fun K σ H1 => ∃ pen G0 B, tS ⟨S, pen, G0, B, fun c d _ H' => E c d H'⟩ body K σ H1) :=
    ⟨fun pins s2 σ H2 K I ⟨pen, G0, B, q⟩ => (hb cdv A outer s pen G0 B H E hcv hg hr).run pins s2 σ H2 K I q⟩
  refine ⟨_, pss_cons (ps_set Sc.nd h1 hl hpe (hsw _) (.inl rfl)) hrest, ?_⟩
  obtain ⟨a, ns, rfl, hs, ht, p', hbody, hq⟩ := h
  refine ⟨.ref a, rfl, a, ns, rfl, hs, fun l0 l pen e0 e1 e2 => ?_⟩
  obtain ⟨H1, hH1⟩ : ∃ H1, H1 = upd H l0 (.lst ((ns.take 63).map V.int)) := ⟨_, rfl⟩
  rw [← hH1] at e1 e2 ⊢
  obtain ⟨H2, hH2⟩ : ∃ H2, H2 = upd H1 l (.lst ((ns.take 63).map V.int)) := ⟨_, rfl⟩
  rw [← hH2] at e2 ⊢
  have npl : pen ≠ l := fun z => by rw [z, hH2, upd_same] at e2; cases e2
  let G : Hp := upd (fun _ => none) l (.lst ((ns.take 63).map V.int))
  refine ⟨pen, G, upd H2 pen (.lst [.ref l, .int 0, .int 0]), G, ⟨ns.take 63, 0, 0⟩, lawDs N.length, ⟨?_, ?_, ⟨l, upd_same, upd_same⟩, ?_, ?_⟩, Ex.refl, ?_, ?_⟩
  · intro b o hb
    by_cases z : b = l
    · subst z
      rw [upd_ne (Ne.symm npl), hH2, upd_same]
      simpa [G, upd_same] using hb
    · simp [G, upd_ne z] at hb
  · show upd (fun _ => none) l _ pen = none
    rw [upd_ne npl]
  · refine LamX.Tabs.ext ht fun b u q => ?_
    have n0 : b ≠ l0 := ne_of_none q e0
    have q1 : H1 b = some u := by rw [hH1, upd_ne n0]; exact q
    have n1 : b ≠ l := ne_of_none q1 e1
    have q2 : H2 b = some u := by rw [hH2, upd_ne n1]; exact q1
    rw [upd_ne (ne_of_none q2 e2)]; exact q2
  · intro q hq
    obtain ⟨ps, hP, _⟩ := ht q hq
    have n0 : q.1 ≠ l0 := ne_of_none hP e0
    have q1 : H1 q.1 = some (.tbl ps) := by rw [hH1, upd_ne n0]; exact hP
    show upd (fun _ => none) l _ q.1 = none
    rw [upd_ne (ne_of_none q1 e1)]
  · -- the slots
    have hlen : ((start N [V.ref a]).set 1 (some (V.ref pen))).length = (lawDs N.length).length := by
      simp [L2.start, lawDs]; omega
    have look : ∀ (i : Nat) s, (lawDs N.length)[i]? = some (some s) → i = 1 ∧ s = .d .pen := fun i s e => by
      match i with
      | 0 => cases e
      | 1 => exact ⟨rfl, (Option.some.inj (Option.some.inj e)).symm⟩
      | i + 2 =>
        have e : (List.replicate (N.length - 2) (none : Option Sl))[i]? = some (some s) := e
        rw [List.getElem?_replicate] at e
        split at e <;> cases e
    refine ⟨hlen, fun i x e => ?_, fun i xs e => ?_, fun i xs e => ?_, fun i c xs e => ?_, fun i j s t l e1 _ n1 => ?_⟩
    · obtain ⟨rfl, z⟩ := look i _ e
      cases z
      refine ⟨.ref pen, ?_, .pen⟩
      rw [List.getElem?_set_self (by simp [L2.start]; omega)]
    · obtain ⟨_, z⟩ := look i _ e; cases z
    · obtain ⟨_, z⟩ := look i _ e; cases z
    · obtain ⟨_, z⟩ := look i _ e; cases z
    · obtain ⟨_, z⟩ := look i _ e1; exact absurd z (n1 _)
  · rw [hbody]
    intro v G' H' _ _ _ r
    cases r
    exact hq H'
end ME

/-! What the top has written, asked by Booleans; the __init__ of an exception class. -/
namespace ME
open PySem PySem.Spec PyProof.Rows L2

/-- the object of an own class over ValueError -/
noncomputable def oexB (K : PySem.W.Frag) (C : Addr) : Bool := match K.lookup C with
  | some ⟨.type "type", _, .cls cd, sl⟩ => (match cd.mro, sl.toList with
    | .ref C' :: bm, [_, _, _, _, some (.builtin n), _] => C' == C && n == "ValueError.__new__" && !cd.hasDel && cd.hasDict && PySem.HandSPX.refsVE bm
    | _, _ => false)
  | _ => false
theorem oexB_of {K : PySem.W.Frag} {C : Addr} (q : oexB K C = true) : ∃ nm qn N bs bm sn sub ab col dd k0 k1 k2 k3 k5, K.lookup C = some (excClassObj nm qn C N bs bm true sn sub ab col dd k0 k1 k2 k3 k5 "ValueError.__new__") ∧ PySem.HandSPX.refsVE bm = true := by
  unfold oexB at q
  split at q
  · rename_i dd cd sl ho
    split at q
    · rename_i C' bm k0 k1 k2 k3 n k5 hm hs
      simp only [Bool.and_eq_true, beq_iff_eq, Bool.not_eq_true'] at q
      obtain ⟨⟨⟨⟨rfl, rfl⟩, hdel⟩, hd⟩, ht⟩ := q
      obtain ⟨nm, bs, mro, ns, qn, hd', sn, sub, ab, col, del⟩ := cd
      dsimp only at hm hdel hd
      subst hm hdel hd
      have hsl : sl = #[k0, k1, k2, k3, some (.builtin "ValueError.__new__"), k5] := by
        obtain ⟨l⟩ := sl
        simp only at hs
        rw [hs]
      subst hsl
      exact ⟨nm, qn, ns, bs, bm, sn, sub, ab, col, dd, k0, k1, k2, k3, k5, ho, ht⟩
    · cases q
  · cases q
noncomputable def eqB {α : Type} [BEq α] (a b : α) : Bool := a == b
/-- an exception class: what making and asking it take -/
noncomputable def xcB (K : PySem.W.Frag) (C : Addr) : Bool :=
  oexB K C && (PySem.W.findIn K (.ref C) "__setattr__" == some (some (.builtin "object.__setattr__"))) && (PySem.W.subIn K (.ref C) (.type "BaseException") == some true) && (PySem.W.typeIn K (.ref C) == some (.type "type")) && PySem.W.keepIn K (.ref C)
    && (PySem.W.clsIn K C).isSome && (PySem.W.findIn K (.ref C) "__getattribute__" == some (some (.builtin "BaseException.__getattribute__"))) && (PySem.W.findIn K (.ref C) "__getattr__" == some none)
    && (PySem.W.findIn K (.ref C) "__class__" == some (some (.builtin "object.__class__"))) && (PySem.W.mroIn K C (.type "object") == some true)
/-- what is asked of the built-in parts -/
noncomputable def bltB (K : PySem.W.Frag) : Bool := (PySem.W.specialIn K (.builtin "object.__class__") "__get__" == some (some (.builtin "getset_descriptor.__get__"))) && (PySem.W.takesIn K (.builtin "object.__class__") == some true)
theorem oex_of {K : PySem.W.Frag} {C : Addr} (h : xcB K C = true) : OexC K C := by
  unfold xcB at h
  simp only [Bool.and_eq_true, beq_iff_eq] at h
  exact ⟨oexB_of h.1.1.1.1.1.1.1.1.1, h.1.1.1.1.1.1.1.1.2, h.1.1.1.1.1.1.1.2, h.1.1.1.1.1.1.2, h.1.1.1.1.1.2⟩
theorem xok_of {K : PySem.W.Frag} {C : Addr} (h : xcB K C = true) (b : bltB K = true) : XOk K C := by
  unfold xcB at h
  unfold bltB at b
  simp only [Bool.and_eq_true, beq_iff_eq] at h b
  exact ⟨h.1.1.1.1.2, h.1.1.1.2, h.1.1.2, h.1.1.1.1.1.1.1.2, h.1.2, b.1, b.2, h.2⟩
/-- the table of isinstance -/
noncomputable def isfB (K : PySem.W.Frag) (ca : Nat → Addr) (T : IsT) : Bool :=
  ((T.os ++ T.xs).all fun c => (T.os ++ T.xs).all fun c' => PySem.W.kitOne K (.ref (ca c)) (.ref (ca c')) == some (T.sub c c')) &&
  ((T.os ++ T.xs).all fun c => T.ts.all fun n => PySem.W.kitOne K (.ref (ca c)) (.type n) == some (T.subT c n)) &&
  (tyNames.all fun a => (T.os ++ T.xs).all fun c' => PySem.W.kitOne K (.type a) (.ref (ca c')) == some false) && T.xs.all fun c => xcB K (ca c)
theorem isf_of {S : Sg} {T : IsT} (h : isfB S.K S.ca T = true) (b : bltB S.K = true) (hos : ∀ c ∈ T.os, OCl S.K (S.ca c)) : IsF S T := by
  unfold isfB at h
  simp only [Bool.and_eq_true, List.all_eq_true, beq_iff_eq] at h
  obtain ⟨⟨⟨h1, h2⟩, h3⟩, h4⟩ := h
  have mem : ∀ c, c ∈ T.os ∨ c ∈ T.xs → c ∈ T.os ++ T.xs := fun c hc => List.mem_append.mpr hc
  exact ⟨fun c hc c' hc' => h1 c (mem c hc) c' (mem c' hc'), fun c hc n hn => h2 c (mem c hc) n hn, fun a ha c' hc' => h3 a ha c' (mem c' hc'), hos, fun c hc => xok_of (h4 c hc) b⟩

/-! ### the __init__ of an exception class: each parameter is stored -/
section
variable {P : Program} {w : World} {K : PySem.W.Frag} {mg : Str → Option Value} {base : Heap} {qual : Str} {st : Stmt} {f C : Addr} {fd : FuncData} {a b : Str}
theorem fn_okF {x : Str} {N ps : List Str} {k : Nat} {sp : Sp} (F : FunG K x qual st f fd) (Sc : FnScope N ps (defScope st))
    (len : ∀ vs H Q E, sp vs H Q E → vs.length = ps.length)
    (hb : ∀ (cdv : Value) (A : Around) (outer : List Env) (s : Shared) (H : Hp) (vs : List V) (Q : VK) (E : XK), Room k (A.deeper (envOfC qual (defScope st) s.heap.objs.size f cdv)) → sp vs H Q E →
      ∃ t, PSs (cxOf (L2.CX P w) P w K mg base N qual (defScope st) f cdv A outer s H E) (defBody st) t ∧ t { nx := fun _ H' => Q .non H', rt := Q } (start N vs) H) :
    FnOk P w K mg base (L2.CX P w) (k + 1) f fd ps sp := by
  refine ⟨len, fun A outer s H args us vs Q E hr e0 hbd r sp => ?_⟩
  obtain ⟨oc, od, dV, kV, doc, pm, an, cdv, ct, osl, rfl, lk, hcd⟩ := F.ex
  exact LamX.run_ofS lk hcd Sc hr e0 hbd r (len vs H Q E sp) fun hr' => hb cdv A outer s H vs Q E hr' sp
theorem xi_len {nms : List Str} : ∀ vs H Q E, spXI C nms vs H Q E → vs.length = (("self" : Str) :: nms).length := fun vs H Q E h => by
  obtain ⟨x, ws, rfl, hl, _⟩ := h
  simp [hl]
theorem vis_of {N ps : List Str} {sc : Scope} (S : FnScope N ps sc) {x : Str} (h : x ∈ ps) : Vis sc x := by
  rcases S.par x h with e | e
  · exact .inl e
  · exact .inr (.inl e)
theorem xi1 {p1 p2 p3 p4 : Pos} (F : FunG K "__init__" qual st f fd) (Sc : FnScope ["self", a] ["self", a] (defScope st)) (hb : defBody st = [.Assign [.Attribute (.Name "self" p1) a p2] (.Name a p3) p4])
    (T : OexC K C) (n1 : PySem.W.findIn K (.ref C) a = some none) (da : (a == ("__debug__" : Str)) = false) (dc : (a == ("__classdict__" : Str)) = false)
    (hs : ∀ env : Env, swapsWith (.Name a p3) (some (.Attribute (.Name "self" p1) a p2)) p4.line env = pure false) : FnOk P w K mg base (L2.CX P w) 1 f fd ["self", a] (spXI C [a]) := by
  refine fn_okF (k := 0) F Sc xi_len fun cdv A outer s H vs Q E hr h => ?_
  rw [hb]
  refine ⟨_, pss_one (ps_ost (pe_var (i := 0) rfl (vis_of Sc (by simp))) (pe_var (i := 1) rfl (vis_of Sc (by simp)) da dc) (hs _)), ?_⟩
  obtain ⟨x, ws, rfl, hl, hx, q⟩ := h
  match ws, hl with
  | [y], _ =>
    refine ⟨y, rfl, .ref x, rfl, x, C, rfl, T, n1, .inl ⟨hx, fun d hd hne => ?_⟩⟩
    refine q d _ hd hne upd_same (by rw [upd_ne hne, upd_same]; rfl) fun b hb1 hb2 => ?_
    rw [upd_ne hb1, upd_ne hb2]
theorem xi2 {p1 p2 p3 p4 p5 p6 p7 p8 : Pos} (F : FunG K "__init__" qual st f fd) (Sc : FnScope ["self", a, b] ["self", a, b] (defScope st)) (hb : defBody st = [.Assign [.Attribute (.Name "self" p1) a p2] (.Name a p3) p4, .Assign [.Attribute (.Name "self" p5) b p6] (.Name b p7) p8])
    (T : OexC K C) (n1 : PySem.W.findIn K (.ref C) a = some none) (n2 : PySem.W.findIn K (.ref C) b = some none) (da : (a == ("__debug__" : Str)) = false) (dc : (a == ("__classdict__" : Str)) = false) (da2 : (b == ("__debug__" : Str)) = false) (dc2 : (b == ("__classdict__" : Str)) = false)
    (hs : ∀ env : Env, swapsWith (.Name a p3) (some (.Attribute (.Name "self" p1) a p2)) p4.line env = pure false) (hs2 : ∀ env : Env, swapsWith (.Name b p7) (some (.Attribute (.Name "self" p5) b p6)) p8.line env = pure false) : FnOk P w K mg base (L2.CX P w) 1 f fd ["self", a, b] (spXI C [a, b]) := by
  refine fn_okF (k := 0) F Sc xi_len fun cdv A outer s H vs Q E hr h => ?_
  rw [hb]
  refine ⟨_, pss_cons (ps_ost (pe_var (i := 0) rfl (vis_of Sc (by simp))) (pe_var (i := 1) rfl (vis_of Sc (by simp)) da dc) (hs _)) (pss_one (ps_ost (pe_var (i := 0) rfl (vis_of Sc (by simp))) (pe_var (i := 2) rfl (vis_of Sc (by simp)) da2 dc2) (hs2 _))), ?_⟩
  obtain ⟨x, ws, rfl, hl, hx, q⟩ := h
  match ws, hl with
  | [y, z], _ =>
    refine ⟨y, rfl, .ref x, rfl, x, C, rfl, T, n1, .inl ⟨hx, fun d hd hne => ?_⟩⟩
    refine ⟨z, rfl, .ref x, rfl, x, C, rfl, T, n2, .inr ⟨d, [(a, y)], upd_same, by rw [upd_ne hne, upd_same], show 1 ≤ 900 by decide, ?_⟩⟩
    refine q d _ hd hne (by rw [upd_ne (Ne.symm hne), upd_same]) (by rw [upd_same]; rfl) fun b hb1 hb2 => ?_
    rw [upd_ne hb2, upd_ne hb1, upd_ne hb2]
end
end ME

/-! Rules in the shape that the printed derivations use: every look at the text is one Boolean equation. -/
namespace ME
open PySem PySem.Spec PyProof.Rows L2

theorem FnG.mono {P : Program} {w : World} {K : PySem.W.Frag} {mg : Str → Option Value} {base : Heap} {j k : Nat} {f : Addr} {fd : FuncData} {ps : List Str} {sp : Sp} (F : FnG P w K mg base j f fd ps sp) (h : j ≤ k) : FnG P w K mg base k f fd ps sp :=
  ⟨F.len, fun A outer s H args us vs Q E hg hr => F.run A outer s H args us vs Q E hg (hr.mono h)⟩
/-! ### looks at the text -/
noncomputable def visB (sc : Scope) (x : Str) : Bool := match sc.names.lookup x with
  | some .local => true
  | some .cell => true
  | some .free => true
  | _ => false
noncomputable def locB (sc : Scope) (x : Str) : Bool := match sc.names.lookup x with
  | some .local => true
  | some .cell => true
  | _ => false
noncomputable def lclB (sc : Scope) (x : Str) : Bool := match sc.names.lookup x with
  | some .local => true
  | _ => false
noncomputable def gloB (sc : Scope) (x : Str) : Bool := match sc.names.lookup x with
  | some .globalImplicit => true
  | _ => false
theorem visB_of {sc : Scope} {x : Str} (h : visB sc x = true) : Vis sc x := by
  unfold visB at h
  split at h
  · rename_i e; exact .inl e
  · rename_i e; exact .inr (.inl e)
  · rename_i e; exact .inr (.inr e)
  · cases h
theorem locB_of {sc : Scope} {x : Str} (h : locB sc x = true) : Loc sc x := by
  unfold locB at h
  split at h
  · rename_i e; exact .inl e
  · rename_i e; exact .inr e
  · cases h
theorem lclB_of {sc : Scope} {x : Str} (h : lclB sc x = true) : sc.names.lookup x = some .local := by
  unfold lclB at h
  split at h
  · assumption
  · cases h
theorem gloB_of {sc : Scope} {x : Str} (h : gloB sc x = true) : sc.names.lookup x = some .globalImplicit := by
  unfold gloB at h
  split at h
  · assumption
  · cases h
noncomputable def ixB (N : List Str) (i : Nat) (x : Str) : Bool := N[i]? == some x
noncomputable def nmB (x : Str) : Bool := !(x == ("__debug__" : Str)) && !(x == ("__classdict__" : Str)) && !(x == ("__name__" : Str))
/-- a name that is read -/
noncomputable def varB (N : List Str) (sc : Scope) (i : Nat) (x : Str) : Bool := ixB N i x && visB sc x && nmB x
/-- a name that is stored -/
noncomputable def stoB (N : List Str) (sc : Scope) (i : Nat) (x : Str) : Bool := ixB N i x && locB sc x
noncomputable def nodB : List Str → Bool
  | [] => true
  | x :: r => !r.contains x && nodB r
theorem nodB_of : ∀ {l : List Str}, nodB l = true → l.Nodup
  | [], _ => List.nodup_nil
  | x :: r, h => by
    simp only [nodB, Bool.and_eq_true, Bool.not_eq_true', List.contains_eq_mem, decide_eq_false_iff_not] at h
    exact List.nodup_cons.mpr ⟨h.1, nodB_of h.2⟩
noncomputable def scpB (N ps : List Str) (sc : Scope) : Bool := (match sc.kind with | .function => true | _ => false) && !sc.isCoroutine && !sc.isGenerator && nodB N && (N.take ps.length == ps) && ps.all (fun x => locB sc x) && sc.names.all fun y => match y.2 with | .free => false | _ => true
noncomputable def blkB (N : List Str) (sc scope : Scope) (own : List (Str × Nat)) : Bool :=
  (match scope.kind with | .function => true | _ => false) && (scope.names.all fun y => match scope.names.lookup y.1, y.2 with | some .local, .local => true | some .cell, .cell => true | some .free, .free => true | some .globalImplicit, .globalImplicit => true | _, _ => false) &&
  (own.all fun p => N[p.2]? == some p.1) && (scope.names.all fun y => match y.2 with | .free => (match sc.names.lookup y.1 with | some .cell => true | some .free => true | _ => false) | _ => true) &&
  scope.names.all fun y => match y.2 with | .local => own.any (fun p => p.1 == y.1) || !N.contains y.1 | .cell => own.any (fun p => p.1 == y.1) || !N.contains y.1 | _ => true
theorem ixB_of {N : List Str} {i : Nat} {x : Str} (h : ixB N i x = true) : N[i]? = some x := beq_iff_eq.mp h
theorem nmB_of {x : Str} (h : nmB x = true) : (x == ("__debug__" : Str)) = false ∧ (x == ("__classdict__" : Str)) = false ∧ x ≠ "__name__" := by
  unfold nmB at h
  simp only [Bool.and_eq_true, Bool.not_eq_true'] at h
  exact ⟨h.1.1, h.1.2, fun z => by rw [z] at h; simp at h⟩
theorem scpB_of {N ps : List Str} {sc : Scope} (h : scpB N ps sc = true) : FnScope N ps sc := by
  unfold scpB at h
  simp only [Bool.and_eq_true, Bool.not_eq_true', beq_iff_eq, List.all_eq_true] at h
  obtain ⟨⟨⟨⟨⟨⟨h1, h2⟩, h3⟩, h4⟩, h5⟩, h6⟩, h7⟩ := h
  refine ⟨?_, h2, h3, nodB_of h4, h5, fun x hx => locB_of (h6 x hx), ?_⟩
  · split at h1
    · assumption
    · cases h1
  · intro y hy z
    have := h7 y hy
    rw [z] at this
    cases this
theorem blkB_of {N : List Str} {sc scope : Scope} {own : List (Str × Nat)} (h : blkB N sc scope own = true) : BlkOk N sc scope own := by
  unfold blkB at h
  simp only [Bool.and_eq_true, List.all_eq_true, beq_iff_eq] at h
  obtain ⟨⟨⟨⟨h1, h2⟩, h3⟩, h4⟩, h5⟩ := h
  refine ⟨?_, fun y hy => ?_, fun p hp => h3 p hp, fun y hy z => ?_, fun y hy z => ?_⟩
  · split at h1
    · assumption
    · cases h1
  · have := h2 y hy
    split at this
    · rename_i e1 e2; rw [e1, e2]
    · rename_i e1 e2; rw [e1, e2]
    · rename_i e1 e2; rw [e1, e2]
    · rename_i e1 e2; rw [e1, e2]
    · cases this
  · have := h4 y hy
    rw [z] at this
    dsimp only at this
    split at this
    · rename_i e; exact .inl e
    · rename_i e; exact .inr e
    · cases this
  · have := h5 y hy
    have key : (own.any (fun p => p.1 == y.1) || !N.contains y.1) = true := by
      rcases z with z | z
      · rw [z] at this; exact this
      · rw [z] at this; exact this
    rcases Bool.or_eq_true _ _ ▸ key with k | k
    · left
      obtain ⟨p, hp, e⟩ := List.any_eq_true.mp k
      exact List.mem_map.mpr ⟨p, hp, beq_iff_eq.mp e⟩
    · right
      simpa using k
/-! ### where a body stands -/
structure Bx (X : Cx) (m : Am) (j : Nat) : Prop where
  tk : Takes X m.W
  hq : X.A.guards = some []
  hr : Room j X.A
  calm : X.calm = true
  hK : X.K = m.S.K
  hS : ∃ o, X.base.get? sysModules = some o
  pf : Passes (L2.CX X.prog X.w) X (fun _ _ _ => False)
theorem Bx.def {P : Program} {w : World} {K : PySem.W.Frag} {mg : Str → Option Value} {base : Heap} {N : List Str} {qual : Str} {sc : Scope} {f : Addr} {cdv : Value} {A : Around} {outer : List Env} {s : Shared} {H : Hp} {E : XK} {S : Sg} {pen : Addr} {G0 B : Hp} {j : Nat}
    (hg : A.guards = some []) (hr : Room j (A.deeper (envOfC qual sc s.heap.objs.size f cdv))) (hK : K = S.K) (hS : ∃ o, base.get? sysModules = some o) :
    Bx (cxOf (L2.CX P w) P w K mg base N qual sc f cdv A outer s H E) ⟨S, pen, G0, B, fun c d _ H' => E c d H'⟩ j := by
  have tk : Takes (cxOf (L2.CX P w) P w K mg base N qual sc f cdv A outer s H E) (fun c d _ H' => E c d H') := takes_of (E := E) rfl rfl rfl rfl
  exact ⟨tk, hg, hr, rfl, hK, hS, fun pins σ H1 s1 e s2 I c => by obtain ⟨_, _, _, _, _, _, _, _, _, _, _, _, z⟩ := c; exact z.elim⟩
theorem Bx.blk {X : Cx} {m : Am} {j : Nat} {s : Shared} {H : Hp} {scope : Scope} {cenv : Env} {fp : List Addr} (b : Bx X m j) : Bx (X.blk s H scope cenv fp) m.nox j :=
  ⟨fun u s' x => by obtain ⟨_, _, _, _, _, _, _, _, _, _, _, _, _, _, _, _, z⟩ := x; exact z.elim, b.hq, b.hr, b.calm, b.hK, b.hS, fun pins σ H1 s1 e s2 I c => by obtain ⟨_, _, _, _, _, _, _, _, _, _, _, _, z⟩ := c; exact z.elim⟩
/-! ### the packed facts -/
/-- the def x, called with n values and the keywords ks -/
noncomputable def FnT (P : Program) (w : World) (K : PySem.W.Frag) (mg : Str → Option Value) (base : Heap) (S : Sg) (k : Nat) (x : Str) (n : Nat) (ks : List Str) (dd : List D) (l : List Src) (mf : List D → M D) : Prop :=
  ∃ f fd ps dvs, FnG P w K mg base k f fd ps (spM S mf) ∧ mg x = some (.ref f) ∧ PySem.W.keepIn K (.ref f) = true ∧ Bd K fd ps n ks dvs l ∧ ∀ G pen, Reps S G pen dvs dd
/-- the exception class number c, called so -/
noncomputable def XT (P : Program) (w : World) (K : PySem.W.Frag) (mg : Str → Option Value) (base : Heap) (S : Sg) (c : Nat) (x : Str) (n : Nat) (ks : List Str) (dd : List D) (l : List Src) : Prop :=
  ∃ fI fd dvs, XCl P w K mg base 1 x (S.ca c) (S.nm c) fI fd ∧ (S.nm c).Nodup ∧ Bd K fd ("self" :: S.nm c) (n + 1) ks dvs (.p 0 :: l.map Src.up) ∧ (∀ G pen, Reps S G pen dvs dd) ∧ n ≤ 1000
section
variable {X : Cx} {m : Am} {j k n : Nat} {e a b : Expr} {es : List Expr} {kws : List Keyword} {ks : List Str} {ra rk : AX} {pos p : Pos} {x : Str} {ea eb : EX} {dd : List D} {l : List Src}
theorem gl_of (h : gloB X.env.scope x = true) : Gl X x := gloB_of h
theorem me_v {i : Nat} (h : varB X.N X.env.scope i x = true) : PE X (.Name x pos) (tE m (mVar i)) := by
  unfold varB at h
  simp only [Bool.and_eq_true] at h
  have q := nmB_of h.2
  exact me_var (ixB_of h.1.1) (visB_of h.1.2) q.1 q.2.1
theorem me_call {mf : List D → M D} (B : Bx X m j) (F : FnT X.prog X.w X.K X.mg X.base m.S k x n ks dd l mf) (hk : Nat.ble k j = true) (hg : gloB X.env.scope x = true) (hx : nmB x = true) (ha : PAK X es kws n ks (tAK m n ks.length ra rk)) :
    PE X (.Call (.Name x p) es kws pos) (tE m (mCallK mf n ks.length dd l ra rk)) := by
  obtain ⟨f, fd, ps, dvs, F, hm, hkp, hb, hdd⟩ := F
  exact me_fn (F.mono (Nat.le_of_ble_eq_true hk)) B.tk B.hq B.hr (gl_of hg) hm hkp hb hdd ha (nmB_of hx).1
theorem ms_thr {c : Nat} {pos' : Pos} (B : Bx X m j) (T : XT X.prog X.w X.K X.mg X.base m.S c x n ks dd l) (hj : Nat.ble 2 j = true) (hg : gloB X.env.scope x = true) (hx : nmB x = true) (ha : PAK X es kws n ks (tAK m n ks.length ra rk)) :
    PS X (.Raise (some (.Call (.Name x p) es kws pos)) none pos') (tS m (sRaise c n ks.length dd l (m.S.nm c).length ra rk)) := by
  obtain ⟨fI, fd, dvs, T, nd, hb, hdd, hn⟩ := T
  exact ms_raise T nd B.calm B.tk (B.hr.mono (Nat.le_of_ble_eq_true hj)) B.pf hb (gl_of hg) hn hdd ha (nmB_of hx).1
/-- an exception class without own __init__ -/
noncomputable def X0 (K : PySem.W.Frag) (mg : Str → Option Value) (S : Sg) (c : Nat) (x : Str) : Prop := mg x = some (.ref (S.ca c)) ∧ PySem.W.excIn K (S.ca c) [.type "ValueError", .type "Exception", .type "BaseException", .type "object"] "ValueError.__new__" = true ∧ xcB K (S.ca c) = true
theorem me_cls {c : Nat} (hm : X.mg x = some (.ref (m.S.ca c))) (hg : gloB X.env.scope x = true) (hx : nmB x = true) : PE X (.Name x pos) (tE m (mC (.cls c))) := me_gcls (gl_of hg) hm (nmB_of hx).1
theorem me_tyn {t : String} (hm : X.mg x = none) (hg : gloB X.env.scope x = true) (hv : bootBuiltins x = some (.type t)) (hx : nmB x = true) : PE X (.Name x pos) (tE m (mC (.ty t))) := me_ty (gl_of hg) hm hv (nmB_of hx).2.2 (nmB_of hx).1
/-! operators -/
theorem me_add (B : Bx X m j) (ha : PE X a (tE m ea)) (hb : PE X b (tE m eb)) : PE X (.BinOp a .Add b pos) (tE m (mBin dAdd ea eb)) := me_op op_addD (r_add B.hK) ha hb
theorem me_sub (ha : PE X a (tE m ea)) (hb : PE X b (tE m eb)) : PE X (.BinOp a .Sub b pos) (tE m (mBin dSub ea eb)) := me_op op_sub r_sub ha hb
theorem me_mul (ha : PE X a (tE m ea)) (hb : PE X b (tE m eb)) : PE X (.BinOp a .Mult b pos) (tE m (mBin dMulT ea eb)) := me_op (OpR.or op_mul op_mulT) r_mulT ha hb
theorem me_pow (ha : PE X a (tE m ea)) (hb : PE X b (tE m eb)) : PE X (.BinOp a .Pow b pos) (tE m (mBin dPow ea eb)) := me_op op_pow r_pow ha hb
theorem me_mod (ha : PE X a (tE m ea)) (hb : PE X b (tE m eb)) : PE X (.BinOp a .Mod b pos) (tE m (mBin dMod ea eb)) := me_op op_mod r_mod ha hb
theorem me_fdv (ha : PE X a (tE m ea)) (hb : PE X b (tE m eb)) : PE X (.BinOp a .FloorDiv b pos) (tE m (mBin dDivW ea eb)) := me_op op_fdivW r_divW ha hb
theorem me_neg (ha : PE X a (tE m ea)) : PE X (.UnaryOp .USub a pos) (tE m (mUn dNeg ea)) := me_un un_neg r_neg ha
/-! comparisons, as a value and as a test -/
structure CmpT (X : Cx) (m : Am) (op : CmpOp) (o : D → D → M D) : Prop where
  ex : ∃ r, OpR X (compareOp op) r ∧ R2Ok m r o
theorem c_lt : CmpT X m .Lt (dCmpI fun i j => decide (i < j)) := ⟨_, op_lt, r_cmpI⟩
theorem c_le : CmpT X m .LtE (dCmpI fun i j => decide (i ≤ j)) := ⟨_, op_le, r_cmpI⟩
theorem c_gt : CmpT X m .Gt (dCmpI fun i j => decide (j < i)) := ⟨_, op_gt, r_cmpI⟩
theorem c_ge : CmpT X m .GtE (dCmpI fun i j => decide (j ≤ i)) := ⟨_, op_ge, r_cmpI⟩
theorem c_eq (B : Bx X m j) : CmpT X m .Eq (dEq false) := ⟨_, OpR.or op_eq (op_eqM B.hK B.hS B.hr.units), r_eq⟩
theorem c_ne (B : Bx X m j) : CmpT X m .NotEq (dEq true) := ⟨_, OpR.or op_ne (op_neM B.hK B.hS B.hr.units), r_ne⟩
theorem me_cm {op : CmpOp} {o : D → D → M D} (C : CmpT X m op o) (ha : PE X a (tE m ea)) (hb : PE X b (tE m eb)) (hm : behindInMarks op b = false := by rfl) : PE X (.Compare a [op] [b] pos) (tE m (mBin o ea eb)) := by
  obtain ⟨r, h1, h2⟩ := C.ex
  exact me_cmp h1 h2 ha hb hm
theorem mt_cm {op : CmpOp} {o : D → D → M D} (C : CmpT X m op o) (ha : PE X a (tE m ea)) (hb : PE X b (tE m eb)) (hm : behindInMarks op b = false := by rfl) : PT X (.Compare a [op] [b] pos) (tT m (mTest (mBin o ea eb))) := by
  obtain ⟨r, h1, h2⟩ := C.ex
  exact mt_cmp h1 h2 ha hb hm
/-! built-in calls -/
/-- the built-in of that name, as a function on data -/
structure BltT (X : Cx) (m : Am) (x : Str) (f : List D → M D) : Prop where
  ex : (∃ id r, bootBuiltins x = some (.builtin id) ∧ CallR X (.builtin id) r ∧ RAOk m r f) ∨ ∃ id r, bootBuiltins x = some (.type id) ∧ CallR X (.type id) r ∧ RAOk m r f
theorem b_len (B : Bx X m j) : BltT X m "len" dLen := ⟨.inl ⟨_, _, rfl, call_lenM, r_len B.hK⟩⟩
theorem b_abs : BltT X m "abs" dAbs := ⟨.inl ⟨_, _, rfl, call_abs, r_abs⟩⟩
theorem b_int : BltT X m "int" dInt1 := ⟨.inr ⟨_, _, rfl, call_int1, r_int1⟩⟩
theorem b_repr (B : Bx X m j) : BltT X m "repr" dRepr := ⟨.inl ⟨_, _, rfl, call_reprM B.hK B.hS B.hq B.hr.units, r_repr⟩⟩
theorem b_isi {T : IsT} (B : Bx X m j) (F : IsF m.S T) : BltT X m "isinstance" (dIsi T) := ⟨.inl ⟨_, _, rfl, CallR.or call_isi call_isE, r_isi B.hK F⟩⟩
theorem me_b {f : List D → M D} (T : BltT X m x f) (hm : X.mg x = none) (hg : gloB X.env.scope x = true) (hx : nmB x = true) (ha : PA X (e :: es) (tAs m ra))
    (he : starEach (e :: es) X.env = (false, eval e X.env) :: starEach es X.env := by rfl) (hpl : (backTo pos (starEach es X.env)).any (·.1) = false := by rfl) : PE X (.Call (.Name x p) (e :: es) [] pos) (tE m (mCB f ra)) := by
  rcases T.ex with ⟨id, r, h1, h2, h3⟩ | ⟨id, r, h1, h2, h3⟩
  · exact me_cb h2 h3 (gl_of hg) hm h1 ha (nmB_of hx).2.2 (nmB_of hx).1 he hpl
  · exact me_cty h2 h3 (gl_of hg) hm h1 ha (nmB_of hx).2.2 (nmB_of hx).1 he hpl
/-! fields -/
noncomputable def fldB (K : PySem.W.Frag) (S : Sg) (f : Str) (xs : List (Nat × Nat)) : Bool := xs.all fun q => xfB K (S.ca q.1) && (PySem.W.findIn K (.ref (S.ca q.1)) f == some none) && ((S.nm q.1)[q.2]? == some f) && nodB (S.nm q.1)
noncomputable def clsB (K : PySem.W.Frag) (C : Addr) : Bool := PySem.W.plainGet K C Str.empty && PySem.W.hasDictIn K C && PySem.W.plainOver K C && (PySem.W.findIn K (.ref C) "__setattr__" == some (some (.builtin "object.__setattr__")))
theorem clsB_of {K : PySem.W.Frag} {C : Addr} (h : clsB K C = true) : Cls K C := by
  unfold clsB at h
  simp only [Bool.and_eq_true, beq_iff_eq] at h
  exact ⟨h.1.1.1, h.1.1.2, h.1.2, h.2⟩
noncomputable def fldO (K : PySem.W.Frag) (S : Sg) (f : Str) (os : List (Nat × Nat)) : Bool := os.all fun q => clsB K (S.ca q.1) && (PySem.W.findIn K (.ref (S.ca q.1)) f == some none) && ((S.nm q.1)[q.2]? == some f) && nodB (S.nm q.1)
theorem me_f {f : Str} {os xs : List (Nat × Nat)} (B : Bx X m j) (h1 : fldO m.S.K m.S f os = true) (h2 : fldB m.S.K m.S f xs = true) (ha : PE X a (tE m ea)) (hb : attributeBase a f X.env (eval a X.env) = eval a X.env := by rfl) : PE X (.Attribute a f pos) (tE m (mUn (dFld os xs) ea)) := by
  refine me_at (AtR.or at_fld at_xfld) (r_fld B.hK (fun q hq => ?_) fun q hq => ?_) ha hb
  · unfold fldO at h1
    have := List.all_eq_true.mp h1 q hq
    simp only [Bool.and_eq_true, beq_iff_eq] at this
    exact ⟨clsB_of this.1.1.1, this.1.1.2, this.1.2, nodB_of this.2⟩
  · unfold fldB at h2
    have := List.all_eq_true.mp h2 q hq
    simp only [Bool.and_eq_true, beq_iff_eq] at this
    exact ⟨xfB_ok this.1.1.1, this.1.1.2, this.1.2, nodB_of this.2⟩
/-! statements -/
theorem ms_st {i : Nat} {p' : Pos} (hN : nodB X.N = true) (h : stoB X.N X.env.scope i x = true) (he : PE X e (tE m ea)) (hs : swapsWith e (some (.Name x p')) pos.line X.env = pure false := by rfl) (hf : X.fn x = true := by rfl) : PS X (.Assign [.Name x p'] e pos) (tS m (sSet i ea)) := by
  unfold stoB at h
  simp only [Bool.and_eq_true] at h
  exact ms_set (nodB_of hN) (ixB_of h.1) (locB_of h.2) he hs (.inl hf)
theorem mg_nm {i : Nat} {js : List Nat} (hN : nodB X.N = true) (h : stoB X.N X.env.scope i x = true) (hi : js.contains i = true) (hf : (X.fn x || lclB X.env.scope x) = true) : PG X (.Name x pos) (tG m js (gN i)) := by
  unfold stoB at h
  simp only [Bool.and_eq_true] at h
  refine mg_name (nodB_of hN) (ixB_of h.1) (locB_of h.2) (by simpa using hi) ?_
  rcases Bool.or_eq_true _ _ ▸ hf with z | z
  · exact .inl z
  · exact .inr (lclB_of z)
end
end ME

/-! Facts of the top, packed. -/
namespace ME
open PySem PySem.Spec PyProof.Rows L2

/-- a def without defaults -/
noncomputable def FunN (K : PySem.W.Frag) (x qual : Str) (st : Stmt) (f : Addr) (fd : FuncData) : Prop :=
  ∃ (oc : Value) (od : Option Addr) (kV doc pm : Value) (an : Option Addr) (cdv ct : Value) (osl : Array (Option Value)),
    fd = PySem.W.fnOf x qual (defArgs st) (defBody st) (defScope st) .none kV doc pm an cdv ct ∧ K.lookup f = some ⟨oc, od, .func fd, osl⟩ ∧ PySem.W.codeIn K cdv qual = true
theorem FunN.g {K : PySem.W.Frag} {x qual : Str} {st : Stmt} {f : Addr} {fd : FuncData} (F : FunN K x qual st f fd) : FunG K x qual st f fd := by
  obtain ⟨oc, od, kV, doc, pm, an, cdv, ct, osl, h1, h2, h3⟩ := F
  exact ⟨oc, od, .none, kV, doc, pm, an, cdv, ct, osl, h1, h2, h3⟩
theorem bdN {K : PySem.W.Frag} {x qual : Str} {st : Stmt} {f : Addr} {fd : FuncData} {ps ks : List Str} {n : Nat} {l : List Src} (F : FunN K x qual st f fd)
    (h : ∀ (s : Shared) (kV doc pm : Value) (an : Option Addr) (cdv ct : Value) (us ws : List Value), us.length = n → ws.length = ks.length → BindsTo s (PySem.W.fnOf x qual (defArgs st) (defBody st) (defScope st) .none kV doc pm an cdv ct) ⟨us, ks.zip ws⟩ (ps.zip (pick us [] ws l))) : Bd K fd ps n ks [] l := by
  obtain ⟨oc, od, kV, doc, pm, an, cdv, ct, osl, rfl, h2, h3⟩ := F
  exact ⟨[], .nil, fun s us ws _ l1 l2 => h s kV doc pm an cdv ct us ws l1 l2⟩
noncomputable def DefAt (K : PySem.W.Frag) (mg : Str → Option Value) (x : Str) (st : Stmt) : Prop := ∃ f fd, FunN K x x st f fd ∧ mg x = some (.ref f) ∧ PySem.W.keepIn K (.ref f) = true
/-- the def x computes mf -/
noncomputable def FnD (P : Program) (w : World) (K : PySem.W.Frag) (mg : Str → Option Value) (base : Heap) (S : Sg) (k : Nat) (x : Str) (st : Stmt) (ps : List Str) (mf : List D → M D) : Prop :=
  ∃ f fd, FnG P w K mg base k f fd ps (spM S mf) ∧ FunN K x x st f fd ∧ mg x = some (.ref f) ∧ PySem.W.keepIn K (.ref f) = true
/-- an exception class's own __init__ -/
noncomputable def XinAt (K : PySem.W.Frag) (C : Addr) (qual : Str) (st : Stmt) : Prop := ∃ f fd, FunN K "__init__" qual st f fd ∧ PySem.W.findIn K (.ref C) "__init__" = some (some (.ref f)) ∧ PySem.W.typeIn K (.ref f) = some (.type "function")
theorem xinAt_mk {K : PySem.W.Frag} {C f : Addr} {qual : Str} {st : Stmt} {oc kV doc pm cdv ct : Value} {od an : Option Addr} {osl : Array (Option Value)} (a : PySem.W.findIn K (.ref C) "__init__" = some (some (.ref f)))
    (l : K.lookup f = some ⟨oc, od, .func (PySem.W.fnOf "__init__" qual (defArgs st) (defBody st) (defScope st) .none kV doc pm an cdv ct), osl⟩) (c : PySem.W.codeIn K cdv qual = true) (k : PySem.W.typeIn K (.ref f) = some (.type "function")) : XinAt K C qual st :=
  ⟨f, _, ⟨oc, od, kV, doc, pm, an, cdv, ct, osl, rfl, l, c⟩, a, k⟩
noncomputable def noAt (K : PySem.W.Frag) (C : Addr) (fs : List Str) : Bool := fs.all fun f => PySem.W.findIn K (.ref C) f == some none
section
variable {P : Program} {w : World} {K : PySem.W.Frag} {mg : Str → Option Value} {base : Heap} {S : Sg} {c : Nat} {x qual a b : Str} {st : Stmt} {n : Nat} {ks : List Str} {l : List Src}
theorem xt1 {p1 p2 p3 p4 : Pos} (I : XinAt K (S.ca c) qual st) (hx : xcB K (S.ca c) = true) (hn : noAt K (S.ca c) [a] = true) (hm : mg x = some (.ref (S.ca c))) (hnm : S.nm c = [a])
    (sc : scpB ["self", a] ["self", a] (defScope st) = true) (hb : defBody st = [.Assign [.Attribute (.Name "self" p1) a p2] (.Name a p3) p4]) (ha : nmB a = true)
    (hs : ∀ env : Env, swapsWith (.Name a p3) (some (.Attribute (.Name "self" p1) a p2)) p4.line env = pure false)
    (hbd : ∀ (s : Shared) (kV doc pm : Value) (an : Option Addr) (cdv ct : Value) (us ws : List Value), us.length = n + 1 → ws.length = ks.length → BindsTo s (PySem.W.fnOf "__init__" qual (defArgs st) (defBody st) (defScope st) .none kV doc pm an cdv ct) ⟨us, ks.zip ws⟩ (([("self" : Str), a] : List Str).zip (pick us [] ws (.p 0 :: l.map Src.up))))
    (hn1 : Nat.ble n 1000 = true) : XT P w K mg base S c x n ks [] l := by
  obtain ⟨fI, fd, F, h1, h2⟩ := I
  have T := oex_of hx
  unfold noAt at hn
  simp only [List.all_cons, List.all_nil, Bool.and_true, beq_iff_eq] at hn
  refine ⟨fI, fd, [], ⟨T, h1, h2, ?_, hm⟩, ?_, ?_, fun _ _ => .nil, Nat.le_of_ble_eq_true hn1⟩
  · rw [hnm]; exact xi1 F.g (scpB_of sc) hb T hn (nmB_of ha).1 (nmB_of ha).2.1 hs
  · rw [hnm]; simp
  · rw [hnm]; exact bdN F hbd
end
theorem mgn_of {K : PySem.W.Frag} {h : Heap} {mg : Str → Option Value} (X : K.In h) (G : h.Ns mainGlobals mg) {bs : List Str} (e : (bs.all fun x => PySem.W.nsIn K mainGlobals x == some none) = true) : ∀ x, bs.contains x = true → mg x = none := fun x hx => by
  have := List.all_eq_true.mp e x (by simpa using hx)
  exact PySem.W.mg_none_of X G (beq_iff_eq.mp this)
theorem cm_of {K : PySem.W.Frag} {h : Heap} {mg : Str → Option Value} (X : K.In h) (G : h.Ns mainGlobals mg) {ns : List Str} {cs : List Addr} (e : ((ns.zip cs).all fun q => PySem.W.nsIn K mainGlobals q.1 == some (some (.ref q.2))) = true) (hl : ns.length = cs.length) :
    ∀ (c : Nat) (x : Str), ixB ns c x = true → mg x = some (.ref (cs.getD c 0)) := fun c x hx => by
  have h1 := ixB_of hx
  have hc : c < cs.length := by rw [← hl]; exact (List.getElem?_eq_some_iff.mp h1).1
  have h2 : cs[c]? = some cs[c] := List.getElem?_eq_getElem hc
  have hz : (ns.zip cs)[c]? = some (x, cs[c]) := by rw [List.getElem?_zip_eq_some]; exact ⟨h1, h2⟩
  have := List.all_eq_true.mp e _ (List.mem_of_getElem? hz)
  rw [PySem.W.mg_of X G (beq_iff_eq.mp this)]
  simp [List.getD, h2]
theorem all_in {l : List Nat} {f : Nat → Bool} (h : l.all f = true) : ∀ c, l.contains c = true → f c = true := fun c hc => List.all_eq_true.mp h c (by simpa using hc)
/-! lengths that a target asks -/
noncomputable def GLen (g : GXs) (n : Nat) : Prop := ∀ ds δ δ', g ds δ = some δ' → ds.length = n
theorem gl0 : GLen gs0 0 := fun ds δ δ' h => by
  cases ds with
  | nil => rfl
  | cons _ _ => cases h
theorem gl1 {g : GX} {r : GXs} {n : Nat} (h : GLen r n) : GLen (gs1 g r) (n + 1) := fun ds δ δ' e => by
  cases ds with
  | nil => cases e
  | cons d l =>
    dsimp only [gs1] at e
    cases q : g d δ with
    | none => rw [q] at e; cases e
    | some δ1 => rw [q] at e; rw [List.length_cons, h l δ1 δ' e]
end ME

/-! The law's draw: its mirror computes drawF. -/
namespace ME
open PySem

noncomputable def xI : EX → EX := fun e => mCB dInt1 (mCons e mNil)
noncomputable def xP (k : Int) : EX := mBin dIxP (mVar 0) (mC (.int k))
noncomputable def xL : EX := mCB dLen (mCons (xP 0) mNil)
noncomputable def xA : EX := mCB dAbs (mCons (mVar 4) mNil)
noncomputable def dS1 : SX := sIf (mTest (mBin (dCmpI fun i j => decide (j < i)) (xP 2) (mC (.int 0)))) (sSeq (sSet 2 (mBin dMod (xI (xP 2)) (mVar 1))) (sSeq (sPen 0 2 (mBin dDivW (xI (xP 2)) (mVar 1))) (sRet (mVar 2)))) sNx
noncomputable def dS2 : SX := sSet 3 (xP 1)
noncomputable def dS3 : SX := sPen 0 1 (mBin dAdd (mVar 3) (mC (.int 1)))
noncomputable def dS4 (C : DrC) : SX := sSet 4 (mBin dAdd (mBin dMulT (mC (.int C.a1)) (mVar 3)) (mC (.int C.a0)))
noncomputable def dS5 : SX := sIf (mTest (mBin (dEq true) (xP 0) (mLst mNil))) (sSet 4 (mBin dIx (xP 0) (mBin dMod (xI (mVar 3)) xL))) sNx
noncomputable def dT6 : TX := mAndT (mTest (mBin (dCmpI fun i j => decide (i < j)) (mVar 3) xL)) (mTest (mBin (dCmpI fun i j => decide (j ≤ i)) xA (mBin dPow (mC (.int 10)) (mC (.int 18)))))
noncomputable def dS6 : SX := sSeq (sSet 5 (mBin dAdd (mBin dMulT (mC (.int 2)) (mBin dSub xA (mBin dPow (mC (.int 10)) (mC (.int 18))))) (xI (mBin (dCmpI fun i j => decide (i < j)) (mVar 4) (mC (.int 0)))))) (sSeq (sPen 0 2 (mBin dDivW (xI (mVar 5)) (mVar 1))) (sRet (mBin dMod (xI (mVar 5)) (mVar 1))))
noncomputable def dS7 (C : DrC) : SX := sSet 6 (mBin dMod (xI (mBin dPow (mBin dAdd (mBin dAdd (mBin dMod (xI (mVar 4)) (mC (.int C.m1))) (mBin dMulT (mC (.int C.b1)) (mVar 3))) (mC (.int C.b0))) (mC (.int 5)))) (mC (.int C.m2)))
noncomputable def dS8 (C : DrC) : SX := sSet 6 (mBin dMod (xI (mBin dPow (mBin dAdd (mBin dAdd (mBin dMulT (mVar 6) (mBin dAdd (mBin dMulT (mC (.int 2)) (mVar 3)) (mC (.int C.t0)))) (mBin dMulT (mBin dMulT (mC (.int C.q1)) (mVar 3)) (mVar 3))) (mC (.int C.q0))) (mC (.int 3)))) (mC (.int C.m3)))
noncomputable def dS9 : SX := sRet (mBin dMod (xI (mBin dDivW (mVar 6) (mC (.int 32)))) (mVar 1))
noncomputable def bDraw (C : DrC) : SX := sSeq dS1 (sSeq dS2 (sSeq dS3 (sSeq (dS4 C) (sSeq dS5 (sSeq (sIf dT6 dS6 sNx) (sSeq (dS7 C) (sSeq (dS8 C) dS9)))))))
/-! steps -/
theorem seq_nx {s t : SX} {δ δ' : DS} {p p' : Pn} (h : s δ p = some (.nx δ', p')) : sSeq s t δ p = t δ' p' := by unfold sSeq; rw [h]
theorem set_run {i : Nat} {e : EX} {δ : DS} {p p' : Pn} {d : D} (h : e δ p = some (.ok d, p')) : sSet i e δ p = some (.nx (δ.set i (some (.d d))), p') := by unfold sSet sBnd; rw [h]
theorem ret_run {e : EX} {δ : DS} {p p' : Pn} {d : D} (h : e δ p = some (.ok d, p')) : sRet e δ p = some (.rt d, p') := by unfold sRet sBnd; rw [h]
theorem if_run {c : TX} {s t : SX} {δ : DS} {p p' : Pn} {b : Bool} (h : c δ p = some (.ok b, p')) : sIf c s t δ p = if b = true then s δ p' else t δ p' := by
  unfold sIf sBnd
  rw [h]
  cases b <;> rfl
theorem bin_run {o : D → D → M D} {a b : EX} {δ : DS} {p p1 p2 : Pn} {x y : D} (h1 : a δ p = some (.ok x, p1)) (h2 : b δ p1 = some (.ok y, p2)) : mBin o a b δ p = o x y p2 := by
  unfold mBin M.bnd
  rw [h1]
  dsimp only
  rw [h2]
theorem bn {o : D → D → M D} {a b : EX} {δ : DS} {p p1 p2 p3 : Pn} {x y z : D} (h1 : a δ p = some (.ok x, p1)) (h2 : b δ p1 = some (.ok y, p2)) (h3 : o x y p2 = some (.ok z, p3)) : mBin o a b δ p = some (.ok z, p3) := (bin_run h1 h2).trans h3
theorem test_run {a : EX} {δ : DS} {p p1 : Pn} {b : Bool} (h1 : a δ p = some (.ok (.bl b), p1)) : mTest a δ p = some (.ok b, p1) := by
  unfold mTest M.bnd
  rw [h1]
  rfl
theorem andT_run {a b : TX} {δ : DS} {p p1 : Pn} {x : Bool} {r : Option (Out Bool × Pn)} (h1 : a δ p = some (.ok x, p1)) (h2 : (if x = true then b δ p1 else some (.ok false, p1)) = r) : mAndT a b δ p = r := by
  unfold mAndT M.bnd
  rw [h1]
  rw [← h2]
  cases x <;> rfl
theorem pen_run {i : Nat} {k : Int} {e : EX} {δ : DS} {p p1 : Pn} {z : Int} {r : Option (Fl × Pn)} (h1 : e δ p = some (.ok (.int z), p1)) (h2 : δ[i]? = some (some (.d .pen))) (h3 : (if k = 1 then some (Fl.nx δ, ({ p1 with no := z } : Pn)) else if k = 2 then some (.nx δ, { p1 with rest := z }) else none) = r) : sPen i k e δ p = r := by
  unfold sPen sBnd
  rw [h1]
  dsimp only
  rw [h2]
  exact h3
theorem at_int {l : List Int} {i : Int} {c : Int} (h0 : 0 ≤ i) (h1 : i < (l.length : Int)) (h : l[i.toNat]? = some c) : L2.atI (l.map D.int) i = some (.int c) := by
  have e : L2.ixN (l.map D.int).length i = some i.toNat := by
    unfold L2.ixN
    rw [List.length_map]
    simp [h0, h1]
    try omega
  unfold L2.atI
  rw [e]
  simp [h]
theorem int_run {e : EX} {δ : DS} {p p' : Pn} {i : Int} (h : e δ p = some (.ok (.int i), p')) : xI e δ p = some (.ok (.int i), p') := by
  unfold xI mCB mCons mNil M.bnd
  rw [h]
  rfl
theorem toPy_ints : ∀ l : List Int, toPyL (l.map D.int) = some (l.map PyData.int)
  | [] => rfl
  | i :: l => by
    simp only [List.map_cons, toPyL, toPy, toPy_ints l]
theorem lay_ints : ∀ l : List Int, PyData.canLayAll0 (l.map PyData.int) = true
  | [] => rfl
  | i :: l => by simp only [List.map_cons, PyData.canLayAll0, PyData.canLay0, lay_ints l, Bool.and_self]
theorem depth_ints : ∀ l : List Int, PyData.depthAll (l.map PyData.int) = 0
  | [] => by simp only [List.map_nil, PyData.depthAll]
  | i :: l => by simp only [List.map_cons, PyData.depthAll, PyData.depth, depth_ints l, Nat.max_self]
theorem ne_ints (l : List Int) : dEq true (.lst (l.map D.int)) (.lst []) = M.ret (.bl (decide (l ≠ []))) := by
  have h1 : toPy (.lst (l.map D.int)) = some (.list (l.map PyData.int)) := by simp only [toPy, toPy_ints, Option.map_some]
  have h2 : toPy (.lst []) = some (.list []) := by simp only [toPy, toPyL, Option.map_some]
  have h3 : SeqAt.shaped (.list (l.map PyData.int)) = true := by
    simp only [SeqAt.shaped, PyData.canLay0, lay_ints, PyData.depth, depth_ints, Bool.true_and]
    rfl
  have h4 : SeqAt.shaped (.list []) = true := rfl
  unfold dEq
  simp only [h1, h2, h3, h4, Bool.and_self, if_true]
  cases l with
  | nil => rfl
  | cons i l => simp [PyData.eqv, PyData.eqvAll]
theorem mulT_ok (i j : Int) (h : i.natAbs < 2 ^ 64 ∨ j.natAbs < 2 ^ 64) : dMulT (.int i) (.int j) = M.ret (.int (i * j)) := by
  show (if (decide (i.natAbs < 2 ^ 64) || decide (j.natAbs < 2 ^ 64)) = true then M.ret (D.int (i * j)) else M.stuck) = _
  rw [if_pos]
  rcases h with h | h
  · rw [decide_eq_true h, Bool.true_or]
  · rw [decide_eq_true h, Bool.or_true]
theorem powD_ok (i j : Int) (h0 : 0 ≤ j) (h1 : j ≤ 1000000) (h : i.natAbs < 2 ^ 64) : dPow (.int i) (.int j) = M.ret (.int (i ^ j.toNat)) := by
  show (if (decide (0 ≤ j) && decide (j ≤ 1000000) && decide (i.natAbs < 2 ^ 64)) = true then M.ret (D.int (i ^ j.toNat)) else M.stuck) = _
  rw [if_pos (by rw [decide_eq_true h0, decide_eq_true h1, decide_eq_true h]; rfl)]
theorem modD_ok (i j : Int) (h : 0 < j) : dMod (.int i) (.int j) = M.ret (.int (i % j)) := by
  show (if decide (0 < j) = true then M.ret (D.int (i % j)) else M.stuck) = _
  rw [if_pos (decide_eq_true h)]
theorem divW_ok (i j : Int) (h : 0 < j) (hl : j.natAbs.log2 < 9000) : dDivW (.int i) (.int j) = M.ret (.int (i / j)) := by
  show (if (decide (0 < j) && decide (j.natAbs.log2 < 9000)) = true then M.ret (D.int (i / j)) else M.stuck) = _
  rw [if_pos (by rw [decide_eq_true h, decide_eq_true hl]; rfl)]
theorem le_mul {a b A B : Int} (h1 : 0 ≤ a) (h2 : a ≤ A) (h3 : 0 ≤ b) (h4 : b ≤ B) : 0 ≤ a * b ∧ a * b ≤ A * B :=
  ⟨Int.mul_nonneg h1 h3, Int.mul_le_mul h2 h4 h3 (Int.le_trans h1 h2)⟩
theorem draw_run {C : DrC} (hC : C.ok = true) {many : Int} {p p' : Pn} {r : Int} (h : drawF C many p = some (r, p')) : fnM 2 7 (bDraw C) [.pen, .int many] p = some (.ok (.int r), p') := by
  unfold drawF at h
  split at h
  · rename_i hz
    simp only [Bool.and_eq_true, decide_eq_true_eq] at hz
    obtain ⟨⟨hm, hl⟩, ⟨hn0, hn1, hlen⟩⟩ := hz
    have hC' := of_decide_eq_true hC
    show outOf (bDraw C [some (.d .pen), some (.d (.int many)), none, none, none, none, none] p) = _
    split at h
    · rename_i hrest
      cases h
      have hr' : decide (0 < p.rest) = true := decide_eq_true hrest
      simp [bDraw, dS1, xP, xI, sSeq, sIf, sBnd, mTest, mBin, mVar, mC, dIxP, M.bnd, M.ret, M.opt, dCmpI, dB, sSet, mCB, mCons, mNil, dInt1, dMod, hm, hl, sPen, dDivW, sRet, outOf, hrest]
    · rename_i hrest
      obtain ⟨m1a, m1b, m2a, m2b, m3a, m3b, a1a, a1b, a0a, a0b, b1a, b1b, b0a, b0b, t0a, t0b, q1a, q1b, q0a, q0b⟩ := hC'
      have main : ∀ cell : Int, cellOf C p = some cell →
          (if p.no < (p.cells.length : Int) ∧ absI cell ≥ 10 ^ (18 : Int).toNat then
            some ((2 * (absI cell - 10 ^ (18 : Int).toNat) + (if cell < 0 then 1 else 0)) % many, ({ p with no := p.no + 1, rest := (2 * (absI cell - 10 ^ (18 : Int).toNat) + (if cell < 0 then 1 else 0)) / many } : Pn))
          else some (mix2 C p.no (mix1 C p.no cell) / 32 % many, ({ p with no := p.no + 1 } : Pn))) = some (r, p') →
          outOf (bDraw C [some (.d .pen), some (.d (.int many)), none, none, none, none, none] p) = some (.ok (.int r), p') := by
        intro cell hc h
        have e1 := mulT_ok C.a1 p.no (.inl (by omega))
        have x1 := le_mul b1a (Int.le_of_lt b1b) hn0 hn1
        have x0a := Int.emod_nonneg cell (b := C.m1) (by omega)
        have x0b := Int.emod_lt_of_pos cell m1a
        have e2 := mulT_ok C.b1 p.no (.inl (by omega))
        have e3 := powD_ok (cell % C.m1 + C.b1 * p.no + C.b0) 5 (by decide) (by decide) (by omega)
        obtain ⟨x, hx⟩ : ∃ x, mix1 C p.no cell = x := ⟨_, rfl⟩
        have hxa : 0 ≤ x := by rw [← hx]; exact Int.emod_nonneg _ (by omega)
        have hxb : x < C.m2 := by rw [← hx]; exact Int.emod_lt_of_pos _ m2a
        have hx' : (cell % C.m1 + C.b1 * p.no + C.b0) ^ (5 : Int).toNat % C.m2 = x := hx
        have e4 := mulT_ok 2 p.no (.inl (by decide))
        have e5 := mulT_ok x (2 * p.no + C.t0) (.inl (by omega))
        have e6 := mulT_ok C.q1 p.no (.inl (by omega))
        have e7 := mulT_ok (C.q1 * p.no) p.no (.inr (by omega))
        have y1 := le_mul (B := 2 ^ 22) hxa (Int.le_of_lt hxb) (show 0 ≤ 2 * p.no + C.t0 by omega) (by omega)
        have y1' : C.m2 * 2 ^ 22 ≤ 2 ^ 54 := by omega
        have y2 := le_mul (a := C.q1) (A := 2 ^ 20) q1a (Int.le_of_lt q1b) hn0 hn1
        have y3 := le_mul y2.1 y2.2 hn0 hn1
        have e8 := powD_ok (x * (2 * p.no + C.t0) + C.q1 * p.no * p.no + C.q0) 3 (by decide) (by decide) (by omega)
        have e9 := modD_ok ((cell % C.m1 + C.b1 * p.no + C.b0) ^ (5 : Int).toNat) C.m2 m2a
        rw [hx'] at e9
        have e10 := modD_ok ((x * (2 * p.no + C.t0) + C.q1 * p.no * p.no + C.q0) ^ (3 : Int).toNat) C.m3 m3a
        have e11 := modD_ok cell C.m1 m1a
        have e12 := powD_ok 10 18 (by decide) (by decide) (by decide)
        have e13 := divW_ok (mix2 C p.no x) 32 (by decide) (by decide)
        have e14 := fun z => modD_ok z many hm
        have e15 := fun z => divW_ok z many hm hl
        have e16 := mulT_ok 2 ((if cell < 0 then -cell else cell) - 10 ^ (18 : Int).toNat) (.inl (by decide))
        have hnr : decide (0 < p.rest) = false := decide_eq_false hrest
        have hcell : (if p.cells = [] then some (C.a1 * p.no + C.a0) else p.cells[(p.no % (p.cells.length : Int)).toNat]?) = some cell := hc
        have f1 : dEq true (.lst (p.cells.map D.int)) (.lst []) = M.ret (.bl (decide (p.cells ≠ []))) := ne_ints p.cells
        have r1 : dS1 [some (.d .pen), some (.d (.int many)), none, none, none, none, none] p = some (.nx [some (.d .pen), some (.d (.int many)), none, none, none, none, none], p) := by
          rw [dS1, if_run (b := false) (p' := p)]
          · rfl
          · show some (Out.ok (decide (0 < p.rest)), p) = _
            rw [hnr]
        have r4 : dS4 C [some (.d .pen), some (.d (.int many)), none, some (.d (.int p.no)), none, none, none] { p with no := p.no + 1 } = some (.nx [some (.d .pen), some (.d (.int many)), none, some (.d (.int p.no)), some (.d (.int (C.a1 * p.no + C.a0))), none, none], { p with no := p.no + 1 }) :=
          set_run (bn (bn rfl rfl (congrFun e1 _)) rfl rfl)
        have r5 : dS5 [some (.d .pen), some (.d (.int many)), none, some (.d (.int p.no)), some (.d (.int (C.a1 * p.no + C.a0))), none, none] { p with no := p.no + 1 } = some (.nx [some (.d .pen), some (.d (.int many)), none, some (.d (.int p.no)), some (.d (.int cell)), none, none], { p with no := p.no + 1 }) := by
          rw [dS5, if_run (test_run (bn rfl rfl (congrFun f1 _)))]
          by_cases hcs : p.cells = []
          · rw [if_pos hcs] at hcell
            cases hcell
            rw [if_neg (by simp [hcs])]
            rfl
          · rw [if_neg hcs] at hcell
            have hlen0 : 0 < (p.cells.length : Int) := by
              have : p.cells.length ≠ 0 := fun z => hcs (List.length_eq_zero_iff.mp z)
              omega
            have ii0 := Int.emod_nonneg p.no (b := (p.cells.length : Int)) (by omega)
            have ii1 := Int.emod_lt_of_pos p.no hlen0
            rw [if_pos (by simp [hcs])]
            have eL : xL [some (.d .pen), some (.d (.int many)), none, some (.d (.int p.no)), some (.d (.int (C.a1 * p.no + C.a0))), none, none] { p with no := p.no + 1 } = some (.ok (.int (p.cells.length : Int)), { p with no := p.no + 1 }) := by
              show some (Out.ok (D.int (((p.cells.map D.int).length : Nat) : Int)), _) = _
              rw [List.length_map]
            refine set_run (bn rfl (bn (int_run rfl) eL (congrFun (modD_ok _ _ hlen0) _)) ?_)
            show M.opt (L2.atI (p.cells.map D.int) (p.no % (p.cells.length : Int))) _ = _
            rw [at_int ii0 ii1 hcell]
            rfl
        have eL : xL [some (.d .pen), some (.d (.int many)), none, some (.d (.int p.no)), some (.d (.int cell)), none, none] { p with no := p.no + 1 } = some (.ok (.int (p.cells.length : Int)), { p with no := p.no + 1 }) := by
          show some (Out.ok (D.int (((p.cells.map D.int).length : Nat) : Int)), _) = _
          rw [List.length_map]
        have eA : xA [some (.d .pen), some (.d (.int many)), none, some (.d (.int p.no)), some (.d (.int cell)), none, none] { p with no := p.no + 1 } = some (.ok (.int (absI cell)), { p with no := p.no + 1 }) := rfl
        have r6 : dT6 [some (.d .pen), some (.d (.int many)), none, some (.d (.int p.no)), some (.d (.int cell)), none, none] { p with no := p.no + 1 } = some (.ok (decide (p.no < (p.cells.length : Int) ∧ absI cell ≥ 10 ^ (18 : Int).toNat)), { p with no := p.no + 1 }) := by
          refine andT_run (test_run (bn rfl eL rfl)) ?_
          by_cases hlt : p.no < (p.cells.length : Int)
          · rw [if_pos (decide_eq_true hlt)]
            rw [test_run (bn eA (bn rfl rfl (congrFun e12 _)) rfl)]
            simp [hlt]
          · rw [if_neg (by simp [hlt])]
            simp [hlt]
        show outOf (sSeq dS1 _ _ _) = _
        rw [seq_nx r1, seq_nx (s := dS2) (set_run rfl), seq_nx (s := dS3) (pen_run rfl rfl rfl)]
        rw [show ([some (Sl.d D.pen), some (Sl.d (D.int many)), none, none, none, none, none] : DS).set 3 (some (.d (.int p.no))) = [some (.d .pen), some (.d (.int many)), none, some (.d (.int p.no)), none, none, none] from rfl]
        rw [seq_nx r4, seq_nx r5]
        by_cases hb : p.no < (p.cells.length : Int) ∧ absI cell ≥ 10 ^ (18 : Int).toNat
        · rw [if_pos hb] at h
          cases h
          have : sSeq (sIf dT6 dS6 sNx) (sSeq (dS7 C) (sSeq (dS8 C) dS9)) [some (.d .pen), some (.d (.int many)), none, some (.d (.int p.no)), some (.d (.int cell)), none, none] { p with no := p.no + 1 } = some (.rt (.int ((2 * (absI cell - 10 ^ (18 : Int).toNat) + (if cell < 0 then 1 else 0)) % many)), { p with no := p.no + 1, rest := (2 * (absI cell - 10 ^ (18 : Int).toNat) + (if cell < 0 then 1 else 0)) / many }) := by
            unfold sSeq
            rw [if_run r6, decide_eq_true hb, if_pos rfl]
            have g1 : mBin dAdd (mBin dMulT (mC (.int 2)) (mBin dSub xA (mBin dPow (mC (.int 10)) (mC (.int 18))))) (xI (mBin (dCmpI fun i j => decide (i < j)) (mVar 4) (mC (.int 0)))) [some (.d .pen), some (.d (.int many)), none, some (.d (.int p.no)), some (.d (.int cell)), none, none] { p with no := p.no + 1 } = some (.ok (.int (2 * (absI cell - 10 ^ (18 : Int).toNat) + (if cell < 0 then 1 else 0))), { p with no := p.no + 1 }) := by
              refine bn (bn rfl (bn eA (bn rfl rfl (congrFun e12 _)) rfl) (congrFun e16 _)) (y := .int (if cell < 0 then 1 else 0)) (p2 := { p with no := p.no + 1 }) ?_ rfl
              show some (Out.ok (D.int (if decide (cell < 0) = true then 1 else 0)), _) = _
              by_cases hz : cell < 0 <;> simp [hz]
            unfold dS6
            rw [seq_nx (set_run g1)]
            rw [seq_nx (pen_run (bn (int_run rfl) rfl (congrFun (e15 _) _)) rfl rfl)]
            rw [ret_run (bn (int_run rfl) rfl (congrFun (e14 _) _))]
          rw [this]
          rfl
        · rw [if_neg hb] at h
          cases h
          rw [seq_nx (s := sIf dT6 dS6 sNx) (δ' := [some (.d .pen), some (.d (.int many)), none, some (.d (.int p.no)), some (.d (.int cell)), none, none]) (p' := { p with no := p.no + 1 }) (by rw [if_run r6, decide_eq_false hb]; rfl)]
          rw [seq_nx (s := dS7 C) (set_run (bn (int_run (bn (bn (bn (bn (int_run rfl) rfl (congrFun e11 _)) (bn rfl rfl (congrFun e2 _)) rfl) rfl rfl) rfl (congrFun e3 _))) rfl (congrFun e9 _)))]
          rw [seq_nx (s := dS8 C) (set_run (bn (int_run (bn (bn (bn (bn rfl (bn (bn rfl rfl (congrFun e4 _)) rfl rfl) (congrFun e5 _)) (bn (bn rfl rfl (congrFun e6 _)) rfl (congrFun e7 _)) rfl) rfl rfl) rfl (congrFun e8 _))) rfl (congrFun e10 _)))]
          rw [hx]
          rw [dS9, ret_run (bn (int_run (bn rfl rfl (congrFun e13 _))) rfl (congrFun (e14 _) _))]
          rfl
      cases hc : cellOf C p with
      | none => rw [hc] at h; cases h
      | some cell => rw [hc] at h; exact main cell hc h
  · cases h
end ME

/-! Mirrors run: one lemma for each construct. -/
namespace ME
open PySem
section
variable {δ δ' δ1 δ2 : DS} {p p1 p2 p3 p' : Pn}
theorem callK_run {f : List D → M D} {n k : Nat} {dd : List D} {l : List Src} {ra rk : AX} {xs ys : List D} {r : Option (Out D × Pn)} (h1 : ra δ p = some (.ok xs, p1)) (h2 : rk δ p1 = some (.ok ys, p2)) (h3 : xs.length = n ∧ ys.length = k) (h4 : f (pick xs dd ys l) p2 = r) : mCallK f n k dd l ra rk δ p = r := by
  unfold mCallK M.bnd
  rw [h1]
  dsimp only
  rw [h2]
  dsimp only
  rw [if_pos h3]
  exact h4
theorem fn_run {np n : Nat} {s : SX} {ds : List D} {r : Option (Fl × Pn)} (hl : ds.length = np) (h : s (dsOf n ds) p = r) : fnM np n s ds p = outOf r := by
  unfold fnM
  rw [if_pos hl, h]
theorem fn_ret {np n : Nat} {s : SX} {ds : List D} {d : D} (hl : ds.length = np) (h : s (dsOf n ds) p = some (.rt d, p')) : fnM np n s ds p = some (.ok d, p') := fn_run hl h
end
/-! ### data that can be shown -/
noncomputable def Gd (n : Nat) (d : D) : Prop := ∃ P, toPy d = some P ∧ P.showable = true ∧ P.depth ≤ 8 ∧ P.shown.length ≤ n
theorem Gd.repr {n : Nat} {d : D} (h : Gd n d) (hn : n ≤ 16777216) : ∃ s, ∀ p, dRepr [d] p = some (.ok (.str s), p) := by
  obtain ⟨P, h1, h2, h3, h4⟩ := h
  refine ⟨P.shown, fun p => ?_⟩
  unfold dRepr
  dsimp only
  rw [h1]
  dsimp only
  rw [if_pos]
  · rfl
  · rw [h2, decide_eq_true (show P.depth ≤ 60 by omega)]
    unfold szOk
    rw [decide_eq_true (show P.shown.length ≤ 16777216 by omega)]
    rfl
noncomputable def gdB (n : Nat) (d : D) : Bool := match toPy d with
  | some P => P.showable && decide (P.depth ≤ 8) && decide (P.shown.length ≤ n)
  | none => false
theorem at_mem {α : Type} {l : List α} {i : Int} (h0 : 0 ≤ i) (h1 : i < (l.length : Int)) : ∃ d, L2.atI l i = some d ∧ d ∈ l ∧ l[i.toNat]? = some d := by
  have hi : i.toNat < l.length := by omega
  refine ⟨l[i.toNat], ?_, List.getElem_mem hi, List.getElem?_eq_getElem hi⟩
  have e : L2.ixN l.length i = some i.toNat := by
    unfold L2.ixN
    rw [if_pos h0, if_pos h1]
  unfold L2.atI
  rw [e]
  exact List.getElem?_eq_getElem hi
theorem ix_run {l : List D} {i : Int} {d : D} {p : Pn} (h : L2.atI l i = some d) : dIx (.lst l) (.int i) p = some (.ok d, p) := by
  show M.opt (L2.atI l i) p = _
  rw [h]
  rfl
/-! ### what a draw leaves -/
structure PnB (b : Int) (p : Pn) : Prop where
  lo : 0 ≤ p.no
  hi : p.no ≤ b
  len : p.cells.length ≤ 63
/-- m ends well, drawing at most k times -/
noncomputable def Hd {α : Type} (k : Nat) (m : M α) (Q : α → Prop) : Prop := ∀ (b : Int) (p : Pn), PnB b p → b + k ≤ 1000000 → ∃ a p', m p = some (.ok a, p') ∧ Q a ∧ PnB (b + k) p'
theorem Hd.draw {C : DrC} (hC : C.ok = true) {many : Int} (h0 : 0 < many) (h1 : many < 2 ^ 8999) : Hd 1 (fnM 2 7 (bDraw C) [.pen, .int many]) (fun d => ∃ r, d = .int r ∧ 0 ≤ r ∧ r < many) := by
  intro b p hp hb
  obtain ⟨r, p', e, r0, r1, hc, n0, n1⟩ := drawF_some (C := C) h0 h1 ⟨hp.lo, by have := hp.hi; omega, hp.len⟩
  exact ⟨.int r, p', draw_run hC e, ⟨r, rfl, r0, r1⟩, ⟨by have := hp.lo; omega, by have := hp.hi; omega, by rw [hc]; exact hp.len⟩⟩
end ME

/-! try: .. except C as n: the exception is kept as a value. -/
namespace ME
open PySem PySem.Spec PyProof.Rows L2

section
variable {X : Cx} {pins : List (Addr × Obj)} {σ : L2.St} {H : Hp} {s : Shared}
/-- an object that is there, untracked and ours, is tracked from now on -/
theorem adopt {a : Addr} {o : HO} {oe : Obj} {vs : Array Value} (I : Inv X ((a, oe) :: pins) σ H s) (h0 : X.s_0.heap.get? a = none) (hd : oe.data = .fields vs) (hp : ∀ p ∈ X.pn ++ pins, p.1 ≠ a) (ho : ∀ x, o ≠ .own x) (ht : ∀ xs, o ≠ .tup xs) (hk : ObjOk X.prog X.w (upd H a o) s.heap a o) : Inv X pins σ (upd H a o) s := by
  obtain ⟨ha, na, nL, nF, nc⟩ := I.pin (a, oe) (List.mem_append_right _ List.mem_cons_self)
  have up : ∀ b u, H b = some u → upd H a o b = some u := fun b u e => by
    have : b ≠ a := fun z => by rw [z] at e; rw [show H a = none from na] at e; cases e
    rw [upd_ne this]; exact e
  refine ⟨I.ok, I.os, I.bare, ⟨I.base.keep, I.base.slot, fun b u e n hx => ?_, I.base.there, fun b xs e => up _ _ (I.base.tups b xs e), fun b u v e => up _ _ (I.base.frzs b u v e), fun b ps e => ?_⟩, I.loc, I.cell, ?_, fun x c e => ?_, fun p hp' => ?_, fun b u e => ?_, I.len⟩
  · have : b ≠ a := fun z => by rw [z, h0] at e; cases e
    rw [upd_ne this]; exact I.base.free b u e n hx
  · obtain ⟨more, q⟩ := I.base.tbls b ps e
    exact ⟨more, up _ _ q⟩
  · rw [upd_ne (Ne.symm nL)]; exact I.free
  · have : c ≠ a := fun z => by
      obtain ⟨v, q⟩ := I.cell x c e
      rw [z] at q
      obtain ⟨oc, e1, e2⟩ := q
      rw [show s.heap.get? a = some oe from ha] at e1
      cases e1
      exact nc _ (by first | exact e2 | exact e2.2 | exact e2.1)
    rw [upd_ne this]; exact I.freeC x c e
  · have q := I.pin p (by rcases List.mem_append.mp hp' with z | z
                          · exact List.mem_append_left _ z
                          · exact List.mem_append_right _ (List.mem_cons_of_mem _ z))
    exact ⟨q.1, by rw [upd_ne (hp p hp')]; exact q.2.1, q.2.2⟩
  · by_cases z : b = a
    · subst z
      rw [upd_same] at e
      cases e
      exact hk
    · rw [upd_ne z] at e
      refine (I.hok b u e).stay (fun c w' _ q => q) (fun c q => up _ _ q) fun c xs q => up _ _ q
end
/-- what 'except x as n' wishes of an exception of the body; behind the suite it is tracked -/
noncomputable def wAsK (K : PySem.W.Frag) (c : Value) (i : Nat) (ts : Addr → Value → Option Addr → TS) (Wout : WX) (D : Ends) : WX := fun cls d σ H =>
  ∃ b C, cls = .ref C ∧ PySem.W.exmOne K cls c = some b ∧ (b = true → ∀ a, H a = none → ts a cls d { nx := fun σ' H' => H' a = none → D.nx (σ'.set i none) (upd H' a (ExV a C d)), rt := fun v H' => H' a = none → D.rt v (upd H' a (ExV a C d)), bk := fun σ' H' => H' a = none → D.bk (σ'.set i none) (upd H' a (ExV a C d)), ct := fun σ' H' => H' a = none → D.ct (σ'.set i none) (upd H' a (ExV a C d)) } (σ.set i (some (.ref a))) H) ∧
    (b = false → Wout cls d σ H)
section
variable {X : Cx} {x n : Str} {c : Value} {i : Nat} {body suite : List Stmt} {b₀ : Stmt} {np pos pos' : Pos} {tb : WX → TS} {ts : Addr → Value → Option Addr → TS} {Wout : WX}
theorem ps_tryK (hex : X.ex = []) (hs : X.stack = X.env :: X.outer) (hf : X.env.frame = some X.env.locals) (hN : X.N.Nodup) (hi : X.N[i]? = some n) (hln : X.env.kindOf n = some .local) (hc : Names X x c) (tk : Takes X Wout)
    (hb : ∀ (W : WX) (pn : List (Addr × Obj)) (xe : Value → Shared → Prop), Takes (X.tr pn xe) W → PassesOwn (model X.prog X.w) X.A X.env xe → PSs (X.tr pn xe) body (tb W))
    (hsu : ∀ (a : Addr) (oe : Obj) (cls : Value) (d : Option Addr) (pn : List (Addr × Obj)), Zc cls d oe → (∃ vs, oe.data = .fields vs) → PSs (X.suite a ((a, oe) :: pn)) (b₀ :: suite) (ts a cls d)) :
    PS X (.Try body [.ExceptHandler (some (.Name x np)) (some n) (b₀ :: suite) pos'] [] [] pos) (fun D σ H => tb (wAsK X.K c i ts Wout D) D σ H) := by
  refine ⟨fun pins s σ H D I h => ?_⟩
  have ok := I.ok
  have hfr : X.A.frames = some (X.env :: X.outer) := by rw [ok.frames, hs]
  have hloc : Loc X.env.scope n := .inl hln
  refine wpAny_Try_except ?_
  refine wpAny_mono ((hb (wAsK X.K c i ts Wout D) (X.pn ++ pins) (fun e s₁ => wpAny (model X.prog X.w) X.A (noteFrame e X.env) (fun _ s₂ => wpAny (model X.prog X.w) X.A (setFlight e none) (fun _ s₃ =>
    wpAny (model X.prog X.w) X.A (handleBy e X.env [.ExceptHandler (some (.Name x np)) (some n) (b₀ :: suite) pos']) (SP X pins D) X.xe s₃) X.xe s₂) X.xe s₁) (fun u s' xx => ?_) PassesOwn.looking).run [] s σ H D (I.toTry _) h) (fun f s1 hsp => ?_) (fun e s1 he => he)
  · obtain ⟨a, B, sI, pins', σ', H', cls, d, rfl, J', nb, up, sky, na, os, ag, b, C, ec, hb1, hyes, hno⟩ := xx
    have J : Inv X pins σ' H' sI := J'.ofTry ok
    have sky' : Sky B (X.env :: X.outer) a (Zc cls d) X.env.locals s'.heap := by rw [← hs]; exact sky
    show wpAny (model X.prog X.w) X.A (noteFrame (.ref a) X.env) _ _ _
    refine Sky.land Zc.steady hfr hf sky' fun h3 fl3 up3 => ?_
    have J3 : Inv X pins σ' H' { s' with heap := h3 } := J.landed nb fl3.1 (up.trans up3) os ag
    obtain ⟨oe3, vs3, he3, hz3, hd3⟩ := fl3.there
    have notFr : ∀ {h : Heap} {o : Obj} {vs : Array Value}, h.FunFrames B (X.env :: X.outer) → h.get? a = some o → o.data = .fields vs → a ∉ frs (X.env :: X.outer) := fun {h o vs} ff e dd hm => by
      obtain ⟨_, o', e', hnf⟩ := ff.mem hm
      rw [e] at e'; cases e'
      exact hnf _ dd
    have nfr := notFr fl3.2.2.1 he3 hd3
    have nL : a ≠ X.env.locals := fun z => nfr (List.mem_filterMap.mpr ⟨X.env, List.mem_cons_self, by rw [hf, z]⟩)
    have nF : a ∉ X.fs := fun hm => by
      obtain ⟨e, he, q⟩ := List.mem_filterMap.mp hm
      exact nfr (List.mem_filterMap.mpr ⟨e, List.mem_cons_of_mem _ he, q⟩)
    have nI : sI.heap.get? a = none := by
      cases q : sI.heap.get? a with
      | none => rfl
      | some o =>
        have := nb a o q (by rw [hs]; exact nfr)
        rw [fl3.2.1] at this; cases this
    have n0 : X.s_0.heap.get? a = none := by
      cases q : X.s_0.heap.get? a with
      | none => rfl
      | some o =>
        by_cases hx : a ∈ X.ex
        · rw [hex] at hx; cases hx
        · obtain ⟨o', e⟩ := J.base.there a o q hx
          rw [nI] at e; cases e
    have nP : ∀ p ∈ X.pn ++ pins, p.1 ≠ a := fun p hp z => by
      have := (J.pin p hp).1
      rw [z, nI] at this; cases this
    have S3 := J3.suite he3 hd3 na nL nF
    refine wpAny_handleBy_cons (codeAny_handlers_test ?_) (by intro q; cases q)
    have LT : PySem.W.Looks (model X.prog X.w) h3 (typeOf (.ref a)) cls := fun A Q E s k q => wpAny_typeOf_ref (k _ _ he3) (by rw [hz3.1]; exact q)
    have LM := PySem.W.exm_one (M := model X.prog X.w) (J3.kIn) LT hb1
    have test : ∀ {Q : Value → Shared → Prop} {E : Value → Shared → Prop}, Q c { s' with heap := h3 } → wpAny (model X.prog X.w) (X.A.mark (some (.ref a))) (eval (.Name x np) X.env) Q E { s' with heap := h3 } := fun {Q E} q => by
      obtain ⟨hg, hdbg, hm | ⟨hm, hv, hnn⟩⟩ := hc
      · exact ld_glob (X := X.suite a ((a, oe3) :: (X.pn ++ pins))) S3 hg hm q hdbg
      · exact ld_blt (X := X.suite a ((a, oe3) :: (X.pn ++ pins))) S3 hg hm hv q hnn hdbg
    refine test (LM.here ?_)
    cases b with
    | true =>
      refine codeAny_handlers_suite_as ?_
      refine HandSPX.lands_againZ fl3 fun h4 fl4 up4 => ?_
      have J4 : Inv X pins σ' H' { s' with heap := h4 } := J.landed nb fl4.1 ((up.trans up3).trans up4) os ag
      obtain ⟨oe4, vs4, he4, hz4, hd4⟩ := fl4.there
      have S4 := J4.suite he4 hd4 na nL nF
      refine store_ok (X := X.suite a ((a, oe4) :: (X.pn ++ pins))) (v := .ref a) S4 hN hi hloc rfl (fun s5 S5 => ?_) (.inr hln)
      refine wpAny_mono ((hsu a oe4 cls d (X.pn ++ pins) hz4 ⟨_, hd4⟩).run [] s5 _ H' _ S5 (hyes rfl a na)) (fun f s6 hsp => ?_) (fun _ _ z => False.elim z)
      have end_ : ∀ {σ6 : L2.St} {H6 : Hp} {Q : Shared → Prop}, Inv (X.suite a ((a, oe4) :: (X.pn ++ pins))) [] σ6 H6 s6 → (H6 a = none → ∀ s7, Inv X pins (σ6.set i none) (upd H6 a (ExV a C d)) s7 → Q s7) →
          wpAny (model X.prog X.w) X.A (do bindName X.env n .none; unbindBehindTheSuite X.env n pos') (fun _ s7 => Q s7) X.xe s6 := fun {σ6 H6 Q} S6 hq => by
        have J6 : Inv X ((a, oe4) :: pins) σ6 H6 s6 := ⟨ok, S6.os, S6.bare, S6.base, S6.loc, S6.cell, S6.free, S6.freeC, fun p hp => S6.pin p (List.mem_append_left _ (by
          rcases List.mem_append.mp hp with z | z
          · exact List.mem_cons_of_mem _ (List.mem_append_left _ z)
          · rcases List.mem_cons.mp z with z | z
            · rw [z]; exact List.mem_cons_self
            · exact List.mem_cons_of_mem _ (List.mem_append_right _ z))), S6.hok, S6.len⟩
        refine gone_ok J6 hN hi hln fun s7 J7 => ?_
        have pa := J7.pin (a, oe4) (List.mem_append_right _ List.mem_cons_self)
        refine hq pa.2.1 s7 (adopt J7 n0 hd4 nP (fun _ z => by cases z) (fun _ z => by cases z) (ExV_ok pa.1 (by rw [← ec]; exact hz4) hd4))
      cases f with
      | next =>
        obtain ⟨σ6, H6, S6, q6⟩ := hsp
        exact end_ S6 fun hn s7 J7 => ⟨_, _, J7, q6 hn⟩
      | brk =>
        obtain ⟨σ6, H6, S6, q6⟩ := hsp
        exact end_ S6 fun hn s7 J7 => ⟨_, _, J7, q6 hn⟩
      | cont =>
        obtain ⟨σ6, H6, S6, q6⟩ := hsp
        exact end_ S6 fun hn s7 J7 => ⟨_, _, J7, q6 hn⟩
      | ret u =>
        obtain ⟨v6, σ6, H6, S6, r6, q6⟩ := hsp
        exact end_ S6 fun hn s7 J7 => ⟨_, _, _, J7, r6, q6 hn⟩
    | false =>
      show wpAny _ X.A (handleBy (.ref a) X.env []) _ _ _
      refine wpAny_handleBy_nil ?_
      obtain ⟨k1, k2, k3, oe, vs, T, oT, ts', he, hz, hd, h1, hr⟩ := id fl3
      unfold PySem.passOn
      refine wpAny_bind (wpAny_field he hd h1 ?_)
      rw [if_neg (show ¬ ((Value.ref T == Value.none) = true) from by simp)]
      have fin : wpAny (model X.prog X.w) X.A (setFlight (.ref a) X.env.frame) (fun _ s4 => wpAny (model X.prog X.w) X.A (throw (.ref a) : Sem Flow) (SP X pins D) X.xe s4) X.xe { s' with heap := h3 } := by
        rw [hf]
        refine HandSPX.setFlight_upZ fl3 fun h4 hh4 up4 => wpAny_throw (tk _ _ ?_)
        exact ⟨a, B, sI, pins, σ', H', cls, d, rfl, J, nb, (up.trans up3).trans up4, .inr (.inr (by rw [hs]; exact hh4)), na, os, ag, hno rfl⟩
      first
        | exact wpAny_bind (wpAny_pure (wpAny_bind fin))
        | exact wpAny_bind fin
  · cases f with
    | next =>
      obtain ⟨σ', H', J', q⟩ := hsp
      exact wpAny_execs_nil ⟨σ', H', J'.ofTry ok, q⟩
    | brk =>
      obtain ⟨σ', H', J', q⟩ := hsp
      exact ⟨σ', H', J'.ofTry ok, q⟩
    | cont =>
      obtain ⟨σ', H', J', q⟩ := hsp
      exact ⟨σ', H', J'.ofTry ok, q⟩
    | ret u =>
      obtain ⟨v, σ', H', J', r, q⟩ := hsp
      exact ⟨v, σ', H', J'.ofTry ok, r, q⟩
/-! ### the mirror of: try: body / except x as n: y = n -/
/-- cs: the classes that the clause catches (of all exception classes known to T) -/
noncomputable def sTry (T : IsT) (ci : Nat) (i j : Nat) (b : SX) : SX := fun δ p => match b δ p with
  | some (.er c fs δ', p') => if T.xs.contains c && decide (i < δ'.length) then (if T.sub c ci then some (.nx ((δ'.set j (some (.d (.exc c fs)))).set i none), p') else some (.er c fs δ', p')) else none
  | r => r
/-- what the clauses ask of the classes -/
noncomputable def ExmF (S : Sg) (T : IsT) (ci : Nat) : Prop := ∀ c ∈ T.xs, PySem.W.exmOne S.K (.ref (S.ca c)) (.ref (S.ca ci)) = some (T.sub c ci)
theorem ms_try {m : Am} {T : IsT} {ci j k : Nat} {y : Str} {py pn' pa : Pos} {b : SX} (hex : X.ex = []) (hs : X.stack = X.env :: X.outer) (hf : X.env.frame = some X.env.locals) (hN : nodB X.N = true) (hi : ixB X.N i n = true) (hln : lclB X.env.scope n = true) (hn0 : nmB n = true)
    (hj : stoB X.N X.env.scope j y = true) (hij : Nat.beq i j = false) (hg : gloB X.env.scope x = true) (hx : nmB x = true) (hm : X.mg x = some (.ref (m.S.ca ci))) (B : Bx X m k) (F : ExmF m.S T ci)
    (hsw : ∀ env : Env, swapsWith (.Name n pn') (some (.Name y py)) pa.line env = pure false) (hfn : ∀ x, X.fn x = true)
    (hb : ∀ (W : WX) (pn : List (Addr × Obj)) (xe : Value → Shared → Prop), Takes (X.tr pn xe) W → PassesOwn (model X.prog X.w) X.A X.env xe → PSs (X.tr pn xe) body (tS { m with W := W } b)) :
    PS X (.Try body [.ExceptHandler (some (.Name x np)) (some n) [.Assign [.Name y py] (.Name n pn') pa] pos'] [] [] pos) (tS m (sTry T ci i j b)) := by
  have h1 := ixB_of hi
  have hnn := nmB_of hn0
  have hjj := hj
  unfold stoB at hjj
  simp only [Bool.and_eq_true] at hjj
  have hne : i ≠ j := fun z => by rw [z] at hij; simp at hij
  have suite : ∀ (a : Addr) (oe : Obj) (cls : Value) (d : Option Addr) (pn : List (Addr × Obj)), Zc cls d oe → (∃ vs, oe.data = .fields vs) → PSs (X.suite a ((a, oe) :: pn)) [.Assign [.Name y py] (.Name n pn') pa] (tAsg (tVar i) (gName j)) := fun a oe cls d pn _ _ =>
    pss_one (ps_set (X := X.suite a ((a, oe) :: pn)) (nodB_of hN) (ixB_of hjj.1) (locB_of hjj.2) (pe_var (X := X.suite a ((a, oe) :: pn)) h1 (.inl (lclB_of hln)) hnn.1 hnn.2.1) (hsw _) (.inl (hfn y)))
  refine PS.imp (ps_tryK (tb := fun W => tS { m with W := W } b) (ts := fun _ _ _ => tAsg (tVar i) (gName j)) (Wout := m.W) hex hs hf (nodB_of hN) h1 (lclB_of hln) ⟨gl_of hg, (nmB_of hx).1, .inl hm⟩ B.tk hb suite) fun K σ H h => ?_
  obtain ⟨G, p, δ, w, x, sl, h⟩ := h
  refine ⟨G, p, δ, w, x, sl, ?_⟩
  dsimp only [sTry] at h
  rcases he : b δ p with _ | ⟨o, p1⟩
  · rw [he] at h; exact h.elim
  · rw [he] at h
    cases o with
    | nx δ' => exact h
    | rt d => exact h
    | bk δ' => exact h
    | ct δ' => exact h
    | er c fs δ' =>
      intro d σ' G' H' sb w' x' sl' rx
      dsimp only at h
      split at h
      · rename_i hcc
        simp only [Bool.and_eq_true, List.contains_eq_mem, decide_eq_true_eq] at hcc
        refine ⟨T.sub c ci, m.S.ca c, rfl, by rw [B.hK]; exact F c hcc.1, fun hb1 a ha => ?_, fun hb1 => ?_⟩
        · rw [if_pos hb1] at h
          have hl : i < σ'.length := by
            rw [sl'.len]; exact hcc.2
          refine ⟨.ref a, by rw [List.getElem?_set_self hl], fun hna => ?_⟩
          have wa := Wd.alloc (o := ExV a (m.S.ca c) d) w' ha
          have xa : Ex m.pen G' H' (upd G' a (ExV a (m.S.ca c) d)) (upd H' a (ExV a (m.S.ca c) d)) := Ex.alloc ha (w'.gfree ha)
          refine h _ _ _ (sb.trans xa.sub) wa (x'.trans xa) ?_
          have rep : Rep m.S (upd G' a (ExV a (m.S.ca c) d)) m.pen (.ref a) (.exc c fs) := by
            cases d with
            | none => obtain ⟨e1, e2⟩ := rx; subst e1; exact .exc0 upd_same
            | some dx =>
              obtain ⟨fs', vs, h1, h2, h3, h4⟩ := rx
              have hda : dx ≠ a := fun z => by rw [z] at h1; rw [w'.gfree ha] at h1; cases h1
              exact .exc upd_same (by rw [upd_ne hda]; exact h1) h2 h3 (h4.mono xa.sub)
          have s1 := (((sl'.ex xa).set (i := j) rep).setNone (i := i))
          have e : ((σ'.set i (some (V.ref a))).set j (some (V.ref a))).set i none = (σ'.set j (some (V.ref a))).set i none := by
            rw [List.set_comm _ _ hne, set_same]
          show SlR _ _ _ _ _ (((σ'.set i (some (V.ref a))).set j (some (V.ref a))).set i none) _
          rw [e]
          exact s1
        · rw [if_neg (by rw [hb1]; simp)] at h
          exact h d σ' G' H' sb w' x' sl' rx
      · exact h.elim
end
end ME

/-! is None, chains, in a text, signs of a text, all([..]), constants of the module -/
namespace ME
open PySem PySem.Spec PyProof.Rows L2

/-! ### is None -/
noncomputable def isNon : D → Bool
  | .non => true
  | _ => false
noncomputable def dIsN (neg : Bool) : D → D → M D
  | d, .non => M.ret (.bl (neg ^^ isNon d))
  | _, _ => M.stuck
theorem rep_non {S : Sg} {G : Hp} {pen : Addr} {v : V} {d : D} (r : Rep S G pen v d) : decide (v = .non) = isNon d := by
  cases r <;> first | rfl | (simp [isNon])
section
variable {X : Cx} {m : Am} {j : Nat}
theorem r_isN : R2Ok m (fun x y H Q => y = .non ∧ Q (.bl (decide (x = .non))) H) (dIsN false) := by
  rintro σ x y H Q ⟨G, p, δ, ⟨⟨_, dx⟩, dy⟩, w, sl, ⟨⟨_, rx⟩, ry⟩, h⟩
  have rx : Rep m.S G m.pen x dx := rx
  have ry : Rep m.S G m.pen y dy := ry
  cases ry with
  | non => exact ⟨rfl, by rw [rep_non rx]; exact fin_same w (.bl _) (by simpa [dIsN] using h)⟩
  | _ => exact h.elim
theorem c_is : CmpT X m .Is (dIsN false) := ⟨_, op_isN, r_isN⟩
/-! ### in a list, in a tuple, in a text -/
noncomputable def dInS (neg : Bool) : D → D → M D
  | .str i, .str j => M.ret (.bl (neg ^^ !(Builtin.Str.occurrences j i 0 j.length 1).isEmpty))
  | x, y => dIn neg x y
/-! ### a op b op' c -/
noncomputable def mChn (o o' : D → D → M D) (a b c : EX) : EX := fun δ => (a δ).bnd fun x => (b δ).bnd fun y => (o x y).bnd fun z => (M.opt (dB z)).bnd fun k => if k = true then (c δ).bnd fun w => o' y w else M.ret (.bl false)
variable {a b c : Expr} {ea eb ec : EX} {pos : Pos}
/-! ### the signs of a text -/
noncomputable def iTxt (e : EX) : DS → M (List D) := fun δ => (e δ).bnd fun d => match d with
  | .str x => M.ret (x.cps.toList.map fun c => D.str ⟨#[c]⟩)
  | _ => M.stuck
end
end ME

/-! More built-ins; a, b = value; constants of the module. -/
namespace ME
open PySem PySem.Spec PyProof.Rows L2

noncomputable def blsOf : List D → Option (List Bool)
  | [] => some []
  | .bl b :: r => (blsOf r).map (b :: ·)
  | _ => none
noncomputable def intsOf : List D → Option (List Int)
  | [] => some []
  | .int b :: r => (intsOf r).map (b :: ·)
  | _ => none
noncomputable def strsOf : List D → Option (List Str)
  | [] => some []
  | .str b :: r => (strsOf r).map (b :: ·)
  | _ => none
noncomputable def dAll : List D → M D
  | [.lst l] => match blsOf l with | some bs => M.ret (.bl (bs.all id)) | none => M.stuck
  | _ => M.stuck
noncomputable def dAny : List D → M D
  | [.lst l] => match blsOf l with | some bs => M.ret (.bl (bs.any id)) | none => M.stuck
  | _ => M.stuck
noncomputable def dSum : List D → M D
  | [.lst l] => match intsOf l with | some bs => M.ret (.int bs.sum) | none => M.stuck
  | _ => M.stuck
noncomputable def dLst1 : List D → M D
  | [.lst l] => M.ret (.lst l)
  | [.tup l] => M.ret (.lst l)
  | _ => M.stuck
noncomputable def dTup1 : List D → M D
  | [.lst l] => M.ret (.tup l)
  | [.tup l] => M.ret (.tup l)
  | _ => M.stuck
noncomputable def dStr1 : List D → M D
  | [.int i] => if decide (i.natAbs.log2 < 1920) then M.ret (.str (toString i)) else M.stuck
  | [.str x] => M.ret (.str x)
  | _ => M.stuck
noncomputable def dMax2 : List D → M D
  | [.int i, .int j] => M.ret (.int (if j > i then j else i))
  | _ => M.stuck
noncomputable def dMin2 : List D → M D
  | [.int i, .int j] => M.ret (.int (if j < i then j else i))
  | _ => M.stuck
section
variable {X : Cx} {m : Am} {j : Nat}
/-- one value handed over -/
theorem ra_one {r : List V → Hp → VK → Prop} {f : List D → M D} (h0 : f [] = M.stuck) (h2 : ∀ a b l, f (a :: b :: l) = M.stuck) (h1 : ∀ (σ : L2.St) (x : V) (H : Hp) (Q : VK) (G : Hp) (p : Pn) (δ : DS) (d : D), Wd m.S m.pen G H p → SlR m.S m.pen m.B G H σ δ → Rep m.S G m.pen x d → Post m.S m.pen m.rE G H Q (fun c d H' => m.W c d σ H') (f [d] p) → r [x] H Q) : RAOk m r f := by
  rintro σ xs H Q ⟨G, p, δ, ⟨_, ds⟩, w, sl, ⟨_, rr⟩, h⟩
  have rr : Reps m.S G m.pen xs ds := rr
  cases rr with
  | nil => dsimp only at h; rw [h0] at h; exact h.elim
  | cons r1 r2 => cases r2 with
    | nil => exact h1 σ _ H Q G p δ _ w sl r1 h
    | cons _ _ => dsimp only at h; rw [h2] at h; exact h.elim
theorem r_tup1 (hK : X.K = m.S.K) : RAOk m (fun xs H Q => ∃ p ys, xs = [.ref p] ∧ ((SqL X.K H p ys ∧ ∀ l, H l = none → Q (.ref l) (upd H l (.tup ys))) ∨ (SqT X.K H p ys ∧ Q (.ref p) H))) dTup1 := by
  refine ra_one rfl (fun a b l => by cases a <;> rfl) fun σ x H Q G p δ d w sl r h => ?_
  rw [hK]
  cases r with
  | @lst a vs ds ha ra => exact ⟨a, vs, rfl, .inl ⟨.of (w.sub _ _ ha), fin_new w h fun c hc => .tup (.of upd_same) (ra.mono (Sub.alloc (w.gfree hc)))⟩⟩
  | @tup a vs ds ha ra => exact ⟨a, vs, rfl, .inr ⟨w.sub.sqt ha, fin_same w (.tup ha ra) h⟩⟩
  | _ => exact h.elim
theorem r_str1 : RAOk m (fun xs H Q => (∃ i, xs = [.int i] ∧ i.natAbs.log2 < 1920 ∧ Q (.str (toString i)) H) ∨ ∃ a, xs = [.str a] ∧ Q (.str a) H) dStr1 := by
  refine ra_one rfl (fun a b l => by cases a <;> rfl) fun σ x H Q G p δ d w sl r h => ?_
  cases r with
  | int i =>
    dsimp only [dStr1] at h
    split at h
    · rename_i hz
      exact .inl ⟨i, rfl, of_decide_eq_true hz, fin_same w (.str _) h⟩
    · exact h.elim
  | str z => exact .inr ⟨z, rfl, fin_same w (.str _) h⟩
  | _ => exact h.elim
theorem b_tuple (B : Bx X m j) : BltT X m "tuple" dTup1 := ⟨.inr ⟨_, _, rfl, call_tuple_of, r_tup1 B.hK⟩⟩
/-! ### a, b = value -/
noncomputable def sUnp (g : GX) (e : EX) : SX := sBnd e fun d δ p => match g d δ with
  | some δ' => some (.nx δ', p)
  | none => none
theorem ms_unp {tg e : Expr} {ea : EX} {g : GX} {js : List Nat} {pos : Pos} (he : PE X e (tE m ea)) (hg : PG X tg (tG m js g)) (hs : swapsWithSole [tg] e pos.line X.env = pure false := by rfl) (hw : swappedStores [tg] e X.env = pure none := by rfl)
    (h1 : (assignEach [tg] X.env).map (·.2) = [assign tg X.env] := by rfl) : PS X (.Assign [tg] e pos) (tS m (sUnp g ea)) := by
  refine PS.imp (ps_asg he hg hs hw h1) fun K σ H h => ?_
  refine (tS_bind (R := m.rE) h).imp fun v H1 ⟨d, G, p, δ, w, x, sl, r, q⟩ => ?_
  cases e : g d δ with
  | none => rw [e] at q; exact q.elim
  | some δ' =>
    rw [e] at q
    exact ⟨G, p, δ, d, w, sl, r, δ', e, fun σ' _ sl' => q σ' G H1 (Sub.refl _) w x sl'⟩
/-! ### constants of the module -/
inductive Cn where
  | i (z : Int)
  | s (z : Str)
noncomputable def Cn.d : Cn → D
  | .i z => .int z
  | .s z => .str z
noncomputable def cnIs (c : Cn) (v : Value) : Bool := match c, v with
  | .i z, .int y _ => z == y
  | .s z, .str y _ => z == y
  | _, _ => false
noncomputable def CnAt (mg : Str → Option Value) (x : Str) (c : Cn) : Prop := ∃ v, mg x = some v ∧ cnIs c v = true
/-- the constants of the module, asked of K -/
noncomputable def cnsB (K : PySem.W.Frag) (l : List (Str × Cn)) : Bool := l.all fun q => match PySem.W.nsIn K mainGlobals q.1 with
  | some (some v) => cnIs q.2 v
  | _ => false
theorem cns_of {K : PySem.W.Frag} {h : Heap} {mg : Str → Option Value} (Y : K.In h) (G : h.Ns mainGlobals mg) {l : List (Str × Cn)} (e : cnsB K l = true) : ∀ (i : Nat) (x : Str) (c : Cn), l[i]? = some (x, c) → CnAt mg x c := fun i x c hi => by
  have := List.all_eq_true.mp e _ (List.mem_of_getElem? hi)
  dsimp only at this
  split at this
  · rename_i v hv
    exact ⟨v, PySem.W.mg_of Y G hv, this⟩
  · cases this
end
end ME

/-! Instances of own classes: made by __init__, then frozen. -/
namespace ME
open PySem PySem.Spec PyProof.Rows L2

/-- a heap of which the object at a is exempt (marked by its dict's address); no other mark stands in it -/
noncomputable def mkH (H : Hp) (a dx : Addr) : Hp := fun b => if b = a then some (.tbl #[.ref dx]) else match H b with
  | some (.tbl _) => some (.tbl #[])
  | o => o
theorem mkH_same {H : Hp} {a dx : Addr} : mkH H a dx a = some (.tbl #[.ref dx]) := if_pos rfl
theorem mkH_mark {H : Hp} {a dx b dy : Addr} (h : mkH H a dx b = some (.tbl #[.ref dy])) : b = a ∧ dy = dx := by
  unfold mkH at h
  split at h
  · rename_i e; cases h; exact ⟨e, rfl⟩
  · split at h
    · cases h
    · rename_i hn; exact absurd h (hn _)
theorem mkH_none {H : Hp} {a dx b : Addr} (h : mkH H a dx b = none) : H b = none ∧ b ≠ a := by
  unfold mkH at h
  split at h
  · cases h
  · rename_i e
    refine ⟨?_, e⟩
    split at h
    · cases h
    · exact h
theorem none_mkH {H : Hp} {a dx b : Addr} (h : H b = none) (e : b ≠ a) : mkH H a dx b = none := by
  unfold mkH
  rw [if_neg e, h]
theorem mkH_some {H : Hp} {a dx b : Addr} {o : HO} (h : mkH H a dx b = some o) (nt : ∀ x, o ≠ .tbl x) : H b = some o ∧ b ≠ a := by
  unfold mkH at h
  split at h
  · cases h; exact absurd rfl (nt _)
  · rename_i e
    refine ⟨?_, e⟩
    split at h
    · cases h; exact absurd rfl (nt _)
    · exact h
theorem some_mkH {H : Hp} {a dx b : Addr} {o : HO} (h : H b = some o) (nt : ∀ x, o ≠ .tbl x) (e : b ≠ a) : mkH H a dx b = some o := by
  unfold mkH
  rw [if_neg e, h]
  split
  · rename_i z; cases z; exact absurd rfl (nt _)
  · rfl
/-- what is claimed behind an __init__ of the object at a (its dict at dx) -/
noncomputable def PostO (S : Sg) (pen a dx : Addr) (c : Nat) (G H : Hp) (Q : VK) (E : XK) : Option (Out (List D) × Pn) → Prop
  | none => False
  | some (.ok fs, p) => ∀ vs G' H', Ex pen G (mkH H a dx) G' H' → Wd S pen G' H' p → H' a = some (.ins (S.ca c) dx ((S.nm c).zip vs)) → vs.length = (S.nm c).length → Reps S G' pen vs fs → G' a = none → Q .non H'
  | some (.ex k fs, p) => ∀ d G' H', Ex pen G (mkH H a dx) G' H' → Wd S pen G' H' p → RepX S G' pen d k fs → E (.ref (S.ca k)) d H'
/-- the __init__ computes the fields by f -/
noncomputable def spO (S : Sg) (c : Nat) (f : List D → M (List D)) : Sp := fun vs H Q E => ∃ pen G p a dx ws ds, vs = .ref a :: ws ∧ H a = some (.ins (S.ca c) dx []) ∧ G a = none ∧ a ≠ pen ∧ Wd S pen G H p ∧ Reps S G pen ws ds ∧ PostO S pen a dx c G H Q E (f ds p)
/-- an __init__: class, parameters behind self, slots, number of fields, body -/
noncomputable def dsI (c n : Nat) (ds : List D) : DS := some (.mo c []) :: (ds.map (fun d => some (.d d)) ++ List.replicate (n - 1 - ds.length) none)
noncomputable def inOf (c nf : Nat) : Option (Fl × Pn) → Option (Out (List D) × Pn)
  | some (.nx δ, p') => match (δ[0]? : Option (Option Sl)) with
    | some (some (Sl.mo c' xs)) => if c' = c ∧ xs.length = nf then some (.ok xs, p') else none
    | _ => none
  | some (.er k fs _, p') => some (.ex k fs, p')
  | _ => none
noncomputable def inM (c np n nf : Nat) (s : SX) : List D → M (List D) := fun ds p => if ds.length = np then inOf c nf (s (dsI c n ds) p) else none
theorem SlR.startO {S : Sg} {pen a dx : Addr} {c : Nat} {B G H : Hp} {x : Str} {N : List Str} {vs : List V} {ds : List D} (r : Reps S G pen vs ds) (hN : N.length = 1 + (vs.length + (N.length - 1 - vs.length))) (ha : H a = some (.ins (S.ca c) dx [])) (hg : G a = none) (hp : a ≠ pen) (hb : B a = some (.tbl #[.ref dx])) : SlR S pen B G H (L2.start N (.ref a :: vs)) (dsI c N.length ds) := by
  have hl := r.length
  have look : ∀ (i : Nat) s, (dsI c N.length ds)[i]? = some (some s) → (i = 0 ∧ s = .mo c []) ∨ ∃ k d, i = k + 1 ∧ s = .d d ∧ ds[k]? = some d ∧ k < ds.length := fun i s e => by
    cases i with
    | zero => exact .inl ⟨rfl, (Option.some.inj (Option.some.inj e)).symm⟩
    | succ i =>
      have e : (ds.map (fun d => some (Sl.d d)) ++ List.replicate (N.length - 1 - ds.length) none)[i]? = some (some s) := e
      by_cases hi : i < ds.length
      · rw [List.getElem?_append_left (by simpa using hi), List.getElem?_map] at e
        cases q : ds[i]? with
        | none => rw [q] at e; cases e
        | some d => rw [q] at e; exact .inr ⟨i, d, rfl, (Option.some.inj (Option.some.inj e)).symm, q, hi⟩
      · rw [List.getElem?_append_right (by simpa using hi), List.getElem?_replicate] at e
        split at e <;> cases e
  refine ⟨?_, fun i y e => ?_, fun i xs e => ?_, fun i xs e => ?_, fun i k xs e => ?_, fun i j s t l e1 e2 n1 n2 _ _ => ?_⟩
  · simp [L2.start, dsI, hl]; omega
  · rcases look i _ e with ⟨_, z⟩ | ⟨k, d, rfl, z, q, hi⟩
    · cases z
    · cases z
      obtain ⟨v, e1, rv⟩ := r.get q
      refine ⟨v, ?_, rv⟩
      unfold L2.start
      rw [List.getElem?_append_left (by simp [hl]; exact hi), List.getElem?_map, List.getElem?_cons_succ, e1]
      rfl
  · rcases look i _ e with ⟨_, z⟩ | ⟨k, d, _, z, _⟩ <;> cases z
  · rcases look i _ e with ⟨_, z⟩ | ⟨k, d, _, z, _⟩ <;> cases z
  · rcases look i _ e with ⟨rfl, z⟩ | ⟨k, d, _, z, _⟩
    · cases z
      exact ⟨a, dx, [], rfl, by simpa using ha, .nil, Nat.zero_le _, hg, hp, hb⟩
    · cases z
  · rcases look i _ e1 with ⟨rfl, _⟩ | ⟨k, d, _, z, _⟩
    · rcases look j _ e2 with ⟨rfl, _⟩ | ⟨k, d, _, z, _⟩
      · rfl
      · exact absurd z (n2 d)
    · exact absurd z (n1 d)
/-- THE RULE for an __init__ -/
theorem fn_okO {P : Program} {w : World} {K : PySem.W.Frag} {mg : Str → Option Value} {base : Heap} {x qual : Str} {st : Stmt} {f : Addr} {fd : FuncData} {N ps : List Str} {k c : Nat} {S : Sg} {body : SX} (F : FunG K x qual st f fd) (Sc : FnScope N ("self" :: ps) (defScope st)) (hN : Nat.ble (ps.length + 1) N.length = true)
    (hb : ∀ (cdv : Value) (A : Around) (outer : List Env) (s : Shared) (pen : Addr) (G0 B H : Hp) (E : XK), A.guards = some [] → Room k (A.deeper (envOfC qual (defScope st) s.heap.objs.size f cdv)) →
      PSs (cxOf (L2.CX P w) P w K mg base N qual (defScope st) f cdv A outer s H E) (defBody st) (tS ⟨S, pen, G0, B, fun c d _ H' => E c d H'⟩ body)) :
    FnG P w K mg base (k + 1) f fd ("self" :: ps) (spO S c (inM c ps.length N.length (S.nm c).length body)) := by
  have hN' := Nat.le_of_ble_eq_true hN
  refine fn_okR F Sc (fun vs H Q E h => ?_) fun cdv A outer s H vs Q E hcv hg hr h => ?_
  · obtain ⟨pen, G, p, a, dx, ws, ds, rfl, _, _, _, _, r, h⟩ := h
    dsimp only [inM] at h
    split at h
    · rename_i hl
      simp [r.length, hl]
    · exact h.elim
  · obtain ⟨pen, G, p, a, dx, ws, ds, rfl, ha, hga, hap, wd, r, h⟩ := h
    refine ⟨_, hb cdv A outer s pen G (mkH H a dx) H E hg hr, ?_⟩
    dsimp only [inM] at h
    split at h
    · rename_i hl
      have x0 : Ex pen G (mkH H a dx) G H := ⟨Sub.refl _, fun b o _ nt e => (mkH_some e nt).1, fun b e => none_mkH e (fun z => by rw [z, ha] at e; cases e), fun _ e _ => e⟩
      refine ⟨G, p, dsI c N.length ds, wd, x0, SlR.startO (x := x) r (show N.length = 1 + (ws.length + (N.length - 1 - ws.length)) by have := r.length; omega) ha hga hap mkH_same, ?_⟩
      rcases he : body (dsI c N.length ds) p with _ | ⟨o, p1⟩
      · rw [he] at h; exact h.elim
      · rw [he] at h
        cases o with
        | nx δ' =>
          intro σ' G' H' sb w' x' sl'
          dsimp only [inOf] at h
          split at h
          · rename_i c' xs e0
            split at h
            · rename_i hc
              obtain ⟨hc1, hc2⟩ := hc
              subst hc1
              obtain ⟨l, dx', vs, e1, e2, rv, hle, g1, g2, g3⟩ := sl'.mo 0 _ _ e0
              obtain ⟨rfl, rfl⟩ := mkH_mark g3
              refine h vs G' H' x' w' ?_ ?_ rv g1
              · rw [hc2, List.take_length] at e2; exact e2
              · rw [rv.length, hc2]
            · exact h.elim
          · exact h.elim
        | rt d => exact h.elim
        | bk δ' => exact h.elim
        | ct δ' => exact h.elim
        | er k fs δ' => exact fun d σ' G' H' _ w' x' sl' r' => h d G' H' x' w' r'
    · exact h.elim
/-! ### self.f = e -/
noncomputable def sPut (i c k : Nat) (e : EX) : SX := fun δ p => match (δ[i]? : Option (Option Sl)) with
  | some (some (Sl.mo c' xs)) => if c' = c ∧ xs.length = k then sBnd e (fun d δ p => some (.nx (δ.set i (some (.mo c (xs ++ [d])))), p)) δ p else none
  | _ => none
/-- what a class of plain objects must have -/
noncomputable def putB (K : PySem.W.Frag) (S : Sg) (c k : Nat) (f : Str) : Bool := clsB K (S.ca c) && (PySem.W.findIn K (.ref (S.ca c)) f == some none) && ((S.nm c)[k]? == some f) && nodB (S.nm c) && decide (k < 900)
theorem putF_new {f : Str} {y : V} : ∀ {l : List (Str × V)}, f ∉ l.map (·.1) → putF f y l = l ++ [(f, y)]
  | [], _ => rfl
  | (g, x) :: r, h => by
    simp only [List.map_cons, List.mem_cons, not_or] at h
    unfold putF
    rw [if_neg (Ne.symm h.1), putF_new h.2]
    rfl
theorem zip_put {f : Str} {y : V} {nm : List Str} {vs : List V} {k : Nat} (nd : nm.Nodup) (hk : nm[k]? = some f) (hl : vs.length = k) : putF f y ((nm.take k).zip vs) = (nm.take (k + 1)).zip (vs ++ [y]) := by
  have hlt : k < nm.length := (List.getElem?_eq_some_iff.mp hk).1
  have e1 : nm.take (k + 1) = nm.take k ++ [f] := by rw [List.take_succ, hk]; rfl
  have hkeys : ((nm.take k).zip vs).map (·.1) = nm.take k := zip_keys (by rw [List.length_take, hl]; omega)
  have hnot : f ∉ nm.take k := fun z => by
    have nd' : (nm.take (k + 1)).Nodup := List.Nodup.sublist (List.take_sublist _ _) nd
    rw [e1, List.nodup_append] at nd'
    exact nd'.2.2 f z f (by simp) rfl
  rw [putF_new (by rw [hkeys]; exact hnot), e1, List.zip_append (by rw [List.length_take, hl]; omega)]
  rfl
section
variable {X : Cx} {m : Am} {pos : Pos} {i : Nat} {x : Str} {j : Nat}
theorem SlR.setMo {S : Sg} {pen : Addr} {B G H : Hp} {σ : L2.St} {δ : DS} {l dx : Addr} {c : Nat} {vs : List V} {xs : List D} (sl : SlR S pen B G H σ δ) (h : H l = some (.ins (S.ca c) dx (((S.nm c).take xs.length).zip vs))) (r : Reps S G pen vs xs) (hx : xs.length ≤ (S.nm c).length) (hg : G l = none) (hp : l ≠ pen) (hb : B l = some (.tbl #[.ref dx]))
    (ne : ∀ (j : Nat) s, j ≠ i → δ[j]? = some (some s) → (∀ x, s ≠ .d x) → σ[j]? ≠ some (some (.ref l))) : SlR S pen B G H (σ.set i (some (.ref l))) (δ.set i (some (.mo c xs))) := by
  have same : ∀ (j : Nat), j ≠ i → (σ.set i (some (V.ref l)))[j]? = σ[j]? := fun j hj => List.getElem?_set_ne (Ne.symm hj)
  refine ⟨by simp [sl.len], fun j x e => ?_, fun j ys e => ?_, fun j ys e => ?_, fun j c ys e => ?_, fun j k s t a e1 e2 n1 n2 f1 f2 => ?_⟩
  · rcases set_old e with ⟨_, z, _⟩ | ⟨hj, e'⟩
    · cases z
    · rw [same j hj]; exact sl.val j x e'
  · rcases set_old e with ⟨_, z, _⟩ | ⟨hj, e'⟩
    · cases z
    · rw [same j hj]; exact sl.ml j ys e'
  · rcases set_old e with ⟨_, z, _⟩ | ⟨hj, e'⟩
    · cases z
    · rw [same j hj]; exact sl.md j ys e'
  · rcases set_old e with ⟨hj, z, hl⟩ | ⟨hj, e'⟩
    · cases z
      subst hj
      exact ⟨l, dx, vs, by rw [List.getElem?_set_self (by rw [sl.len]; exact hl)], h, r, hx, hg, hp, hb⟩
    · rw [same j hj]; exact sl.mo j c ys e'
  · rcases set_old e1 with ⟨hj, z, hl⟩ | ⟨hj, e1'⟩
    · rcases set_old e2 with ⟨hk, _, _⟩ | ⟨hk, e2'⟩
      · rw [hj, hk]
      · rw [hj, List.getElem?_set_self (by rw [sl.len]; exact hl)] at f1
        cases f1
        rw [same k hk] at f2
        exact absurd f2 (ne k t hk e2' n2)
    · rcases set_old e2 with ⟨hk, z, hl⟩ | ⟨hk, e2'⟩
      · rw [hk, List.getElem?_set_self (by rw [sl.len]; exact hl)] at f2
        cases f2
        rw [same j hj] at f1
        exact absurd f1 (ne j s hj e1' n1)
      · rw [same j hj] at f1
        rw [same k hk] at f2
        exact sl.inj j k s t a e1' e2' n1 n2 f1 f2
theorem ins_code {C dx : Addr} {fs : List (Str × V)} (c : Addr) (q : Str) : HO.ins C dx fs ≠ LamX.CodeO c q := by intro z; cases z
theorem ms_put {c k : Nat} {f : Str} {e : Expr} {ea : EX} {p1 p2 : Pos} (B : Bx X m j) (hv : varB X.N X.env.scope i x = true) (hf : putB m.S.K m.S c k f = true) (he : PE X e (tE m ea)) (hs : swapsWith e (some (.Attribute (.Name x p1) f p2)) pos.line X.env = pure false := by rfl) :
    PS X (.Assign [.Attribute (.Name x p1) f p2] e pos) (tS m (sPut i c k ea)) := by
  unfold varB at hv
  simp only [Bool.and_eq_true] at hv
  have q := nmB_of hv.2
  unfold putB at hf
  simp only [Bool.and_eq_true, beq_iff_eq, decide_eq_true_eq] at hf
  obtain ⟨⟨⟨⟨f1, f2⟩, f3⟩, f4⟩, f5⟩ := hf
  refine PS.imp (ps_fld (pe_var (ixB_of hv.1.1) (visB_of hv.1.2) q.1 q.2.1) he hs) fun K σ H h => ?_
  obtain ⟨G, p, δ, w, x, sl, h⟩ := h
  dsimp only [sPut] at h
  split at h
  · rename_i c' xs ei
    split at h
    · rename_i hc
      obtain ⟨hc1, hc2⟩ := hc
      subst hc1
      obtain ⟨l, dx, vs, e1, e2, r, hle, e4, e6, e5⟩ := sl.mo i _ xs ei
      refine (tS_step (R := m.rE) w x sl h).imp fun v H1 ⟨d, G1, p1, w1, x1, rv, q⟩ => ?_
      have hl : H1 l = some _ := x1.keep l _ e6 (by intro _ z; cases z) e2
      have gl : G1 l = none := x1.un l e4 (by rw [e2]; simp)
      have r1 := r.mono x1.sub
      have lv : vs.length = k := by rw [r.length]; exact hc2
      refine ⟨.ref l, e1, l, _, dx, _, rfl, hl, by rw [B.hK]; exact clsB_of f1, by rw [B.hK]; exact f2, by rw [List.length_zip, lv]; omega, ?_⟩
      rw [hc2, zip_put (nodB_of f4) f3 lv]
      have w2 : Wd m.S m.pen G1 (upd H1 l (.ins (m.S.ca c') dx (((m.S.nm c').take (k + 1)).zip (vs ++ [v])))) p1 := w1.writeM hl (by intro _ z; cases z) (fun c q => ins_code c q) gl e6
      have x02 : Ex m.pen m.G0 m.B G1 (upd H1 l (.ins (m.S.ca c') dx (((m.S.nm c').take (k + 1)).zip (vs ++ [v])))) := by
        have x01 := x.trans x1
        refine ⟨x01.sub, fun b o hb ht e => ?_, fun b e => ?_, x01.un⟩
        · have : b ≠ l := fun z => by rw [z, e5] at e; cases e; exact ht _ rfl
          rw [upd_ne this]; exact x01.keep b o hb ht e
        · by_cases z : b = l
          · rw [z, upd_same] at e; cases e
          · rw [upd_ne z] at e; exact x01.dom b e
      have s1 := sl.ex x1
      have hlt : k < (m.S.nm c').length := (List.getElem?_eq_some_iff.mp f3).1
      have s2 := (s1.other (o := .ins (m.S.ca c') dx (((m.S.nm c').take (k + 1)).zip (vs ++ [v]))) ei (by intro _ z; cases z) e1).setMo (i := i) (l := l) (dx := dx) (c := c') (vs := vs ++ [v]) (xs := xs ++ [d]) (by rw [upd_same, List.length_append, hc2]; rfl) (r1.append (.cons rv .nil)) (by rw [List.length_append, hc2]; exact hlt) gl e6 e5 fun j s hj e n z => by
        rcases set_old e with ⟨_, q, _⟩ | ⟨hj', e'⟩
        · cases q
        · exact hj (s1.inj j i s _ l e' ei n (by intro _ z; cases z) z e1)
      rw [set_same, set_id e1] at s2
      exact q σ G1 _ (Sub.refl _) w2 x02 s2
    · exact h.elim
  · exact h.elim
end
end ME

/-! C(..): an own class called. -/
namespace ME
open PySem PySem.Spec PyProof.Rows L2

noncomputable def mNew (c : Nat) (f : List D → M (List D)) (n k : Nat) (dd : List D) (l : List Src) (a b : AX) : EX := fun δ => (a δ).bnd fun x => (b δ).bnd fun y => if x.length = n ∧ y.length = k then (f (pick x dd y l)).bnd fun fs => M.ret (.obj c fs) else M.stuck
/-- the class number c of the name x, called with n values and the keywords ks -/
noncomputable def NewT (P : Program) (w : World) (K : PySem.W.Frag) (mg : Str → Option Value) (base : Heap) (S : Sg) (k c : Nat) (x : Str) (n : Nat) (ks : List Str) (dd : List D) (l : List Src) (f : List D → M (List D)) : Prop :=
  ∃ fI fd ps dvs, Mk K (S.ca c) fI ∧ FnG P w K mg base k fI fd ("self" :: ps) (spO S c f) ∧ mg x = some (.ref (S.ca c)) ∧ Bd K fd ("self" :: ps) (n + 1) ks dvs (.p 0 :: l.map Src.up) ∧ ∀ G pen, Reps S G pen dvs dd
section
variable {X : Cx} {m : Am} {j k n c : Nat} {es : List Expr} {kws : List Keyword} {ks : List Str} {ra rk : AX} {pos p : Pos} {x : Str} {dd : List D} {l : List Src}
theorem guards_make {A : Around} {C : Addr} {us : List Value} {kw : List (Str × Value)} (h : A.guards = some []) : (A.under (.builtin "type.__call__" ⟨.ref C :: us, kw⟩)).guards = some [] := by
  simp only [Around.under, h]
  rfl
theorem new_run {mf : List D → M (List D)} {pins : List (Addr × Obj)} {s : Shared} {σ : L2.St} {H : Hp} {Q : VK} (B : Bx X m j) (T : NewT X.prog X.w X.K X.mg X.base m.S k c x n ks dd l mf) (hk : Nat.ble (k + 1) j = true) (ha : PAK X es kws n ks (tAK m n ks.length ra rk))
    (I : Inv X pins σ H s) (h : tE m (mNew c mf n ks.length dd l ra rk) σ H Q) : wpAny (model X.prog X.w) X.A (callWith pos (.ref (m.S.ca c)) [] (backTo pos (starEach es X.env)) (backToKw pos (keywordEach kws X.env))) (EP X pins σ Q) X.xe s := by
  obtain ⟨fI, fd, ps, dvs, MK, F, hm, hb, hdd⟩ := T
  refine ha.run pos (.ref (m.S.ca c)) [] pins s σ H _ _ MK.kp I (tAK_gen h) fun us ws s2 vs zs H2 I2 r rz l1 l2 ⟨G, p, δ, ds, es, w, sl, r1, r2, h5⟩ => ?_
  show wpAny _ _ (call (.ref (m.S.ca c)) us (ks.zip ws)) _ _ _
  obtain ⟨its, vd, bd⟩ := hb.ex
  have hr := B.hr.mono (Nat.le_of_ble_eq_true hk)
  have I3 := Inv.made (C := m.S.ca c) I2
  obtain ⟨a, ea⟩ : ∃ a, a = s2.heap.objs.size + 1 := ⟨_, rfl⟩
  obtain ⟨dx, ed⟩ : ∃ dx, dx = s2.heap.objs.size := ⟨_, rfl⟩
  have na : H2 a = none := by rw [ea]; exact I2.hok.fresh (Nat.le_succ _)
  have nd : H2 dx = none := by rw [ed]; exact I2.hok.fresh (Nat.le_refl _)
  have hne : dx ≠ a := by rw [ea, ed]; exact Nat.ne_of_lt (Nat.lt_succ_self _)
  rw [← ea, ← ed] at I3
  have nda : upd H2 dx (.own a) a = none := by rw [upd_ne (Ne.symm hne)]; exact na
  have w1 : Wd m.S m.pen G (upd H2 dx (.own a)) p := w.allocM nd
  have w2 : Wd m.S m.pen G (upd (upd H2 dx (.own a)) a (.ins (m.S.ca c) dx [])) p := w1.allocM nda
  have rp := reps_pick r1 (hdd G m.pen) r2 l
  have e1 : pick (V.ref a :: vs) dvs zs (.p 0 :: l.map Src.up) = V.ref a :: pick vs dvs zs l := pick_self _ _ _ _ _
  have e2 : pick (Value.ref a :: us) its ws (.p 0 :: l.map Src.up) = Value.ref a :: pick us its ws l := pick_self _ _ _ _ _
  have sp : spO m.S c mf (V.ref a :: pick vs dvs zs l) (upd (upd H2 dx (.own a)) a (.ins (m.S.ca c) dx [])) (fun v H3 => v = .non ∧ Q (.ref a) H3) (WE m.W σ) := by
    refine ⟨m.pen, G, p, a, dx, _, pick ds dd es l, rfl, upd_same, w1.gfree nda, w1.ne nda, w2, rp, ?_⟩
    dsimp only [M.bnd] at h5
    rcases he : mf (pick ds dd es l) p with _ | ⟨o, p1⟩
    · rw [he] at h5; exact h5
    · rw [he] at h5
      have x1 : Ex m.pen G H2 G (upd H2 dx (.own a)) := Ex.allocM nd
      have lift : ∀ {G' H' : Hp}, Ex m.pen G (mkH (upd (upd H2 dx (.own a)) a (.ins (m.S.ca c) dx [])) a dx) G' H' → (∀ b, b ≠ m.pen → b ≠ a → (∀ o, upd H2 dx (.own a) b = some o → (∀ x, o ≠ .tbl x) → H' b = some o)) ∧ (∀ b, H' b = none → H2 b = none) ∧ (∀ b, G b = none → H2 b ≠ none → G' b = none) := fun {G' H'} x' => by
        refine ⟨fun b hb hba o e nt => x'.keep b o hb nt (some_mkH (by rw [upd_ne hba]; exact e) nt hba), fun b e => ?_, fun b e n => x'.un b e fun z => ?_⟩
        · have z := mkH_none (x'.dom b e)
          rw [upd_ne z.2] at z
          by_cases q : b = dx
          · rw [q, upd_same] at z; cases z.1
          · rw [upd_ne q] at z; exact z.1
        · have z := mkH_none z
          rw [upd_ne z.2] at z
          by_cases q : b = dx
          · rw [q, upd_same] at z; cases z.1
          · rw [upd_ne q] at z; exact n z.1
      have full : ∀ {G' H' : Hp}, Ex m.pen G (mkH (upd (upd H2 dx (.own a)) a (.ins (m.S.ca c) dx [])) a dx) G' H' → Ex m.pen G H2 G' H' := fun {G' H'} x' => by
        obtain ⟨k1, k2, k3⟩ := lift x'
        refine ⟨x'.sub, fun b o hb nt e => ?_, k2, k3⟩
        have hba : b ≠ a := fun z => by rw [z, na] at e; cases e
        have hbd : b ≠ dx := fun z => by rw [z, nd] at e; cases e
        exact k1 b hb hba o (by rw [upd_ne hbd]; exact e) nt
      cases o with
      | ex k fs => exact fun d G' H' x' w' rx => h5 d G' H' (full x') w' rx
      | ok fs =>
        intro vs' G' H' x' w' ha' hl' r' g'
        refine ⟨rfl, ?_⟩
        have fx := full x'
        have nap : a ≠ m.pen := w1.ne nda
        refine h5 (.ref a) (upd G' a (.ins (m.S.ca c) dx ((m.S.nm c).zip vs'))) H' ⟨fx.sub.trans (Sub.alloc g'), fx.keep, fx.dom, fun b e n => ?_⟩ (w'.freeze ha' g' nap) (.obj upd_same hl' (r'.mono (Sub.alloc g')))
        have : b ≠ a := fun z => n (by rw [z]; exact na)
        rw [upd_ne this]; exact fx.un b e n
  have bt := bd { s2 with heap := (s2.heap.push PySem.W.emptyDict).push (PySem.W.instObj (m.S.ca c) dx) } (Value.ref a :: us) ws I3.kIn (by rw [List.length_cons, l1]) l2
  rw [e2] at bt
  have rv : Vals (V.ref a :: pick vs dvs zs l) (Value.ref a :: pick us its ws l) := .cons rfl (vals_pick r vd rz l)
  refine wpAny_call (make_map (f := fI) I2.kIn MK.makes MK.init (beq_iff_eq.mp MK.fn) ?_)
  rw [← ea, ← ed]
  refine codeAny_mono (F.run _ X.stack _ _ ⟨Value.ref a :: us, ks.zip ws⟩ (Value.ref a :: pick us its ws l) _ _ (WE m.W σ) (guards_make B.hq) (hr.make _ us (ks.zip ws)) (I3.env0.make _ us (ks.zip ws)) bt rv sp) fun r s' hq' => ?_
  cases r with
  | error e => exact passAt B.tk σ pins _ _ e s' I3 hq'
  | ok fl =>
    cases fl with
    | ret u =>
      obtain ⟨v, H', I4, rv', ev, q3⟩ := I3.after hq'
      subst ev
      exact ⟨rv', ⟨V.ref a, H', I4, rfl, q3⟩⟩
    | next => exact False.elim hq'
    | brk => exact False.elim hq'
    | cont => exact False.elim hq'
theorem me_new {mf : List D → M (List D)} (B : Bx X m j) (T : NewT X.prog X.w X.K X.mg X.base m.S k c x n ks dd l mf) (hk : Nat.ble (k + 1) j = true) (hg : gloB X.env.scope x = true) (hx : nmB x = true) (ha : PAK X es kws n ks (tAK m n ks.length ra rk)) :
    PE X (.Call (.Name x p) es kws pos) (tE m (mNew c mf n ks.length dd l ra rk)) := by
  refine ⟨fun pins s σ H Q I h => ?_⟩
  have hm : X.mg x = some (.ref (m.S.ca c)) := by
    obtain ⟨fI, fd, ps, dvs, MK, F, hm, hb, hdd⟩ := T
    exact hm
  exact wpAny_Call_Name_kw (ld_glob I (gl_of hg) hm (new_run B T hk ha I h) (nmB_of hx).1)
/-- x(..), x a local name that holds the class number c -/
noncomputable def mNewV (i c : Nat) (e : EX) : EX := fun δ p => match (δ[i]? : Option (Option Sl)) with
  | some (some (Sl.d (.cls c'))) => if c' = c then e δ p else none
  | _ => none
end
end ME

/-! o.m(..), constants of a class. -/
namespace ME
open PySem PySem.Spec PyProof.Rows L2

section
variable {X : Cx} {m : Am} {j k n c : Nat} {o : Expr} {es : List Expr} {kws : List Keyword} {ks : List Str} {ra rk : AX} {pos apos : Pos} {x : Str} {eo : EX}
theorem tAK_genR {α0 β0 α β : Type} {R0 : Rl β0 α0} {R : Rl β α} {b : β0} {j : Nat} {g : α0 → List D → List D → M α} {σ : L2.St} {H : Hp} {Q : β → Hp → Prop} (hm : R0.Mono) (h : tY m R0 R b (fun a0 δ => (ra δ).bnd fun x => (rk δ).bnd fun y => if x.length = n ∧ y.length = j then g a0 x y else M.stuck) σ H Q) :
    tAK m n j ra rk σ H (fun vs zs H1 => ∃ G p δ a0 ds es, Wd m.S m.pen G H1 p ∧ SlR m.S m.pen m.B G H1 σ δ ∧ R0 G b a0 ∧ Reps m.S G m.pen vs ds ∧ Reps m.S G m.pen zs es ∧ Post m.S m.pen R G H1 Q (fun c d H' => m.W c d σ H') (g a0 ds es p)) := by
  have h' : tY m R0 R b (fun a0 δ => ((ra δ).bnd fun x => (rk δ).bnd fun y => if x.length = n ∧ y.length = j then M.ret (x, y) else M.stuck).bnd fun z => g a0 z.1 z.2) σ H Q := by
    obtain ⟨G, p, δ, u, w, sl, r, h⟩ := h
    refine ⟨G, p, δ, u, w, sl, r, ?_⟩
    have e : (((ra δ).bnd fun x => (rk δ).bnd fun y => if x.length = n ∧ y.length = j then M.ret (x, y) else M.stuck).bnd fun z => g u z.1 z.2) = (ra δ).bnd fun x => (rk δ).bnd fun y => if x.length = n ∧ y.length = j then g u x y else M.stuck := by
      rw [M.assoc]
      congr 1; funext x
      rw [M.assoc]
      congr 1; funext y
      split <;> rfl
    dsimp only at h ⊢
    rw [e]; exact h
  refine (tY_bind (R1 := rP m.rA m.rA) hm h').imp fun v H1 h2 => ?_
  obtain ⟨G, p, δ, ⟨a0, ds, es⟩, w, sl, ⟨r0, r1, r2⟩, h5⟩ := h2
  exact ⟨G, p, δ, a0, ds, es, w, sl, r0, r1, r2, h5⟩
/-- what a call of the method does, by the receiver's class -/
noncomputable abbrev MTab := List (Nat × (List D × List Src × (List D → M D)))
noncomputable def mMth (tbl : MTab) (n k : Nat) (eo : EX) (a b : AX) : EX := fun δ => (eo δ).bnd fun d => match d with
  | .obj c fs => match tbl.lookup c with
    | some q => (a δ).bnd fun x => (b δ).bnd fun y => if x.length = n ∧ y.length = k then q.2.2 (.obj c fs :: pick x q.1 y q.2.1) else M.stuck
    | none => M.stuck
  | _ => M.stuck
noncomputable def MthT (P : Program) (w : World) (K : PySem.W.Frag) (mg : Str → Option Value) (base : Heap) (S : Sg) (k c : Nat) (x : Str) (n : Nat) (ks : List Str) (q : List D × List Src × (List D → M D)) : Prop :=
  ∃ f fd ps dvs, FnG P w K mg base k f fd ps (spM S q.2.2) ∧ Meth K (S.ca c) x f ∧ Cls K (S.ca c) ∧ (S.nm c).contains x = false ∧ Bd K fd ps (n + 1) ks dvs (.p 0 :: q.2.1.map Src.up) ∧ ∀ G pen, Reps S G pen dvs q.1
theorem zip_none {α β : Type} [BEq α] [LawfulBEq α] {k : α} : ∀ {a : List α} {b : List β}, a.contains k = false → (a.zip b).lookup k = none
  | [], _, _ => by simp
  | _ :: _, [], _ => by simp
  | x :: a, y :: b, h => by
    simp only [List.contains_cons, Bool.or_eq_false_iff] at h
    rw [List.zip_cons_cons, List.lookup_cons, h.1]
    exact zip_none h.2
theorem me_mth {tbl : MTab} {pl : Sem Bool} (B : Bx X m j) (T : ∀ c q, tbl.lookup c = some q → MthT X.prog X.w X.K X.mg X.base m.S k c x n ks q) (hk : Nat.ble k j = true) (he : PE X o (tE m eo)) (ha : PAK X es kws n ks (tAK m n ks.length ra rk))
    (ht : eval (.Call (.Attribute o x apos) es kws pos) X.env = (do
      let ov ← eval o X.env
      standAt apos.atName
      let (f, first) ← holding [ov] (getMethod ov x pl)
      callWith pos f first (backTo pos (starEach es X.env)) (backToKw pos (keywordEach kws X.env))) := by rfl) :
    PE X (.Call (.Attribute o x apos) es kws pos) (tE m (mMth tbl n ks.length eo ra rk)) := by
  refine ⟨fun pins s σ H Q I h => ?_⟩
  refine PySem.W.methodCall_KW (pl := pl) (thn (he.run pins s σ H _ I (tY_bind (R1 := m.rE) r0_mono h)) fun u s1 ⟨v, H1, I1, rx, h2⟩ => ?_) ht
  obtain ⟨G, p, δ, ⟨_, d⟩, w, sl, ⟨_, r⟩, h3⟩ := h2
  have r : Rep m.S G m.pen v d := r
  cases r with
  | @obj a dx c vs ds ha' hl rr =>
    dsimp only at h3
    cases e : tbl.lookup c with
    | none => rw [e] at h3; exact h3.elim
    | some q =>
      rw [e] at h3
      obtain ⟨f, fd, ps, dvs, F, hm, hc, hno, hb, hdd⟩ := T c q e
      obtain rfl : u = Value.ref a := rx
      have hc' : Cls X.K (m.S.ca c) := hc
      refine getmeth_ok I1 (w.sub _ _ ha') hc' hm (zip_none hno) ?_
      have h4 : tY m (fun G (b : Unit) (a0 : Unit) => Rep m.S G m.pen (.ref a) (.obj c ds)) m.rE () (fun _ δ => (ra δ).bnd fun x => (rk δ).bnd fun y => if x.length = n ∧ y.length = ks.length then q.2.2 (.obj c ds :: pick x q.1 y q.2.1) else M.stuck) σ H1 Q := ⟨G, p, δ, (), w, sl, .obj ha' hl rr, h3⟩
      refine ha.run pos (.ref f) [.ref a] pins s1 σ H1 _ _ hm.kp I1 (tAK_genR (fun G G' _ _ s h => Rep.mono s h) h4) fun us ws s2 vs' zs H2 I2 r' rz l1 l2 ⟨G2, p2, δ2, _, ds', es', w2, sl2, r0, r1, r2, h5⟩ => ?_
      obtain ⟨its, vd, bd⟩ := hb.ex
      have e1 : pick (V.ref a :: vs') dvs zs (.p 0 :: q.2.1.map Src.up) = V.ref a :: pick vs' dvs zs q.2.1 := pick_self _ _ _ _ _
      have e2 : pick (Value.ref a :: us) its ws (.p 0 :: q.2.1.map Src.up) = Value.ref a :: pick us its ws q.2.1 := pick_self _ _ _ _ _
      have bt := bd s2 (Value.ref a :: us) ws I2.kIn (by rw [List.length_cons, l1]) l2
      rw [e2] at bt
      have sp : spM m.S q.2.2 (V.ref a :: pick vs' dvs zs q.2.1) H2 Q (WE m.W σ) := ⟨m.pen, G2, p2, _, w2, .cons r0 (reps_pick r1 (hdd G2 m.pen) r2 q.2.1), h5⟩
      refine wpAny_call (codeAny_mono ((F.mono (Nat.le_of_ble_eq_true hk)).run X.A X.stack s2 H2 ⟨Value.ref a :: us, ks.zip ws⟩ (Value.ref a :: pick us its ws q.2.1) (V.ref a :: pick vs' dvs zs q.2.1) Q (WE m.W σ) B.hq B.hr I2.env0 bt (.cons rfl (vals_pick r' vd rz q.2.1)) sp) fun r s' hq => ?_)
      cases r with
      | error e => exact passAt B.tk σ pins H2 s2 e s' I2 hq
      | ok fl =>
        cases fl with
        | ret u => exact I2.after hq
        | next => exact False.elim hq
        | brk => exact False.elim hq
        | cont => exact False.elim hq
  | _ => exact h3.elim
/-! ### a constant of the class: of an instance, of the instance that is being made, of the class itself -/
/-- o.f by o's class -/
noncomputable def mCon (tbl : List (Nat × Cn)) (eo : EX) : EX := fun δ => (eo δ).bnd fun d => match d with
  | .obj c _ => match tbl.lookup c with
    | some z => M.ret z.d
    | none => M.stuck
  | _ => M.stuck
noncomputable def mConS (i c : Nat) (z : Cn) : EX := fun δ p => match (δ[i]? : Option (Option Sl)) with
  | some (some (Sl.mo c' _)) => if c' = c then some (.ok z.d, p) else none
  | _ => none
noncomputable def conB (K : PySem.W.Frag) (S : Sg) (c : Nat) (f : Str) (z : Cn) : Bool := clsB K (S.ca c) && !(S.nm c).contains f && !PySem.W.copiedNames.contains f && (match PySem.W.findIn K (.ref (S.ca c)) f with
  | some (some u) => cnIs z u && (PySem.W.specialIn K u "__get__" == some none)
  | _ => false)
noncomputable def Cn.v : Cn → V
  | .i z => .int z
  | .s z => .str z
end
end ME

/-! Operators by own defs of a class. -/
namespace ME
open PySem PySem.Spec PyProof.Rows L2

section
variable {X : Cx} {m : Am} {j k : Nat}
theorem insInst {pins : List (Addr × Obj)} {s : Shared} {σ : L2.St} {H : Hp} {a C dx : Addr} {fs : List (Str × V)} (I : Inv X pins σ H s) (h : H a = some (.ins C dx fs)) : ∃ od, PySem.W.InstAt s.heap a (PySem.W.instObj C dx) C (some od) := by
  obtain ⟨mA, O, _⟩ := ins_get I.hok h
  obtain ⟨od, ho, _⟩ := lookIn_ns O.ns
  exact ⟨od, O.obj, rfl, rfl, ho⟩
/-- the type of a datum: an own class or a built-in -/
noncomputable def tbOf (S : Sg) : D → Option Value
  | .obj c _ => some (.ref (S.ca c))
  | d => (tyName d).map .type
theorem looks_tb {pins : List (Addr × Obj)} {s : Shared} {σ : L2.St} {G H : Hp} {p : Pn} {v : V} {u : Value} {d : D} {tb : Value} (hK : X.K = m.S.K) (I : Inv X pins σ H s) (w : Wd m.S m.pen G H p) (r : Rep m.S G m.pen v d) (rv : RelV v u) (e : tbOf m.S d = some tb) : PySem.W.Looks (model X.prog X.w) s.heap (typeOf u) tb := by
  have gen : ∀ a, tyName d = some a → tb = .type a → PySem.W.Looks (model X.prog X.w) s.heap (typeOf u) tb := fun a ha et => by
    subst et
    have t := tyX_of (m := m) w r ha
    rw [← hK] at t
    obtain ⟨P, kx, hp, _⟩ := kit_of I rv t
    exact kx.ty _ _ I.kIn hp
  have rest : (∀ c fs, d ≠ .obj c fs) → PySem.W.Looks (model X.prog X.w) s.heap (typeOf u) tb := fun hn => by
    have e' : (tyName d).map Value.type = some tb := by
      cases d <;> first | exact e | exact absurd rfl (hn _ _)
    cases q : tyName d with
    | none => rw [q] at e'; cases e'
    | some a => rw [q] at e'; cases e'; exact gen a q rfl
  cases r with
  | @obj a dx c vs ds ha hl rr =>
    cases e
    obtain ⟨od, J⟩ := insInst I (w.sub _ _ ha)
    cases (show u = Value.ref a from rv)
    exact J.type
  | _ => exact rest (by intro _ _ z; cases z)
/-! ### x op y, x of an own class -/
/-- the def of the class for the name nm computes mf -/
noncomputable def OwnT (P : Program) (w : World) (K : PySem.W.Frag) (mg : Str → Option Value) (base : Heap) (S : Sg) (k c : Nat) (nm : Str) (n : Nat) (mf : List D → M D) : Prop :=
  ∃ f fd ps, FnG P w K mg base k f fd ps (spM S mf) ∧ PySem.W.findIn K (.ref (S.ca c)) nm = some (some (.ref f)) ∧ PySem.W.isFn K (.ref f) = true ∧ Bd K fd ps n [] [] ((List.range n).map .p)
noncomputable def rOwnC (m : Am) (K : PySem.W.Frag) (c : Nat) (mf : List D → M D) : R2 := fun x y H Q => ∃ a dx fs G p ds dy tb, x = .ref a ∧ H a = some (.ins (m.S.ca c) dx fs) ∧ Wd m.S m.pen G H p ∧ Rep m.S G m.pen x (.obj c ds) ∧ Rep m.S G m.pen y dy ∧ tbOf m.S dy = some tb ∧ PySem.W.notFirst K (m.S.ca c) tb = true ∧
  Post m.S m.pen (fun G v d => Rep m.S G m.pen v d) G H Q (fun _ _ _ => False) (mf [.obj c ds, dy] p)
theorem op_ownC {op : CmpOp} {c : Nat} {mf : List D → M D} (hop : ∀ a b, compareOp op a b = richCompare op a b) (B : Bx X m j) (T : OwnT X.prog X.w X.K X.mg X.base m.S k c (cmpInfo op).2.1 2 mf) (hk : Nat.ble k j = true) : OpR X (compareOp op) (rOwnC m X.K c mf) := by
  intro pins s σ H x y v u Q I rx ry h
  obtain ⟨f, fd, ps, F, hs, hf, hb⟩ := T
  obtain ⟨a, dx, fs, G, p, ds, dy, tb, rfl, ha, w, r1, r2, et, hn, h5⟩ := h
  cases (show v = Value.ref a from rx)
  obtain ⟨od, J⟩ := insInst I ha
  obtain ⟨m', hF⟩ := I.fr
  rw [hop]
  refine PySem.W.cmp_K (op := op) (tb := tb) B.hr.units0 hF I.ok.mod.kin J (looks_tb B.hK I w r2 ry et) hn hs hf ?_
  obtain ⟨its, vd, bd⟩ := hb.ex
  cases vd
  have bt := bd s [.ref a, u] [] I.kIn rfl rfl
  have sp : spM m.S mf [.ref a, y] H Q (fun _ _ _ => False) := ⟨m.pen, G, p, _, w, .cons r1 (.cons r2 .nil), h5⟩
  refine wpAny_mono (wpAny_call (codeAny_mono ((F.mono (Nat.le_of_ble_eq_true hk)).run X.A X.stack s H ⟨[.ref a, u], []⟩ [.ref a, u] [.ref a, y] Q (fun _ _ _ => False) B.hq B.hr I.env0 bt (.cons rfl (.cons ry .nil)) sp) (R' := fun r s' => match r with | .ok (.ret v) => EP X pins σ Q v s' | .ok _ => False | .error e => X.xe e s') fun r s' hq => ?_)) (fun w s' z => ?_) fun _ _ x => x
  · cases r with
    | error e => exact B.pf pins σ H s e s' I hq
    | ok fl =>
      cases fl with
      | ret u => exact I.after hq
      | next => exact False.elim hq
      | brk => exact False.elim hq
      | cont => exact False.elim hq
  · obtain ⟨z', H', I', rz, qz⟩ := z
    exact SlX.cmpback rz ⟨z', H', I', rz, qz⟩
noncomputable abbrev OTab := List (Nat × (List D → M D))
theorem op_ownT {op : CmpOp} {tbl : OTab} (hop : ∀ a b, compareOp op a b = richCompare op a b) (B : Bx X m j) (T : ∀ c mf, tbl.lookup c = some mf → OwnT X.prog X.w X.K X.mg X.base m.S k c (cmpInfo op).2.1 2 mf) (hk : Nat.ble k j = true) : OpR X (compareOp op) (fun x y H Q => ∃ c mf, tbl.lookup c = some mf ∧ rOwnC m X.K c mf x y H Q) := by
  intro pins s σ H x y v u Q I rx ry h
  obtain ⟨c, mf, e, h⟩ := h
  exact op_ownC hop B (T c mf e) hk pins s σ H x y v u Q I rx ry h
/-- x op y by the class of x; os: the classes that y may have -/
noncomputable def dOwnC (tbl : OTab) (os : List Nat) (o : D → D → M D) : D → D → M D
  | .obj c fs, y => match tbl.lookup c with
    | some mf => match y with
      | .obj c' gs => if os.contains c' then (mf [.obj c fs, .obj c' gs]).calm else M.stuck
      | y => match tyName y with
        | some _ => (mf [.obj c fs, y]).calm
        | none => M.stuck
    | none => M.stuck
  | x, y => o x y
noncomputable def nfB (K : PySem.W.Frag) (S : Sg) (cs os : List Nat) : Bool := cs.all fun c => (tyNames.all fun a => PySem.W.notFirst K (S.ca c) (.type a)) && os.all fun c' => PySem.W.notFirst K (S.ca c) (.ref (S.ca c'))
theorem post_calm {α β : Type} {S : Sg} {pen : Addr} {R : Rl β α} {G H : Hp} {Q : β → Hp → Prop} {E E' : XK} {f : M α} {p : Pn} (h : Post S pen R G H Q E (f.calm p)) : Post S pen R G H Q E' (f p) := by
  unfold M.calm at h
  rcases e : f p with _ | ⟨o, p1⟩
  · rw [e] at h; exact h
  · rw [e] at h
    cases o with
    | ok a => exact h
    | ex c fs => exact h.elim
theorem r_ownC {tbl : OTab} {cs os : List Nat} {o : D → D → M D} {r : R2} (hK : X.K = m.S.K) (hr : R2Ok m r o) (hcs : cs = tbl.map (·.1)) (nf : nfB m.S.K m.S cs os = true) : R2Ok m (fun x y H Q => r x y H Q ∨ ∃ c mf, tbl.lookup c = some mf ∧ rOwnC m X.K c mf x y H Q) (dOwnC tbl os o) := by
  rintro σ x y H Q ⟨G, p, δ, ⟨⟨u, dx⟩, dy⟩, w, sl, ⟨⟨_, rx⟩, ry⟩, h⟩
  have rx : Rep m.S G m.pen x dx := rx
  have ry : Rep m.S G m.pen y dy := ry
  by_cases ho : ∃ c fs, dx = .obj c fs
  · obtain ⟨c, fs, rfl⟩ := ho
    right
    dsimp only [dOwnC] at h
    cases e : tbl.lookup c with
    | none => rw [e] at h; exact h.elim
    | some mf =>
      rw [e] at h
      dsimp only at h
      unfold nfB at nf
      have nfc := List.all_eq_true.mp nf c (by rw [hcs]; exact List.mem_map.mpr ⟨_, mem_of_lookup e, rfl⟩)
      simp only [Bool.and_eq_true, List.all_eq_true] at nfc
      refine ⟨c, mf, e, ?_⟩
      cases id rx with
      | @obj a dxx _ vs ds ha hl rr =>
        by_cases hy : ∃ c' gs, dy = .obj c' gs
        · obtain ⟨c', gs, rfl⟩ := hy
          dsimp only at h
          split at h
          · rename_i hz
            refine ⟨a, dxx, _, G, p, fs, _, _, rfl, w.sub _ _ ha, w, rx, ry, rfl, by rw [hK]; exact nfc.2 c' (by simpa using hz), post_calm h⟩
          · exact h.elim
        · have h' : Post m.S m.pen m.rE G H Q (fun c d H' => m.W c d σ H') ((match tyName dy with | some _ => (mf [.obj c fs, dy]).calm | none => M.stuck) p) := by
            cases dy <;> first | exact h | exact absurd ⟨_, _, rfl⟩ hy
          cases q : tyName dy with
          | none => rw [q] at h'; exact h'.elim
          | some t =>
            rw [q] at h'
            have et : tbOf m.S dy = some (.type t) := by
              cases dy <;> first | exact absurd ⟨_, _, rfl⟩ hy | (simp only [tbOf, q, Option.map_some])
            exact ⟨a, dxx, _, G, p, fs, dy, _, rfl, w.sub _ _ ha, w, rx, ry, et, by rw [hK]; exact nfc.1 t (tyName_in q), post_calm h'⟩
  · left
    refine hr σ x y H Q ⟨G, p, δ, ⟨⟨u, dx⟩, dy⟩, w, sl, ⟨⟨trivial, rx⟩, ry⟩, ?_⟩
    have e : dOwnC tbl os o dx dy = o dx dy := by
      cases dx <;> first | rfl | exact absurd ⟨_, _, rfl⟩ ho
    dsimp only at h ⊢
    rw [e] at h
    exact h
theorem c_eqO {tbl : OTab} {cs os : List Nat} (B : Bx X m j) (T : ∀ c mf, tbl.lookup c = some mf → OwnT X.prog X.w X.K X.mg X.base m.S k c "__eq__" 2 mf) (hk : Nat.ble k j = true) (hcs : cs = tbl.map (·.1)) (nf : nfB m.S.K m.S cs os = true) : CmpT X m .Eq (dOwnC tbl os (dEq false)) := by
  obtain ⟨r, h1, h2⟩ := (c_eq (X := X) (m := m) B).ex
  exact ⟨_, OpR.or h1 (op_ownT (op := .Eq) (fun _ _ => rfl) B T hk), r_ownC B.hK h2 hcs nf⟩
end
end ME

/-! x != y where the class of x has an own __eq__ and no __ne__. -/
namespace PySem
namespace MeNe
open PySem.W PySem.Calls PySem.Spec
section
variable {prog : Program} {w : World} {A : Around} {E : Value → Shared → Prop} {s : Shared} {K : Frag} {x C f : Addr} {ox : Obj} {od : Option Obj} {b tb : Value}
theorem check_ne {Q : Unit → Shared → Prop} (X : K.In s.heap) (I : InstAt s.heap x ox C od) (hob : subIn K (.ref C) (.type "object") = some true) (hq : Q () s) : wpAny (model prog w) A (checkBuiltinCall "object.__ne__" ⟨[.ref x, b], []⟩) Q E s := by
  simp only [checkBuiltinCall, F.cmpKind_ne, F.cmpSplit_ne]
  refine wpAny_bind ?_
  unfold isInstance
  refine wpAny_bind (I.type.here ?_)
  refine (looks_subIn X hob).here ?_
  have ha : argsOk "object.__ne__" ⟨[.ref x, b], []⟩ := F.cmpArgs_ne _ _
  simp only [if_true, Bool.not_true, Bool.false_eq_true, if_false]
  cases hsig : Manifest.signature? "object.__ne__" with
  | none => exact wpAny_pure hq
  | some sig =>
    simp only [argsOk, hsig] at ha
    show wpAny _ A (Bind.checkArgs "object.__ne__" sig ⟨[.ref x, b], []⟩) Q E _
    have h2 : Bind.checkArgs "object.__ne__" sig ⟨[.ref x, b], []⟩ = pure () := ha
    rw [h2]; exact wpAny_pure hq
theorem ne_entry {Q : Fin → Shared → Prop} (hu : A.units < cLine) (X : K.In s.heap) (I : InstAt s.heap x ox C od) (hs : findIn K (.ref C) "__eq__" = some (some (.ref f))) (hf : isFn K (.ref f) = true)
    (h : codeAny (model prog w) A (.call (.ref f) ⟨[.ref x, b], []⟩) (fun r s' => match r with | .ok (.ret v) => ∃ k, v = .bool k ∧ Q (.done (.ret (.bool (!k)))) s' | .ok _ => False | .error e => E e s') s) : wpAny (model prog w) A (Builtin.«object.__ne__» ⟨[.ref x, b], []⟩) Q E s := by
  unfold Builtin.«object.__ne__»
  repeat (first | with_reducible refine wpAny_cRoomFor hu ?_ | with_reducible refine ifBound_K X I hs hf ?_ | wp_step)
  refine codeAny_mono h fun r s' z => ?_
  cases r with
  | error e => exact z
  | ok fl =>
  cases fl with
  | next => exact z
  | brk => exact z
  | cont => exact z
  | ret v =>
  obtain ⟨k, rfl, q⟩ := z
  repeat (first | with_reducible refine wpAny_truthy_bool ?_ | wp_step)
  exact q
theorem call_ne {Q : Value → Shared → Prop} (hu : A.units + 1 < cLine) (X : K.In s.heap) (I : InstAt s.heap x ox C od) (hob : subIn K (.ref C) (.type "object") = some true) (hs : findIn K (.ref C) "__eq__" = some (some (.ref f))) (hf : isFn K (.ref f) = true)
    (h : codeAny (model prog w) A.in1 (.call (.ref f) ⟨[.ref x, b], []⟩) (fun r s' => match r with | .ok (.ret v) => ∃ k, v = .bool k ∧ Q (.bool (!k)) s' | .ok _ => False | .error e => E e s') s) : wpAny (model prog w) A (call (.builtin "object.__ne__") [.ref x, b]) Q E s :=
  wpAny_call (codeAny_call_builtin F.cmp_object.ne.plain F.cmpEntry_ne (check_ne X I hob (ne_entry (A := A.in1) hu X I hs hf h)))
theorem cmp_ne {Q : Value → Shared → Prop} (hu : A.units + 1 < cLine) (X : K.In s.heap) (I : InstAt s.heap x ox C od) (hb : Looks (model prog w) s.heap (typeOf b) tb) (hn : notFirst K C tb = true) (hne : findIn K (.ref C) "__ne__" = some (some (.builtin "object.__ne__")))
    (hob : subIn K (.ref C) (.type "object") = some true) (hs : findIn K (.ref C) "__eq__" = some (some (.ref f))) (hf : isFn K (.ref f) = true)
    (h : codeAny (model prog w) A.in1 (.call (.ref f) ⟨[.ref x, b], []⟩) (fun r s' => match r with | .ok (.ret v) => ∃ k, v = .bool k ∧ Q (.bool (!k)) s' | .ok _ => False | .error e => E e s') s) : wpAny (model prog w) A (richCompare .NotEq (.ref x) b) Q E s := by
  have one : wpAny (model prog w) A (tryCompare (.ref x) (cmpInfo .NotEq).2.1 b) (fun r s' => ∃ v, r = some v ∧ Q v s') E s := by
    unfold tryCompare
    refine wpAny_bind ?_
    simp only [callSpecialIfBound?, bindSpecialIfBound?]
    refine wpAny_holding (wpAny_bind (wpAny_bind (wpAny_bind (I.type.here ((looks_findIn X hne).here ?_)))))
    simp only [F.cmp_object.ne.bind]
    refine wpAny_bind (wpAny_askSetting (wpAny_ite ?_))
    have back : wpAny (model prog w) A (call (.builtin "object.__ne__") [.ref x, b]) (fun v s' => ∃ k, v = .bool k ∧ Q (.bool k) s') E s := call_ne hu X I hob hs hf (codeAny_mono h fun r s' z => by
      cases r with
      | error e => exact z
      | ok fl =>
        cases fl with
        | ret v => obtain ⟨k, e, q⟩ := z; exact ⟨k, e, _, rfl, q⟩
        | next => exact z
        | brk => exact z
        | cont => exact z)
    split
    · refine wpAny_bind (wpAny_pure (wpAny_pure (wpAny_bind (wpAny_mono back (fun v s' z => ?_) fun _ _ z => z))))
      obtain ⟨k, rfl, q⟩ := z
      exact wpAny_pure (wpAny_pure ⟨_, rfl, q⟩)
    · refine wpAny_tryCatch (wpAny_bind (wpAny_pure (wpAny_pure (wpAny_bind (wpAny_mono back (fun v s' z => ?_) fun _ _ z => z)))))
      obtain ⟨k, rfl, q⟩ := z
      exact wpAny_pure (wpAny_pure ⟨_, rfl, q⟩)
  unfold richCompare
  simp only [oneThing_ref]
  refine wpAny_holding (wpAny_bind (wpAny_cRoomFor (by omega) ?_))
  refine wpAny_bind (I.type.here (wpAny_bind (hb.here ?_)))
  split
  · rename_i q
    have e : subIn K tb (.ref C) = some false := by
      rcases Bool.or_eq_true_iff.mp hn with e | e
      · rw [beq_iff_eq.mp e] at q; simp at q
      · exact beq_iff_eq.mp e
    refine wpAny_bind ((looks_subIn X e).here ?_)
    simp only [Bool.false_eq_true, if_false]
    refine wpAny_bind (wpAny_mono one (fun r s' z => ?_) fun _ _ e => e)
    obtain ⟨v, rfl, hq⟩ := z
    exact wpAny_pure hq
  · refine wpAny_bind (wpAny_pure ?_)
    simp only [Bool.false_eq_true, if_false]
    refine wpAny_bind (wpAny_mono one (fun r s' z => ?_) fun _ _ e => e)
    obtain ⟨v, rfl, hq⟩ := z
    exact wpAny_pure hq
end
end MeNe
end PySem

namespace ME
open PySem PySem.Spec PyProof.Rows L2
section
variable {X : Cx} {m : Am} {j k : Nat}
/-- the classes whose != is object's own -/
noncomputable def neB (K : PySem.W.Frag) (S : Sg) (cs : List Nat) : Bool := cs.all fun c => (PySem.W.findIn K (.ref (S.ca c)) "__ne__" == some (some (.builtin "object.__ne__"))) && (PySem.W.subIn K (.ref (S.ca c)) (.type "object") == some true)
noncomputable def notM (f : List D → M D) : List D → M D := fun ds => (f ds).bnd fun d => match d with
  | .bl b => M.ret (.bl (!b))
  | _ => M.stuck
theorem op_ownN {c : Nat} {mf : List D → M D} (B : Bx X m j) (T : OwnT X.prog X.w X.K X.mg X.base m.S k c "__eq__" 2 mf) (hk : Nat.ble (k + 1) j = true) (hne : neB X.K m.S [c] = true) : OpR X (compareOp .NotEq) (rOwnC m X.K c (notM mf)) := by
  intro pins s σ H x y v u Q I rx ry h
  obtain ⟨f, fd, ps, F, hs, hf, hb⟩ := T
  obtain ⟨a, dx, fs, G, p, ds, dy, tb, rfl, ha, w, r1, r2, et, hn, h5⟩ := h
  cases (show v = Value.ref a from rx)
  obtain ⟨od, J⟩ := insInst I ha
  unfold neB at hne
  simp only [List.all_cons, List.all_nil, Bool.and_true, Bool.and_eq_true, beq_iff_eq] at hne
  have hr : Room (k + 1) X.A := B.hr.mono (Nat.le_of_ble_eq_true hk)
  show wpAny _ _ (richCompare .NotEq (.ref a) u) _ _ _
  refine PySem.MeNe.cmp_ne (by have := hr.units; omega) I.kIn J (looks_tb B.hK I w r2 ry et) hn hne.1 hne.2 hs hf ?_
  obtain ⟨its, vd, bd⟩ := hb.ex
  cases vd
  have bt := bd s [.ref a, u] [] I.kIn rfl rfl
  have sp : spM m.S mf [.ref a, y] H (fun v H' => ∃ b, v = .bl b ∧ Q (.bl (!b)) H') (fun _ _ _ => False) := by
    refine ⟨m.pen, G, p, _, w, .cons r1 (.cons r2 .nil), ?_⟩
    dsimp only [notM, M.bnd] at h5
    rcases e : mf [.obj c ds, dy] p with _ | ⟨o, p1⟩
    · rw [e] at h5; exact h5
    · rw [e] at h5
      cases o with
      | ex c fs => exact h5
      | ok d =>
        intro v G' H' x' w' r
        have r : Rep m.S G' m.pen v d := r
        cases r with
        | bl b => exact ⟨b, rfl, h5 (.bl (!b)) G' H' x' w' (.bl _)⟩
        | _ => exact h5.elim
  refine codeAny_mono (F.run X.A.in1 X.stack s H ⟨[.ref a, u], []⟩ [.ref a, u] [.ref a, y] _ (fun _ _ _ => False) B.hq hr.in1 I.env0.in1 bt (.cons rfl (.cons ry .nil)) sp) fun r s' hq => ?_
  cases r with
  | error e => exact B.pf pins σ H s e s' I hq
  | ok fl =>
    cases fl with
    | ret u =>
      obtain ⟨v', H', I', rv', b, eb, q⟩ := I.after hq
      subst eb
      cases (show u = Value.bool b from rv')
      exact ⟨b, rfl, .bl (!b), H', I', rfl, q⟩
    | next => exact False.elim hq
    | brk => exact False.elim hq
    | cont => exact False.elim hq
theorem lookup_map {α β γ : Type} [BEq α] {f : β → γ} {k : α} : ∀ {l : List (α × β)}, (l.map fun q => (q.1, f q.2)).lookup k = (l.lookup k).map f
  | [] => rfl
  | (a, b) :: r => by
    rw [List.map_cons, List.lookup_cons, List.lookup_cons]
    cases k == a with
    | true => rfl
    | false => exact lookup_map
theorem c_neO {tbl : OTab} {cs os : List Nat} (B : Bx X m j) (T : ∀ c mf, tbl.lookup c = some mf → OwnT X.prog X.w X.K X.mg X.base m.S k c "__eq__" 2 mf) (hk : Nat.ble (k + 1) j = true) (hcs : cs = tbl.map (·.1)) (nf : nfB m.S.K m.S cs os = true) (hne : neB m.S.K m.S cs = true) : CmpT X m .NotEq (dOwnC (tbl.map fun q => (q.1, notM q.2)) os (dEq true)) := by
  obtain ⟨r, h1, h2⟩ := (c_ne (X := X) (m := m) B).ex
  refine ⟨_, OpR.or h1 (fun pins s σ H x y v u Q I rx ry ⟨c, mf, e, h⟩ => ?_), r_ownC (cs := cs) B.hK h2 (by rw [hcs, List.map_map]; rfl) nf⟩
  rw [lookup_map] at e
  cases q : tbl.lookup c with
  | none => rw [q] at e; cases e
  | some mg =>
    rw [q] at e
    cases e
    refine op_ownN B (T c mg q) hk ?_ pins s σ H x y v u Q I rx ry h
    unfold neB at hne ⊢
    have := List.all_eq_true.mp hne c (by rw [hcs]; exact List.mem_map.mpr ⟨_, mem_of_lookup q, rfl⟩)
    rw [B.hK]
    simpa using this
end
end ME

/-! ~x by an own __invert__. -/
namespace ME
open PySem PySem.Spec PyProof.Rows L2
section
variable {X : Cx} {m : Am} {j k : Nat}
noncomputable def dOwn1 (tbl : OTab) : D → M D
  | .obj c fs => match tbl.lookup c with
    | some mf => (mf [.obj c fs]).calm
    | none => M.stuck
  | _ => M.stuck
noncomputable def rOwn1 (m : Am) (tbl : OTab) : V → Hp → VK → Prop := fun x H Q => ∃ c mf a dx fs G p ds, tbl.lookup c = some mf ∧ x = .ref a ∧ H a = some (.ins (m.S.ca c) dx fs) ∧ Wd m.S m.pen G H p ∧ Rep m.S G m.pen x (.obj c ds) ∧
  Post m.S m.pen (fun G v d => Rep m.S G m.pen v d) G H Q (fun _ _ _ => False) (mf [.obj c ds] p)
theorem r_own1 {tbl : OTab} : R1Ok m (rOwn1 m tbl) (dOwn1 tbl) := by
  rintro σ x H Q ⟨G, p, δ, ⟨_, d⟩, w, sl, ⟨_, r⟩, h⟩
  have r : Rep m.S G m.pen x d := r
  cases id r with
  | @obj a dx c vs ds ha hl rr =>
    dsimp only [dOwn1] at h
    cases e : tbl.lookup c with
    | none => rw [e] at h; exact h.elim
    | some mf =>
      rw [e] at h
      exact ⟨c, mf, a, dx, _, G, p, ds, e, rfl, w.sub _ _ ha, w, r, post_calm h⟩
  | _ => exact h.elim
end
end ME

/-! f-strings of texts and ints. -/
namespace ME
open PySem PySem.Spec PyProof.Rows L2
noncomputable def dFmt : D → M D
  | .str y => if szOk y.length then M.ret (.str y) else M.stuck
  | .int i => if decide (i.natAbs.log2 < 1920) then M.ret (.str (toString i)) else M.stuck
  | _ => M.stuck
noncomputable def mJoin : List EX → Str → DS → M D
  | [], acc, _ => M.ret (.str acc)
  | e :: r, acc, δ => (e δ).bnd fun d => match d with
    | .str y => if szOk (acc ++ y).length then mJoin r (acc ++ y) δ else M.stuck
    | _ => M.stuck
section
variable {X : Cx} {m : Am} {pos : Pos}
theorem me_fmt {e : Expr} {ea : EX} (he : PE X e (tE m ea)) : PE X (.FormattedValue e (-1) none pos) (tE m (mUn dFmt ea)) := by
  refine PE.imp (pe_fmt he) fun σ H Q h => ?_
  refine (tY_bind (R1 := m.rE) r0_mono h).imp fun x H1 h2 => ?_
  obtain ⟨G, p, δ, ⟨_, d⟩, w, sl, ⟨_, r⟩, h3⟩ := h2
  have r : Rep m.S G m.pen x d := r
  cases r with
  | str y =>
    dsimp only [dFmt] at h3
    split at h3
    · rename_i hz; exact .inl ⟨y, rfl, szOk_le hz, fin_same w (.str _) h3⟩
    · exact h3.elim
  | int i =>
    dsimp only [dFmt] at h3
    split at h3
    · rename_i hz; exact .inr ⟨i, rfl, of_decide_eq_true hz, fin_same w (.str _) h3⟩
    · exact h3.elim
  | _ => exact h3.elim
theorem join_of : ∀ {es : List EX} {acc : Str} {σ : L2.St} {H : Hp} {Q : VK}, tE m (mJoin es acc) σ H Q → tJs (es.map (tE m)) acc σ H fun out H1 => Q (.str out) H1
  | [], acc, σ, H, Q, h => by
    obtain ⟨G, p, δ, _, w, sl, _, h⟩ := h
    exact h (.str acc) G H Ex.refl w (.str acc)
  | e :: es, acc, σ, H, Q, h => by
    refine (tY_bind (R1 := m.rE) r0_mono h).imp fun x H1 h2 => ?_
    obtain ⟨G, p, δ, ⟨_, d⟩, w, sl, ⟨_, r⟩, h3⟩ := h2
    have r : Rep m.S G m.pen x d := r
    cases r with
    | str y =>
      dsimp only at h3
      split at h3
      · rename_i hz
        exact ⟨y, rfl, szOk_le hz, join_of ⟨G, p, δ, (), w, sl, trivial, h3⟩⟩
      · exact h3.elim
    | _ => exact h3.elim
theorem me_join {v1 v2 : Expr} {rest : List Expr} {es : List EX} (h : PJ X (v1 :: v2 :: rest) (es.map (tE m))) : PE X (.JoinedStr (v1 :: v2 :: rest) pos) (tE m (mJoin es Str.empty)) :=
  PE.imp (pe_joined h) fun σ H Q h => join_of h
end
end ME

/-! A lambda without parameters handed to a def that calls it. -/
namespace ME
open PySem PySem.Spec PyProof.Rows L2
noncomputable abbrev lamN (X : Cx) : Str := X.env.qual ++ "<lambda>"
noncomputable abbrev lamO (X : Cx) (params : Arguments) (body : Expr) (scope : Scope) (pm : Value) (c' : Addr) (ctv : Value) : Obj :=
  PySem.W.kla_obj "<lambda>" (lamN X) params body scope (cloFrom X.env.cells scope.names []) pm c' ctv
section
variable {X : Cx} {pins : List (Addr × Obj)} {σ : L2.St} {H : Hp} {s : Shared}
/-- the lambda is made; what was tracked is tracked still, only the table grows -/
theorem mk_lam {T : List (Addr × Str)} {c P : Addr} {params : Arguments} {body : Expr} {scope : Scope} {pos : Pos} {E Q : Value → Shared → Prop} (I : Inv X pins σ H s) (TB : LamX.TabB X.base X.mg c P) (hcode : X.env.code = .ref c)
    (hm : (P, lamN X) ∈ T) (hu : ∀ q ∈ T, q.1 = P → q.2 = lamN X) (hT : LamX.Tabs T H) (hdef : defaultsOf params X.env = ([], [])) (hfree : ∀ y ∈ scope.names, y.2 = .free → ∃ c, X.env.cells.lookup y.1 = some c)
    (h : ∀ (f c' : Addr) (pm ctv : Value) (H1 : Hp) (s' : Shared), Inv X pins σ H1 s' → (∀ a o, a ≠ P → H a = some o → H1 a = some o) → (∀ a, H1 a = none → H a = none) → LamX.Tabs T H1 →
      s'.heap.get? f = some (lamO X params body scope pm c' ctv) → H1 f = none → f ∉ frs X.stack → H1 c' = some (LamX.CodeO c' (lamN X)) → Q (.ref f) s') :
    wpAny (model X.prog X.w) X.A (eval (.Lambda params body scope pos) X.env) Q E s := by
  obtain ⟨ps, eP, tri, known⟩ := hT _ hm
  apply PySem.W.kla_eval hdef
  have objP : s.heap.get? P = some { cls := .none, data := .fields ps } := I.hok P _ eP
  have away : ∀ f, s.heap.objs.size ≤ f → f ∉ frs X.stack := fun f hf z => by
    rcases List.mem_cons.mp (I.stkSub _ z) with e | e
    · subst e; exact absurd I.lt (Nat.not_lt.mpr hf)
    · exact I.nofs hf e
  rcases hc : codeAmong pos ps.toList with _ | cv
  · apply PySem.W.kla_makeFunction (mg := X.mg) (closure_ok hfree) I.ok.glob (I.mod.glob.keeps I.bk) hcode (TB.code.keeps I.bk) objP tri hc TB.gP (TB.bm.keeps I.bk)
    intro c' ctv h' tk hx hge hlt hrec htb
    obtain ⟨c2, oc, vs, t, e2, hoc, hd, hv⟩ := hrec
    cases e2
    have big : s.heap.objs.size ≤ h'.objs.size := Nat.le_trans hge (Nat.le_of_lt hlt)
    have nC : H c' = none := I.hok.fresh hge
    obtain ⟨more, hmore⟩ : ∃ more : Array Value, more = #[rawInt pos.line, rawInt pos.col, .ref c'] := ⟨_, rfl⟩
    rw [← hmore] at htb
    have nPc : P ≠ c' := ne_of_none eP nC
    have keep : ∀ a o, a ≠ P → H a = some o → upd (upd H P (.tbl (ps ++ more))) c' (LamX.CodeO c' (lamN X)) a = some o := fun a o hP e => by
      rw [upd_ne (ne_of_none e nC), upd_ne hP]; exact e
    have atP : upd (upd H P (.tbl (ps ++ more))) c' (LamX.CodeO c' (lamN X)) P = some (.tbl (ps ++ more)) := by rw [upd_ne nPc, upd_same]
    have I1 := LamX.inv_table (t' := tk) (more := more) (h' := h'.push (lamO X params body scope ((X.mg "__name__").getD .none) c' ctv)) I eP
      (fun b o hb e => Heap.get?_push_of_some _ (hx b o hb e)) (Heap.get?_push_of_some _ htb) hge ⟨oc, vs, t, Heap.get?_push_of_some _ hoc, hd, hv⟩
    have eL : (ps ++ more).toList = ps.toList ++ [rawInt pos.line, rawInt pos.col, .ref c'] := by rw [hmore]; simp
    refine h h'.objs.size c' _ ctv _ _ I1 keep (fun a e => ?_) (fun q hq => ?_) (Heap.get?_push_size _ rfl) ?_ (away _ big) upd_same
    · by_cases z : a = c'
      · rw [z, upd_same] at e; cases e
      · rw [upd_ne z] at e
        by_cases z2 : a = P
        · rw [z2, upd_same] at e; cases e
        · rw [upd_ne z2] at e; exact e
    · obtain ⟨us, a1, a2, a3⟩ := hT q hq
      by_cases hb : q.1 = P
      · rw [hu q hq hb, hb]
        refine ⟨_, atP, by rw [eL]; exact PySem.TriplesOk_snoc _ _ _ _ tri, fun p' cv hcv => ?_⟩
        rw [eL] at hcv
        rcases LamX.among_app _ tri hcv with z | z
        · obtain ⟨c0, e1, e2⟩ := known p' cv z
          exact ⟨c0, e1, keep _ _ (fun y => by rw [y, eP] at e2; cases e2) e2⟩
        · exact ⟨c', z, upd_same⟩
      · refine ⟨us, keep _ _ hb a1, a2, fun p' cv hcv => ?_⟩
        obtain ⟨c0, e1, e2⟩ := a3 p' cv hcv
        exact ⟨c0, e1, keep _ _ (fun y => by rw [y, eP] at e2; cases e2) e2⟩
    · have n2 : h'.objs.size ≠ P := Nat.ne_of_gt (Nat.lt_of_lt_of_le (Heap.lt_size objP) big)
      rw [upd_ne (Nat.ne_of_gt hlt), upd_ne n2]
      exact I.hok.fresh big
  · obtain ⟨c', e, hco⟩ := known pos cv hc
    subst e
    apply PySem.W.kla_makeFunctionHit (mg := X.mg) (closure_ok hfree) I.ok.glob (I.mod.glob.keeps I.bk) hcode (TB.code.keeps I.bk) objP tri hc (TB.bm.keeps I.bk)
    intro ctv h' tk hx big
    have I1 : Inv X pins σ H { s with heap := h'.push (lamO X params body scope ((X.mg "__name__").getD .none) c' ctv), toks := tk } := I.kept fun b o e => Heap.get?_push_of_some _ (hx b o e)
    exact h h'.objs.size c' _ ctv H _ I1 (fun _ _ _ e => e) (fun _ e => e) hT (Heap.get?_push_size _ rfl) (I.hok.fresh big) (away _ big) hco
/-- a(), in the def that got the lambda -/
theorem act_pe {Eg : XK} {Ng : List Str} {qg : Str} {sg : Scope} {g f c' : Addr} {cdg pm ctv : Value} {params : Arguments} {body : Expr} {scope : Scope} {k i : Nat} {a : Str} {pn : List (Addr × Obj)} {xe : Value → Shared → Prop} {W : WX} {tb : XK → TE} {p1 p2 : Pos}
    (I : Inv X pins σ H s) (L : LamX.LamS X.env.scope scope) (hf : s.heap.get? f = some (lamO X params body scope pm c' ctv)) (hfn : H f = none) (hfr : f ∉ frs X.stack)
    (hbind : bindArgs (PySem.W.kla_fn "<lambda>" (lamN X) params body scope (cloFrom X.env.cells scope.names []) pm (.ref c') ctv) ⟨[], []⟩ = pure [])
    (tk : Takes ((cxOf (L2.CX X.prog X.w) X.prog X.w X.K X.mg X.base Ng qg sg g cdg X.A X.stack s H Eg).tr pn xe) W) (hr : Room (k + 1) (X.A.deeper (envOfC qg sg s.heap.objs.size g cdg)))
    (hbody : ∀ (A : Around) (outer : List Env) (s : Shared) (H : Hp) (E : XK), A.guards = X.A.guards → Room k (A.deeper (LamX.lamEnv X scope s.heap.objs.size f c')) → PE (LamX.lamCx X A outer s H E scope f c') body (tb E))
    (hN : Ng[i]? = some a) (hv : Vis sg a) (hd : (a == ("__debug__" : Str)) = false) (hcd : (a == ("__classdict__" : Str)) = false) :
    PE ((cxOf (L2.CX X.prog X.w) X.prog X.w X.K X.mg X.base Ng qg sg g cdg X.A X.stack s H Eg).tr pn xe) (.Call (.Name a p1) [] [] p2)
      (fun σZ HZ Q => σZ[i]? = some (some (.ref f)) ∧ HZ c' = some (LamX.CodeO c' (lamN X)) ∧ tb (WE W σZ) σ HZ Q) := by
  refine ⟨fun pinsZ sZ σZ HZ Q IZ ⟨hs, hc, ht⟩ => ?_⟩
  apply wpAny_Call_Name_kw
  refine thn ((pe_var (pos := p1) (i := i) hN hv hd hcd).run pinsZ sZ σZ HZ (fun v H1 => v = .ref f ∧ H1 = HZ) IZ ⟨.ref f, hs, rfl, rfl⟩) fun u s1 ⟨v, H1, I1, r1, q1, q2⟩ => ?_
  subst q1 q2
  obtain rfl : u = Value.ref f := r1
  have f1 := I1.base.keep f _ hf hfn hfr (fun z => nomatch (show f ∈ ([] : List Addr) from z))
  apply PySem.W.callWith_F0 ⟨_, _, _, _, f1⟩
  obtain ⟨⟨oc, vs, t, hoc, hdc, hvc⟩, _, _⟩ := I1.hok c' _ hc
  have run : codeAny (model X.prog X.w) (X.A.deeper (envOfC qg sg s.heap.objs.size g cdg)) (.call (.ref f) ⟨[], []⟩) (CR (L2.CX X.prog X.w) (envOfC qg sg s.heap.objs.size g cdg :: X.stack) X.prog X.w H1 s1 Q (WE W σZ)) s1 := by
    apply PySem.W.kla_callFunE hr.depth f1 rfl L.co L.gen rfl ⟨c', oc, vs, t, rfl, hoc, hdc, hvc⟩
    rw [hbind]
    apply wpAny_pure
    refine wpAny_newFunctionEnv (fun y hy => (L.own y hy).2) (fun y hy => absurd hy (by simp)) (fun h₁ hns hsb => ⟨I1.nolimit.fresh _ hsb, ?_⟩) L.kind
    show codeAny _ _ (.expr body (LamX.lamEnv X scope s1.heap.objs.size f c')) _ _
    have kp : ∀ b o, s1.heap.get? b = some o → h₁.get? b = some o := fun b o e => hsb.extBut b o (Nat.ne_of_lt (Heap.lt_size e)) (Heap.get?_push_of_some _ e)
    have J := LamX.lam_start2 (A := X.A.deeper (envOfC qg sg s.heap.objs.size g cdg)) (outer := envOfC qg sg s.heap.objs.size g cdg :: X.stack) (E := WE W σZ) (f := f) (c' := c') (tk := s1.toks + ([] : List (Str × Value)).length) I L I1.env0 hr.hd I1.base hns kp
    apply PySem.W.kla_codeExpr
    refine wpAny_mono ((hbody (X.A.deeper (envOfC qg sg s.heap.objs.size g cdg)) _ s1 H1 (WE W σZ) rfl (hr.deeper _)).run [] _ _ H1 Q J ht) (fun v s' hq => ?_) fun e s' hq => hq
    obtain ⟨w', H', J', rv, q⟩ := hq
    exact ⟨w', H', J'.os, J'.bare, J'.base, J'.hok, rv, q⟩
  refine wpAny_call (codeAny_mono run fun r s' hq => ?_)
  cases r with
  | error e => exact passAt tk σZ pinsZ H1 s1 e s' I1 hq
  | ok fl =>
    cases fl with
    | ret u => exact I1.after hq
    | next => exact False.elim hq
    | brk => exact False.elim hq
    | cont => exact False.elim hq
end
/-! ### the mirror -/
/-- a() where a (the slot 0) is the lambda f that does act -/
noncomputable def mAct (f : Nat) (act : M D) : EX := fun δ p => match (δ[0]? : Option (Option Sl)) with
  | some (some (.d (.clo g))) => if g = f then act p else none
  | _ => none
theorem mAct_at {f : Nat} {act : M D} {δ : DS} {p : Pn} : mAct f act (some (.d (.clo f)) :: δ) p = act p := by
  show (if f = f then act p else none) = act p
  rw [if_pos rfl]
noncomputable def tAct (S : Sg) (pen : Addr) (G0 B : Hp) (f : Addr) (act : M D) (W : WX) : TE := fun σ H Q => σ[0]? = some (some (.ref f)) ∧ ∃ G p, Wd S pen G H p ∧ Ex pen G0 B G H ∧ Post S pen (fun G v d => Rep S G pen v d) G H Q (WE W σ) (act p)
/-- in the context Z the name a may be called so -/
noncomputable def ActOk (Z : Cx) (S : Sg) (pen : Addr) (G0 B : Hp) (a : Str) (f : Addr) (act : M D) : Prop :=
  ∀ (W : WX) (pn : List (Addr × Obj)) (xe : Value → Shared → Prop) (p1 p2 : Pos), Takes (Z.tr pn xe) W → PE (Z.tr pn xe) (.Call (.Name a p1) [] [] p2) (tAct S pen G0 B f act W)
section
variable {X : Cx} {m : Am} {f : Addr} {act : M D} {a : Str} {p1 p2 pos : Pos}
theorem tAct.imp {S : Sg} {pen : Addr} {G0 B : Hp} {W : WX} {σ : L2.St} {H : Hp} {Q Q' : VK} (h : tAct S pen G0 B f act W σ H Q) (i : ∀ v H', Q v H' → Q' v H') : tAct S pen G0 B f act W σ H Q' := by
  obtain ⟨e, G, p, w, x, h⟩ := h
  exact ⟨e, G, p, w, x, Post.imp h i⟩
theorem tS_act {k : D → SX} {K : Ends} {σ : L2.St} {H : Hp} (h : tS m (sBnd (mAct f act) k) K σ H) :
    tAct m.S m.pen m.G0 m.B f act m.W σ H (fun v H1 => ∃ d G p δ, Wd m.S m.pen G H1 p ∧ Ex m.pen m.G0 m.B G H1 ∧ SlR m.S m.pen m.B G H1 σ δ ∧ Rep m.S G m.pen v d ∧ PostS m K G (k d δ p)) := by
  obtain ⟨G, p, δ, w, x, sl, h⟩ := h
  dsimp only [sBnd, mAct] at h
  rcases e0 : δ[0]? with _ | o
  · rw [e0] at h; exact h.elim
  rcases o with _ | sl0
  · rw [e0] at h; exact h.elim
  cases sl0 with
  | d y =>
    cases y with
    | clo g =>
      rw [e0] at h
      dsimp only at h
      by_cases hg : g = f
      · subst hg
        rw [if_pos rfl] at h
        obtain ⟨v, e1, r⟩ := sl.val 0 _ e0
        cases r
        refine ⟨e1, G, p, w, x, ?_⟩
        rcases he : act p with _ | ⟨o, p1⟩
        · rw [he] at h; exact h
        · rw [he] at h
          cases o with
          | ok d => exact fun v G' H' x' w' r => ⟨d, G', p1, δ, w', x.trans x', sl.ex x', r, h.mono x'.sub⟩
          | ex c fs => exact fun d G' H' x' w' r => h d σ G' H' x'.sub w' (x.trans x') (sl.ex x') r
      · rw [if_neg hg] at h; exact h.elim
    | _ => rw [e0] at h; exact h.elim
  | _ => rw [e0] at h; exact h.elim
theorem ms_actE (A : PE X (.Call (.Name a p1) [] [] p2) (tAct m.S m.pen m.G0 m.B f act m.W)) (hs : swapsWith (.Call (.Name a p1) [] [] p2) none pos.line X.env = pure false := by rfl) : PS X (.Expr (.Call (.Name a p1) [] [] p2) pos) (tS m (sExpr (mAct f act))) :=
  PS.imp (ps_expr A hs) fun K σ H h => (tS_act h).imp fun v H1 ⟨d, G, p, δ, w, x, sl, r, q⟩ => q σ G H1 (Sub.refl _) w x sl
noncomputable def sRetL (e : EX) : SX := sBnd e fun d _ p => some (.rt (.lst [d]), p)
/-- what is known of a slot is forgotten -/
noncomputable def sDrop (i : Nat) (s : SX) : SX := fun δ p => s (δ.set i none) p
theorem SlR.drop {S : Sg} {pen : Addr} {B G H : Hp} {σ : L2.St} {δ : DS} {i : Nat} (sl : SlR S pen B G H σ δ) : SlR S pen B G H σ (δ.set i none) := by
  have old : ∀ (j : Nat) s, (δ.set i none)[j]? = some (some s) → δ[j]? = some (some s) := fun j s e => by
    by_cases hj : i = j
    · subst hj
      rw [List.getElem?_set] at e
      simp only [if_true] at e
      split at e <;> cases e
    · rw [List.getElem?_set_ne hj] at e; exact e
  exact ⟨by simp [sl.len], fun j x e => sl.val j x (old _ _ e), fun j xs e => sl.ml j xs (old _ _ e), fun j xs e => sl.md j xs (old _ _ e), fun j c xs e => sl.mo j c xs (old _ _ e), fun j k s t l e1 e2 => sl.inj j k s t l (old _ _ e1) (old _ _ e2)⟩
theorem mss_drop {i : Nat} {ss : List Stmt} {s : SX} (h : PSs X ss (tS m s)) : PSs X ss (tS m (sDrop i s)) :=
  PSs.imp h fun K σ H ⟨G, p, δ, w, x, sl, q⟩ => ⟨G, p, δ.set i none, w, x, sl.drop, q⟩
end
theorem Bx.lam {X : Cx} {A : Around} {outer : List Env} {s : Shared} {H : Hp} {E : XK} {scope : Scope} {f c' : Addr} {S : Sg} {pen : Addr} {G0 B : Hp} {j : Nat}
    (hg : A.guards = some []) (hr : Room j (A.deeper (LamX.lamEnv X scope s.heap.objs.size f c'))) (hK : X.K = S.K) (hS : ∃ o, X.base.get? sysModules = some o) :
    Bx (LamX.lamCx X A outer s H E scope f c') ⟨S, pen, G0, B, fun c d _ H' => E c d H'⟩ j := by
  have tk : Takes (LamX.lamCx X A outer s H E scope f c') (fun c d _ H' => E c d H') := takes_of (E := E) rfl rfl rfl rfl
  exact ⟨tk, hg, hr, rfl, hK, hS, fun pins σ H1 s1 e s2 I c => by obtain ⟨_, _, _, _, _, _, _, _, _, _, _, _, z⟩ := c; exact z.elim⟩
/-- the def x, which calls what it gets, does h of it -/
noncomputable def HrdT (P : Program) (w : World) (K : PySem.W.Frag) (mg : Str → Option Value) (base : Heap) (S : Sg) (k : Nat) (x : Str) (h : M D → M D) : Prop :=
  ∃ (g : Addr) (fd : FuncData) (a : Str) (st : Stmt) (Ng : List Str) (oc : Value) (od : Option Addr) (dV kV doc pm : Value) (an : Option Addr) (cdv ct : Value) (osl : Array (Option Value)) (hB : Nat → M D → SX),
    fd = PySem.W.fnOf x x (defArgs st) (defBody st) (defScope st) dV kV doc pm an cdv ct ∧ K.lookup g = some ⟨oc, od, .func fd, osl⟩ ∧ PySem.W.codeIn K cdv x = true ∧ mg x = some (.ref g) ∧ PySem.W.keepIn K (.ref g) = true ∧
    Bd K fd [a] 1 [] [] [.p 0] ∧ FnScope Ng [a] (defScope st) ∧ Ng[0]? = some a ∧ Vis (defScope st) a ∧ nmB a = true ∧
    (∀ f act p, outOf (hB f act (dsOf Ng.length [.clo f]) p) = h act p) ∧
    ∀ (A : Around) (outer : List Env) (s : Shared) (pen : Addr) (G0 H : Hp) (E : XK) (f : Addr) (act : M D), A.guards = some [] → Room k (A.deeper (envOfC x (defScope st) s.heap.objs.size g cdv)) →
      ActOk (cxOf (L2.CX P w) P w K mg base Ng x (defScope st) g cdv A outer s H E) S pen G0 H a f act →
      PSs (cxOf (L2.CX P w) P w K mg base Ng x (defScope st) g cdv A outer s H E) (defBody st) (tS ⟨S, pen, G0, H, fun c d _ H' => E c d H'⟩ (hB f act))
noncomputable def mLam (h : M D → M D) (e : EX) : EX := fun δ => h (e δ)
section
variable {X : Cx} {m : Am} {j k : Nat} {x : Str} {p pos lpos : Pos} {params : Arguments} {body : Expr} {scope : Scope} {h : M D → M D} {eb : EX} {c P : Addr}
theorem me_lam (B : Bx X m j) (T : HrdT X.prog X.w X.K X.mg X.base m.S k x h) (hk : Nat.ble (k + 1) j = true) {kl : Nat} (hkl : Nat.ble (kl + 2) j = true) (hg : gloB X.env.scope x = true) (hx : nmB x = true)
    (TB : LamX.TabB X.base X.mg c P) (hcode : X.env.code = .ref c) (hmT : (P, lamN X) ∈ m.S.T) (hu : ∀ q ∈ m.S.T, q.1 = P → q.2 = lamN X) (L : LamX.lamSB X.env.scope scope = true) (hdef : defaultsOf params X.env = ([], []))
    (hbind : ∀ (q : Str) (cl : List (Str × Addr)) (pm cv ctv : Value), bindArgs (PySem.W.kla_fn "<lambda>" q params body scope cl pm cv ctv) ⟨[], []⟩ = pure [])
    (hbody : ∀ (A : Around) (outer : List Env) (s : Shared) (H : Hp) (E : XK) (f c' : Addr) (G0 B0 : Hp), A.guards = some [] → Room kl (A.deeper (LamX.lamEnv X scope s.heap.objs.size f c')) → PE (LamX.lamCx X A outer s H E scope f c') body (tE ⟨m.S, m.pen, G0, B0, fun c d _ H' => E c d H'⟩ eb)) :
    PE X (.Call (.Name x p) [.Lambda params body scope lpos] [] pos) (tE m (mLam h eb)) := by
  obtain ⟨g, fd, a, st, Ng, oc, od, dV, kV, doc, pm, an, cdv, ct, osl, hB, rfl, lk, hcd, hm, hkp, hb, Sg, hN0, hva, hna, hU, hG⟩ := T
  refine ⟨fun pins s σ H Q I hh => ?_⟩
  obtain ⟨G, pn, δ, _, w, sl, _, h5⟩ := hh
  have L := LamX.lamS_by L
  refine wpAny_Call_Name_kw (ld_glob I (gl_of hg) hm ?_ (nmB_of hx).1)
  refine PySem.W.callWith_K (h₀ := X.base) I.ok.mod.kin hkp ?_ (by rfl) (by rfl)
  show wpAny _ _ (spliced ((false, eval (.Lambda params body scope lpos) X.env) :: backTo pos (starEach [] X.env))) _ _ s
  refine Calls.spliced_cons (mk_lam I TB hcode hmT hu w.tabs hdef (L.has I.ok) fun f c' pm' ctv H1 s' I1 eN dm T1 hf hfn hfr hco => ?_)
  refine Calls.spliced_nil ⟨I1.kIn, ?_⟩
  have nP : ∀ {a o}, H a = some o → (∀ y, o ≠ .tbl y) → a ≠ P := fun {a o} e n z => by
    obtain ⟨ps, hP, _⟩ := w.tabs _ hmT
    rw [z, hP] at e; exact n _ (Option.some.inj e).symm
  have gP : G P = none := w.gt _ hmT
  have x1 : Ex m.pen G H G H1 := ⟨Sub.refl _, fun a o _ n e => eN a o (nP e n) e, dm, fun a e _ => e⟩
  have w1 : Wd m.S m.pen G H1 pn := by
    obtain ⟨l, e1, e2⟩ := w.pn
    exact ⟨fun a o e => eN a o (fun z => by rw [z, gP] at e; cases e) (w.sub a o e), w.np, ⟨l, eN _ _ (nP e1 (by intro _ z; cases z)) e1, e2⟩, T1, w.gt⟩
  have nc : c' ≠ m.pen := fun z => by
    obtain ⟨l, e1, _⟩ := w1.pn
    rw [z, e1] at hco; exact lst_code _ _ (Option.some.inj hco)
  obtain ⟨its, vd, bd⟩ := hb.ex
  cases vd
  have hrj := B.hr.mono (Nat.le_of_ble_eq_true hk)
  have run : codeAny (model X.prog X.w) X.A (.call (.ref g) ⟨[.ref f], []⟩) (CR (L2.CX X.prog X.w) X.stack X.prog X.w H1 s' Q (WE m.W σ)) s' := by
    refine LamX.run_ofS (N := Ng) (ps := [a]) (us := [.ref f]) (vs := [.ref f]) lk hcd Sg hrj I1.env0 (bd s' [.ref f] [] I1.kIn rfl rfl) (.cons rfl .nil) rfl fun hr' => ?_
    have act : ActOk (cxOf (L2.CX X.prog X.w) X.prog X.w X.K X.mg X.base Ng x (defScope st) g cdv X.A X.stack s' H1 (WE m.W σ)) m.S m.pen G H1 a f (eb δ) := fun W pn2 xe p1 p2 tk => by
      refine PE.imp (act_pe (i := 0) (k := kl) (tb := fun E => tE ⟨m.S, m.pen, m.G0, m.B, fun c d _ H' => E c d H'⟩ eb) I1 L hf hfn hfr (hbind _ _ _ _ _) tk ((B.hr.mono (Nat.le_of_ble_eq_true hkl)).deeper _)
        (fun A outer s H E hA hr2 => hbody A outer s H E f c' m.G0 m.B (hA.trans B.hq) hr2) hN0 hva (nmB_of hna).1 (nmB_of hna).2.1) fun σZ HZ QZ hz => ?_
      obtain ⟨e0, G2, p2, w2, x2, h2⟩ := hz
      exact ⟨e0, x2.keep c' _ nc (fun y => LamX.codeO_ne y) hco, G2, p2, δ, (), w2, (sl.ex x1).ex x2, trivial, h2⟩
    refine ⟨_, hG X.A X.stack s' m.pen G H1 (WE m.W σ) f (eb δ) B.hq hr' act, ?_⟩
    refine ⟨G, pn, dsOf Ng.length [.clo f], w1, Ex.refl, SlR.start (.cons (.clo f) .nil), ?_⟩
    have h6 : Post m.S m.pen m.rE G H Q (WE m.W σ) (outOf (hB f (eb δ) (dsOf Ng.length [.clo f]) pn)) := by rw [hU]; exact h5
    rcases he : hB f (eb δ) (dsOf Ng.length [.clo f]) pn with _ | ⟨o, p1⟩
    · rw [he] at h6; exact h6
    · rw [he] at h6
      cases o with
      | nx δ' => exact fun σ' G' H' _ w' x' sl' => h6 .non G' H' (x1.trans x') w' .non
      | rt d => exact fun v G' H' _ w' x' r' => h6 v G' H' (x1.trans x') w' r'
      | bk δ' => exact h6.elim
      | ct δ' => exact h6.elim
      | er c fs δ' => exact fun d σ' G' H' _ w' x' sl' r' => h6 d G' H' (x1.trans x') w' r'
  refine wpAny_call (codeAny_mono run fun r s2 hq => ?_)
  cases r with
  | error e => exact passAt B.tk σ pins H1 s' e s2 I1 hq
  | ok fl =>
    cases fl with
    | ret u => exact I1.after hq
    | next => exact False.elim hq
    | brk => exact False.elim hq
    | cont => exact False.elim hq
end
end ME

/-! A built-in's == declines an own object; then the own __eq__ is asked. -/
namespace PySem
namespace MeDec
open PySem.W PySem.Calls PySem.Spec
open AutoSeq1 (wpAny_loadPart')
open MeetsSeq
section
variable {prog : Program} {w : World} {A : Around} {E : Value → Shared → Prop} {s : Shared} {K : Frag} {C : Addr} {od : Option Obj}
/-- == inside a built-in -/
theorem eqB_of {a : Value} {b : Addr} {Q : Bool → Shared → Prop} (hne : a ≠ .ref b) (h : wpAny (model prog w) A (richCompare .Eq a (.ref b)) (fun v s' => ∃ r, v = .bool r ∧ Q r s') E s) : wpAny (model prog w) A (eqBool a (.ref b)) Q E s := by
  unfold eqBool
  apply wpAny_holding
  refine wpAny_ite_split (fun hab => absurd (eq_of_beq hab) hne) (fun _ => ?_)
  have fin : ∀ {v : Value} {s' : Shared}, (∃ r, v = .bool r ∧ Q r s') → wpAny (model prog w) A (truthOfDropped v) Q E s' := fun {v s'} hv => by
    obtain ⟨r, rfl, q⟩ := hv
    exact wpAny_truthy_bool q
  have g : wpAny (model prog w) A (richCompare .Eq a (.ref b) >>= truthOfDropped) Q E s := wpAny_bind (wpAny_mono h (fun v s' hv => fin hv) fun _ _ x => x)
  cases a <;> exact g
/-! ### x in a list whose items are asked one by one -/
noncomputable def InI (prog : Program) (w : World) (A : Around) (E : Value → Shared → Prop) (l : Addr) (x : Value) (N : Nat) (J : Nat → Shared → Prop) (T : Shared → Prop) : Prop :=
  ∀ i s, J i s → ∃ (items : Array Value) (n : Nat) (dd : Option Addr) (sl : Array (Option Value)), s.heap.get? l = some { cls := .type "list", dict := dd, data := .seq items n, slots := sl } ∧ items.size = N ∧
    ∀ (h : i < items.size), wpAny (model prog w) A.in1 (eqBool items[i] x) (fun r s' => if r = true then T s' else J (i + 1) s') E s
end
end MeDec
end PySem

/-! x in a list of any things, x of an own class. -/
namespace ME
open PySem PySem.Spec PyProof.Rows L2
noncomputable def flatDiff : D → D → Bool
  | .str a, .str b => a != b
  | .int a, .int b => a != b
  | _, _ => false
noncomputable def dDiff : D → D → Bool
  | .obj c fs, .obj c' gs => c == c' && (fs.zip gs).any fun q => flatDiff q.1 q.2
  | _, _ => false
noncomputable def bNo (f : M D) : M Bool := f.calm.bnd fun d => match d with
  | .bl false => M.ret false
  | _ => M.stuck
noncomputable def bAny (f : M D) : M Bool := f.calm.bnd fun d => match d with
  | .bl b => M.ret b
  | _ => M.stuck
/-- an item == x inside a built-in; x of the own class c whose __eq__ is mf -/
noncomputable def eqIt (tbl : OTab) (os : List Nat) (mf : List D → M D) (c : Nat) (x : D) : D → M Bool
  | .obj c' gs => match tbl.lookup c' with
    | some mi => if os.contains c && dDiff (.obj c' gs) x then bNo (mi [.obj c' gs, x]) else M.stuck
    | none => M.stuck
  | .non => bAny (mf [x, .non])
  | .str y => bAny (mf [x, .str y])
  | .int y => bAny (mf [x, .int y])
  | .bl y => bAny (mf [x, .bl y])
  | .tup y => bAny (mf [x, .tup y])
  | .lst y => bAny (mf [x, .lst y])
  | _ => M.stuck
noncomputable def inGo (e : D → M Bool) : List D → M Bool
  | [] => M.ret false
  | d :: r => (e d).bnd fun b => if b = true then M.ret true else inGo e r
noncomputable def dInO (neg : Bool) (tbl : OTab) (os : List Nat) : D → D → M D
  | .obj c fs, .lst l => match tbl.lookup c with
    | some mf => (inGo (eqIt tbl os mf c (.obj c fs)) l).bnd fun b => M.ret (.bl (if neg then !b else b))
    | none => M.stuck
  | x, y => dIn neg x y
/-- the classes that no built-in with an own == is a base of -/
noncomputable def sepB (K : PySem.W.Frag) (S : Sg) (cs : List Nat) : Bool := cs.all fun c => (["NoneType", "str", "int", "bool", "tuple", "list"] : List String).all fun T => PySem.W.subIn K (.ref (S.ca c)) (.type T) == some false
section
variable {X : Cx} {m : Am} {j k c : Nat} {tbl : OTab} {os : List Nat}
noncomputable def rInO (m : Am) (neg : Bool) (tbl : OTab) (os : List Nat) : R2 := fun x y H Q => ∃ G p c fs ds mf, Wd m.S m.pen G H p ∧ Rep m.S G m.pen x (.obj c fs) ∧ Rep m.S G m.pen y (.lst ds) ∧ tbl.lookup c = some mf ∧
  Post m.S m.pen rB G H (fun b H' => Q (.bl (if neg then !b else b)) H') (fun _ _ _ => False) (inGo (eqIt tbl os mf c (.obj c fs)) ds p)
end
end ME

/-! Defs with defaults; members of own classes; constants of a class; str of an own object. -/
namespace ME
open PySem PySem.Spec PyProof.Rows L2
/-! ### defaults -/
noncomputable def dvV : D → V
  | .bl b => .bl b
  | .int i => .int i
  | .str x => .str x
  | _ => .non
noncomputable def dvIs : D → Value → Bool
  | .non, .none => true
  | .bl b, .bool c => b == c
  | .int i, .int j _ => i == j
  | .str x, .str y _ => x == y
  | _, _ => false
noncomputable def dvFlat : D → Bool
  | .non => true
  | .bl _ => true
  | .int _ => true
  | .str _ => true
  | _ => false
theorem dv_rel {d : D} {u : Value} (h : dvIs d u = true) : RelV (dvV d) u := by
  cases d with
  | non => cases u <;> first | rfl | cases h
  | bl b => cases u <;> first | (have : b = _ := beq_iff_eq.mp h; subst this; rfl) | cases h
  | int b => cases u <;> first | (have : b = _ := beq_iff_eq.mp h; subst this; exact ⟨_, rfl⟩) | cases h
  | str b => cases u <;> first | (have : b = _ := beq_iff_eq.mp h; subst this; exact ⟨_, rfl⟩) | cases h
  | _ => cases u <;> cases h
theorem dv_rep {S : Sg} {G : Hp} {pen : Addr} {d : D} (h : dvFlat d = true) : Rep S G pen (dvV d) d := by
  cases d with
  | non => exact .non
  | bl b => exact .bl b
  | int b => exact .int b
  | str b => exact .str b
  | _ => cases h
theorem dv_reps {S : Sg} {G : Hp} {pen : Addr} : ∀ {dd : List D}, dd.all dvFlat = true → Reps S G pen (dd.map dvV) dd
  | [], _ => .nil
  | d :: r, h => by
    simp only [List.all_cons, Bool.and_eq_true] at h
    exact .cons (dv_rep h.1) (dv_reps h.2)
noncomputable def dvAll : List D → List Value → Bool
  | [], [] => true
  | d :: r, u :: s => dvIs d u && dvAll r s
  | _, _ => false
theorem dvAll_vals : ∀ {dd : List D} {us : List Value}, dvAll dd us = true → Vals (dd.map dvV) us
  | [], [], _ => .nil
  | [], _ :: _, h => by cases h
  | _ :: _, [], h => by cases h
  | d :: r, u :: s, h => by
    simp only [dvAll, Bool.and_eq_true] at h
    exact .cons (dv_rel h.1) (dvAll_vals h.2)
noncomputable def dflB (K : PySem.W.Frag) (dV : Value) (dd : List D) : Bool := dd.all dvFlat && match dd, dV with
  | [], .none => true
  | _ :: _, .ref T => (match K.lookup T with
    | some ⟨_, _, .seq its _, _⟩ => dvAll dd its.toList
    | _ => false)
  | _, _ => false
/-- a def of the text with the defaults dd -/
noncomputable def FunW (K : PySem.W.Frag) (x qual : Str) (st : Stmt) (dd : List D) (f : Addr) (fd : FuncData) : Prop :=
  ∃ (oc : Value) (od : Option Addr) (dV kV doc pm : Value) (an : Option Addr) (cdv ct : Value) (osl : Array (Option Value)),
    fd = PySem.W.fnOf x qual (defArgs st) (defBody st) (defScope st) dV kV doc pm an cdv ct ∧ K.lookup f = some ⟨oc, od, .func fd, osl⟩ ∧ PySem.W.codeIn K cdv qual = true ∧ dflB K dV dd = true
section
variable {K : PySem.W.Frag} {x qual : Str} {st : Stmt} {f : Addr} {fd : FuncData} {dd : List D} {ps ks : List Str} {n : Nat} {l : List Src} {mg : Str → Option Value} {h : Heap}
theorem FunW.g (F : FunW K x qual st dd f fd) : FunG K x qual st f fd := by
  obtain ⟨oc, od, dV, kV, doc, pm, an, cdv, ct, osl, h1, h2, h3, _⟩ := F
  exact ⟨oc, od, dV, kV, doc, pm, an, cdv, ct, osl, h1, h2, h3⟩
theorem bdW0 (F : FunW K x qual st [] f fd)
    (hb : ∀ (s : Shared) (kV doc pm : Value) (an : Option Addr) (cdv ct : Value) (us ws : List Value), us.length = n → ws.length = ks.length → BindsTo s (PySem.W.fnOf x qual (defArgs st) (defBody st) (defScope st) .none kV doc pm an cdv ct) ⟨us, ks.zip ws⟩ (ps.zip (pick us [] ws l))) : Bd K fd ps n ks [] l := by
  obtain ⟨oc, od, dV, kV, doc, pm, an, cdv, ct, osl, rfl, h2, h3, h4⟩ := F
  have e : dV = .none := by
    unfold dflB at h4
    cases dV <;> first | rfl | (simp at h4; done)
  subst e
  exact ⟨[], .nil, fun s us ws _ l1 l2 => hb s kV doc pm an cdv ct us ws l1 l2⟩
/-- the defaults are read -/
theorem bdW1 {d : D} {r : List D} (F : FunW K x qual st (d :: r) f fd)
    (hb : ∀ (T : Addr) (kV doc pm : Value) (an : Option Addr) (cdv ct : Value) (us its ws : List Value), us.length = n → its.length = (d :: r).length → ws.length = ks.length →
      ∃ k, bindArgs (PySem.W.fnOf x qual (defArgs st) (defBody st) (defScope st) (.ref T) kV doc pm an cdv ct) ⟨us, ks.zip ws⟩ = seqItems? (.ref T) >>= k ∧ k (some its.toArray) = pure (ps.zip (pick us its ws l))) : Bd K fd ps n ks ((d :: r).map dvV) l := by
  obtain ⟨oc, od, dV, kV, doc, pm, an, cdv, ct, osl, rfl, h2, h3, h4⟩ := F
  unfold dflB at h4
  simp only [Bool.and_eq_true] at h4
  cases dV with
  | ref T =>
    have h5 := h4.2
    dsimp only at h5
    split at h5
    · rename_i oc2 od2 its m sl lT
      have vs := dvAll_vals h5
      refine ⟨its.toList, vs, fun s us ws X l1 l2 => ?_⟩
      obtain ⟨k, e1, e2⟩ := hb T kV doc pm an cdv ct us its.toList ws l1 (by rw [← vs.length]; simp) l2
      refine BindsTo.of_looks fun M => ?_
      rw [e1]
      exact looks_items X lT rfl (PySem.W.Looks.of_pure (by simpa using e2))
    · cases h5
  | _ => simp at h4
/-- a def of the module -/
noncomputable def DefW (K : PySem.W.Frag) (mg : Str → Option Value) (x : Str) (st : Stmt) (dd : List D) : Prop := ∃ f fd, FunW K x x st dd f fd ∧ mg x = some (.ref f) ∧ PySem.W.keepIn K (.ref f) = true
theorem defW_mk {oc dV kV doc pm cdv ct : Value} {od an : Option Addr} {osl : Array (Option Value)} (X : K.In h) (G : h.Ns mainGlobals mg) (a : PySem.W.nsIn K mainGlobals x = some (some (.ref f)))
    (l : K.lookup f = some ⟨oc, od, .func (PySem.W.fnOf x x (defArgs st) (defBody st) (defScope st) dV kV doc pm an cdv ct), osl⟩) (c : PySem.W.codeIn K cdv x = true) (k : PySem.W.keepIn K (.ref f) = true) (d : dflB K dV dd = true) : DefW K mg x st dd :=
  ⟨f, _, ⟨oc, od, dV, kV, doc, pm, an, cdv, ct, osl, rfl, l, c, d⟩, PySem.W.mg_of X G a, k⟩
/-- a def of a class -/
noncomputable def MemW (K : PySem.W.Frag) (C : Addr) (x qual : Str) (st : Stmt) (dd : List D) : Prop := ∃ f fd, FunW K x qual st dd f fd ∧ PySem.W.findIn K (.ref C) x = some (some (.ref f)) ∧ PySem.W.isFn K (.ref f) = true ∧ PySem.W.keepIn K (.ref f) = true
theorem memW_mk {C : Addr} {oc dV kV doc pm cdv ct : Value} {od an : Option Addr} {osl : Array (Option Value)} (a : PySem.W.findIn K (.ref C) x = some (some (.ref f)))
    (l : K.lookup f = some ⟨oc, od, .func (PySem.W.fnOf x qual (defArgs st) (defBody st) (defScope st) dV kV doc pm an cdv ct), osl⟩) (c : PySem.W.codeIn K cdv qual = true) (k : (PySem.W.isFn K (.ref f) && PySem.W.keepIn K (.ref f) && dflB K dV dd) = true) : MemW K C x qual st dd := by
  simp only [Bool.and_eq_true] at k
  exact ⟨f, _, ⟨oc, od, dV, kV, doc, pm, an, cdv, ct, osl, rfl, l, c, k.2⟩, a, k.1.1, k.1.2⟩
end
section
variable {P : Program} {w : World} {K : PySem.W.Frag} {mg : Str → Option Value} {base : Heap} {S : Sg} {k c n : Nat} {x qual : Str} {st : Stmt} {dd : List D} {ps ks : List Str} {l : List Src} {mf : List D → M D}
/-- the def x computes mf -/
noncomputable def FnW (P : Program) (w : World) (K : PySem.W.Frag) (mg : Str → Option Value) (base : Heap) (S : Sg) (k : Nat) (x : Str) (st : Stmt) (dd : List D) (ps : List Str) (mf : List D → M D) : Prop :=
  ∃ f fd, FnG P w K mg base k f fd ps (spM S mf) ∧ FunW K x x st dd f fd ∧ mg x = some (.ref f) ∧ PySem.W.keepIn K (.ref f) = true
theorem FnW.t {dvs : List D} (F : FnW P w K mg base S k x st dd ps mf) (hb : ∀ f fd, FunW K x x st dd f fd → Bd K fd ps n ks (dvs.map dvV) l) (hd : dvs.all dvFlat = true) : FnT P w K mg base S k x n ks dvs l mf := by
  obtain ⟨f, fd, h1, h2, h3, h4⟩ := F
  exact ⟨f, fd, ps, dvs.map dvV, h1, h3, h4, hb f fd h2, fun _ _ => dv_reps hd⟩
/-- the def x of the class number c computes mf -/
noncomputable def MfW (P : Program) (w : World) (K : PySem.W.Frag) (mg : Str → Option Value) (base : Heap) (S : Sg) (k c : Nat) (x qual : Str) (st : Stmt) (dd : List D) (ps : List Str) (mf : List D → M D) : Prop :=
  ∃ f fd, FnG P w K mg base k f fd ps (spM S mf) ∧ FunW K x qual st dd f fd ∧ PySem.W.findIn K (.ref (S.ca c)) x = some (some (.ref f)) ∧ PySem.W.isFn K (.ref f) = true ∧ PySem.W.keepIn K (.ref f) = true
theorem MfW.m {dvs : List D} (F : MfW P w K mg base S k c x qual st dd ps mf) (hc : clsB K (S.ca c) = true) (hx : (S.nm c).contains x = false) (hb : ∀ f fd, FunW K x qual st dd f fd → Bd K fd ps (n + 1) ks (dvs.map dvV) (.p 0 :: l.map Src.up)) (hd : dvs.all dvFlat = true) : MthT P w K mg base S k c x n ks (dvs, l, mf) := by
  obtain ⟨f, fd, h1, h2, h3, h4, h5⟩ := F
  exact ⟨f, fd, ps, dvs.map dvV, h1, ⟨h3, h4, h5⟩, clsB_of hc, hx, hb f fd h2, fun _ _ => dv_reps hd⟩
theorem MfW.o (F : MfW P w K mg base S k c x qual st [] ps mf) (hb : ∀ f fd, FunW K x qual st [] f fd → Bd K fd ps n [] [] ((List.range n).map .p)) : OwnT P w K mg base S k c x n mf := by
  obtain ⟨f, fd, h1, h2, h3, h4, h5⟩ := F
  exact ⟨f, fd, ps, h1, h3, h4, hb f fd h2⟩
theorem MthT.mono {j : Nat} {q : List D × List Src × (List D → M D)} (F : MthT P w K mg base S j c x n ks q) (h : Nat.ble j k = true) : MthT P w K mg base S k c x n ks q := by
  obtain ⟨f, fd, ps, dvs, h1, r⟩ := F
  exact ⟨f, fd, ps, dvs, h1.mono (Nat.le_of_ble_eq_true h), r⟩
theorem OwnT.mono {j : Nat} (F : OwnT P w K mg base S j c x n mf) (h : Nat.ble j k = true) : OwnT P w K mg base S k c x n mf := by
  obtain ⟨f, fd, ps, h1, r⟩ := F
  exact ⟨f, fd, ps, h1.mono (Nat.le_of_ble_eq_true h), r⟩
/-- the __init__ of the class number c computes the fields by mi -/
noncomputable def InW (P : Program) (w : World) (K : PySem.W.Frag) (mg : Str → Option Value) (base : Heap) (S : Sg) (k c : Nat) (qual : Str) (st : Stmt) (dd : List D) (ps : List Str) (mi : List D → M (List D)) : Prop :=
  ∃ f fd, FnG P w K mg base k f fd ("self" :: ps) (spO S c mi) ∧ FunW K "__init__" qual st dd f fd ∧ PySem.W.findIn K (.ref (S.ca c)) "__init__" = some (some (.ref f)) ∧ PySem.W.isFn K (.ref f) = true
theorem InW.t {dvs : List D} {mi : List D → M (List D)} (F : InW P w K mg base S k c qual st dd ps mi) (hm : mg x = some (.ref (S.ca c))) (mk : (PySem.W.makesIn K (S.ca c) && PySem.W.keepIn K (.ref (S.ca c))) = true) (hb : ∀ f fd, FunW K "__init__" qual st dd f fd → Bd K fd ("self" :: ps) (n + 1) ks (dvs.map dvV) (.p 0 :: l.map Src.up)) (hd : dvs.all dvFlat = true) : NewT P w K mg base S k c x n ks dvs l mi := by
  obtain ⟨f, fd, h1, h2, h3, h4⟩ := F
  simp only [Bool.and_eq_true] at mk
  exact ⟨f, fd, ps, dvs.map dvV, ⟨mk.1, h3, h4, mk.2⟩, h1, hm, hb f fd h2, fun _ _ => dv_reps hd⟩
/-- a table of one class -/
theorem tab1 {α : Type} {R : Nat → α → Prop} {c0 : Nat} {a0 : α} (h : R c0 a0) : ∀ c a, [(c0, a0)].lookup c = some a → R c a := fun c a e => by
  simp only [List.lookup_cons, List.lookup_nil] at e
  split at e
  · rename_i q
    cases e
    have : c = c0 := by simpa using q
    subst this; exact h
  · cases e
end
/-! ### C.f, a constant of the class -/
noncomputable def ccB (K : PySem.W.Frag) (C : Addr) (f : Str) (z : Cn) : Bool := PySem.W.readsIn K C (.type "type") && (PySem.W.specialIn K (.ref C) "__getattribute__" == some (some (.builtin "type.__getattribute__"))) && (match PySem.W.findCls K (.ref C) (.type "type") f with
  | some (.val u) => cnIs z u
  | _ => false)
section
variable {X : Cx} {m : Am} {j k c : Nat} {x f : Str} {p pos : Pos}
/-! ### str of an own object -/
noncomputable def dStrO (tbl : OTab) : List D → M D
  | [.obj c fs] => match tbl.lookup c with
    | some mf => ((mf [.obj c fs]).calm).bnd fun d => match d with
      | .str y => M.ret (.str y)
      | _ => M.stuck
    | none => M.stuck
  | ds => dStr1 ds
noncomputable def rStrO (m : Am) (tbl : OTab) : List V → Hp → VK → Prop := fun xs H Q => ∃ c mf a dx fs G p ds, tbl.lookup c = some mf ∧ xs = [.ref a] ∧ H a = some (.ins (m.S.ca c) dx fs) ∧ Wd m.S m.pen G H p ∧ Rep m.S G m.pen (.ref a) (.obj c ds) ∧
  Post m.S m.pen (fun G v d => Rep m.S G m.pen v d) G H (fun v H' => ∃ y, v = .str y ∧ Q (.str y) H') (fun _ _ _ => False) (mf [.obj c ds] p)
theorem call_strO {tbl : OTab} (B : Bx X m j) (T : ∀ c mf, tbl.lookup c = some mf → OwnT X.prog X.w X.K X.mg X.base m.S k c "__str__" 1 mf) (hk : Nat.ble (k + 2) j = true) : CallR X (.type "str") (rStrO m tbl) := by
  intro pins s σ H xs us Q I r h
  obtain ⟨c, mf, a, dx, fs, G, p, ds, el, rfl, ha, w, r1, h5⟩ := h
  obtain ⟨u, rfl, rx⟩ := vals1 r
  cases (show u = Value.ref a from rx)
  obtain ⟨f, fd, ps, F, hs, hf, hb⟩ := T c mf el
  obtain ⟨od, J⟩ := insInst I ha
  have hr : Room (k + 2) X.A := B.hr.mono (Nat.le_of_ble_eq_true hk)
  have hu : X.A.in1.in1.units < cLine := by have := hr.units; show X.A.units + 1 + 1 < cLine; omega
  refine PySem.W.kso_call hu I.kIn J hs hf ?_
  obtain ⟨its, vd, bd⟩ := hb.ex
  cases vd
  have bt := bd s [.ref a] [] I.kIn rfl rfl
  have sp : spM m.S mf [.ref a] H (fun v H' => ∃ y, v = .str y ∧ Q (.str y) H') (fun _ _ _ => False) := ⟨m.pen, G, p, _, w, .cons r1 .nil, h5⟩
  refine wpAny_call (codeAny_mono (F.run X.A.in1.in1 X.stack s H ⟨[.ref a], []⟩ [.ref a] [.ref a] _ (fun _ _ _ => False) B.hq hr.in1.in1 I.env0.in1.in1 bt (.cons rfl .nil) sp) fun r s' hq => ?_)
  cases r with
  | error e => exact B.pf pins σ H s e s' I hq
  | ok fl =>
    cases fl with
    | ret z =>
      obtain ⟨v', H', I', rv', y, ey, q⟩ := I.after hq
      subst ey
      obtain ⟨t, rfl⟩ := (show ∃ t, z = Value.str y t from rv')
      exact ⟨.str y, H', I', ⟨t, rfl⟩, q⟩
    | next => exact False.elim hq
    | brk => exact False.elim hq
    | cont => exact False.elim hq
theorem b_strO {tbl : OTab} (B : Bx X m j) (T : ∀ c mf, tbl.lookup c = some mf → OwnT X.prog X.w X.K X.mg X.base m.S k c "__str__" 1 mf) (hk : Nat.ble (k + 2) j = true) : BltT X m "str" (dStrO tbl) := by
  refine ⟨.inr ⟨_, _, rfl, CallR.or (CallR.or call_str_int SkE.call_str_str) (call_strO B T hk), ?_⟩⟩
  rintro σ xs H Q ⟨G, p, δ, ⟨u, ds⟩, w, sl, ⟨_, r⟩, h⟩
  have r : Reps m.S G m.pen xs ds := r
  by_cases ho : ∃ c fs, ds = [.obj c fs]
  · obtain ⟨c, fs, rfl⟩ := ho
    right
    cases r with
    | cons r1 r2 =>
      cases r2
      cases id r1 with
      | @obj a dx _ vs _ ha hl rr =>
        dsimp only [dStrO] at h
        cases e : tbl.lookup c with
        | none => rw [e] at h; exact h.elim
        | some mf =>
          rw [e] at h
          refine ⟨c, mf, a, dx, _, G, p, fs, e, rfl, w.sub _ _ ha, w, r1, ?_⟩
          dsimp only [M.bnd, M.calm] at h
          rcases he : mf [.obj c fs] p with _ | ⟨o, p1⟩
          · rw [he] at h; exact h
          · rw [he] at h
            cases o with
            | ex c' gs => exact h.elim
            | ok d =>
              intro v G' H' x' w' rv
              have rv : Rep m.S G' m.pen v d := rv
              cases rv with
              | str y => exact ⟨y, rfl, h (.str y) G' H' x' w' (.str y)⟩
              | _ => exact h.elim
  · left
    refine r_str1 σ xs H Q ⟨G, p, δ, ⟨u, ds⟩, w, sl, ⟨trivial, r⟩, ?_⟩
    have e : dStrO tbl ds = dStr1 ds := by
      match ds with
      | [] => rfl
      | [.obj c fs] => exact absurd ⟨_, _, rfl⟩ ho
      | [.non] => rfl
      | [.bl _] => rfl
      | [.int _] => rfl
      | [.str _] => rfl
      | [.tup _] => rfl
      | [.lst _] => rfl
      | [.dct _] => rfl
      | [.exc _ _] => rfl
      | [.cls _] => rfl
      | [.ty _] => rfl
      | [.pen] => rfl
      | [.clo _] => rfl
      | a :: _ :: _ => cases a <;> rfl
    dsimp only at h ⊢
    rw [e] at h
    exact h
end
end ME

/-! Facts of the top for plain classes, try, lambdas. -/
namespace ME
open PySem PySem.Spec PyProof.Rows L2
noncomputable def oclB (K : PySem.W.Frag) (C : Addr) : Bool := clsB K C && (PySem.W.findIn K (.ref C) "__class__" == some (some (.builtin "object.__class__"))) && (PySem.W.mroIn K C (.type "object") == some true)
theorem ocl_of {K : PySem.W.Frag} {C : Addr} (h : oclB K C = true) (b : bltB K = true) : OCl K C := by
  unfold oclB at h
  unfold bltB at b
  simp only [Bool.and_eq_true, beq_iff_eq] at h b
  exact ⟨clsB_of h.1.1, h.1.2, b.1, b.2, h.2⟩
noncomputable def exmB (K : PySem.W.Frag) (ca : Nat → Addr) (T : IsT) (ci : Nat) : Bool := T.xs.all fun c => PySem.W.exmOne K (.ref (ca c)) (.ref (ca ci)) == some (T.sub c ci)
theorem exm_of {S : Sg} {T : IsT} {ci : Nat} (h : exmB S.K S.ca T ci = true) : ExmF S T ci := fun c hc => beq_iff_eq.mp (List.all_eq_true.mp h c hc)
/-! ### tables of code objects -/
noncomputable def nodA : List Addr → Bool
  | [] => true
  | x :: r => !r.contains x && nodA r
noncomputable def tbsB (tb : List (Addr × Addr)) (q : List Str) : Bool := (tb.length == q.length) && nodA (tb.map (·.2))
theorem nodA_of : ∀ {l : List Addr}, nodA l = true → l.Nodup
  | [], _ => List.nodup_nil
  | x :: r, h => by
    simp only [nodA, Bool.and_eq_true, Bool.not_eq_true', List.contains_eq_mem, decide_eq_false_iff_not] at h
    exact List.nodup_cons.mpr ⟨h.1, nodA_of h.2⟩
theorem zip_mem {α β : Type} : ∀ {a : List α} {b : List β} {i : Nat} {x : α} {y : β}, a[i]? = some x → b[i]? = some y → (x, y) ∈ a.zip b
  | [], _, i, x, y, h, _ => by simp at h
  | _ :: _, [], i, x, y, _, h => by simp at h
  | p :: a, q :: b, 0, x, y, h1, h2 => by
    simp at h1 h2; subst h1 h2; simp
  | p :: a, q :: b, i + 1, x, y, h1, h2 => by
    rw [List.zip_cons_cons]
    exact List.mem_cons_of_mem _ (zip_mem (i := i) (by simpa using h1) (by simpa using h2))
theorem zip_uni {α β : Type} : ∀ {a : List α} {b : List β} {i : Nat} {x : α} {y : β}, a.Nodup → a[i]? = some x → b[i]? = some y → ∀ q ∈ a.zip b, q.1 = x → q.2 = y
  | [], _, i, x, y, _, h, _ => by simp at h
  | _ :: _, [], i, x, y, _, _, h => by simp at h
  | p :: a, q :: b, 0, x, y, nd, h1, h2 => fun z hz e => by
    simp at h1 h2; subst h1 h2
    rw [List.zip_cons_cons] at hz
    rcases List.mem_cons.mp hz with hz | hz
    · rw [hz]
    · have := (List.nodup_cons.mp nd).1
      have hm : z.1 ∈ a := (List.of_mem_zip (a := z.1) (b := z.2) hz).1
      rw [e] at hm
      exact absurd hm this
  | p :: a, q :: b, i + 1, x, y, nd, h1, h2 => fun z hz e => by
    rw [List.zip_cons_cons] at hz
    have h1' : a[i]? = some x := by simpa using h1
    rcases List.mem_cons.mp hz with hz | hz
    · rw [hz] at e
      have hm : x ∈ a := List.mem_of_getElem? h1'
      rw [← e] at hm
      exact absurd hm (List.nodup_cons.mp nd).1
    · exact zip_uni (i := i) (List.nodup_cons.mp nd).2 h1' (by simpa using h2) z hz e
theorem lamT_of {tb : List (Addr × Addr)} {qs : List Str} {i : Nat} {q : Str} (h : tbsB tb qs = true) (hi : ixB qs i q = true) :
    (((tb.getD i (0, 0)).2, q) ∈ (tb.map (·.2)).zip qs) ∧ (∀ z ∈ (tb.map (·.2)).zip qs, z.1 = (tb.getD i (0, 0)).2 → z.2 = q) ∧ tb.getD i (0, 0) ∈ tb := by
  unfold tbsB at h
  simp only [Bool.and_eq_true, beq_iff_eq] at h
  have h2 := ixB_of hi
  have hl : i < tb.length := by rw [h.1]; exact (List.getElem?_eq_some_iff.mp h2).1
  have e : tb[i]? = some (tb.getD i (0, 0)) := by
    rw [List.getD_eq_getElem?_getD, List.getElem?_eq_getElem hl]; rfl
  have e2 : (tb.map (·.2))[i]? = some (tb.getD i (0, 0)).2 := by rw [List.getElem?_map, e]; rfl
  exact ⟨zip_mem e2 h2, zip_uni (nodA_of h.2) e2 h2, List.mem_of_getElem? e⟩
theorem tabs_start {tb : List (Addr × Addr)} {qs : List Str} {H : Hp} (h : ∀ p ∈ tb, H p.2 = some (.tbl #[])) : LamX.Tabs ((tb.map (·.2)).zip qs) H := fun q hq => by
  have := (List.of_mem_zip (a := q.1) (b := q.2) hq).1
  obtain ⟨p, hp, e⟩ := List.mem_map.mp this
  exact LamX.TabS.nil (by rw [← e]; exact h p hp)
/-- a def that makes lambdas: its code object is known -/
noncomputable def DefC (K : PySem.W.Frag) (mg : Str → Option Value) (x : Str) (st : Stmt) (dd : List D) (c : Addr) : Prop := ∃ f fd, FunW K x x st dd f fd ∧ mg x = some (.ref f) ∧ PySem.W.keepIn K (.ref f) = true ∧ fd.code = .ref c
theorem defC_mk {K : PySem.W.Frag} {h : Heap} {mg : Str → Option Value} {x : Str} {st : Stmt} {dd : List D} {f c : Addr} {oc dV kV doc pm ct : Value} {od an : Option Addr} {osl : Array (Option Value)} (X : K.In h) (G : h.Ns mainGlobals mg) (a : PySem.W.nsIn K mainGlobals x = some (some (.ref f)))
    (l : K.lookup f = some ⟨oc, od, .func (PySem.W.fnOf x x (defArgs st) (defBody st) (defScope st) dV kV doc pm an (.ref c) ct), osl⟩) (cc : PySem.W.codeIn K (.ref c) x = true) (k : PySem.W.keepIn K (.ref f) = true) (d : dflB K dV dd = true) : DefC K mg x st dd c :=
  ⟨f, _, ⟨oc, od, dV, kV, doc, pm, an, .ref c, ct, osl, rfl, l, cc, d⟩, PySem.W.mg_of X G a, k, rfl⟩
noncomputable def hdsB (K : PySem.W.Frag) (tb : List (Addr × Addr)) : Bool := tb.all fun p => PySem.W.codeHdIn K p.1 p.2 && (K.lookup p.2).isNone
theorem hds_of {K : PySem.W.Frag} {tb : List (Addr × Addr)} {h : Heap} (X : K.In h) (e : hdsB K tb = true) : (∀ p ∈ tb, K.lookup p.2 = none) ∧ ∀ p ∈ tb, PySem.W.CodeHd h p.1 p.2 := by
  unfold hdsB at e
  refine ⟨fun p hp => ?_, fun p hp => ?_⟩
  · have := List.all_eq_true.mp e p hp
    simp only [Bool.and_eq_true, Option.isNone_iff_eq_none] at this
    exact this.2
  · have := List.all_eq_true.mp e p hp
    simp only [Bool.and_eq_true] at this
    exact PySem.W.codeHd_of_K X this.1
theorem tbs_in {tb : List (Addr × Addr)} {ts : List Addr} {h : Heap} (Y : ∀ P ∈ ts, h.get? P = some (PySem.W.tabObj #[])) (e : (tb.all fun p => ts.contains p.2) = true) : ∀ p ∈ tb, h.get? p.2 = some objT := fun p hp => by
  have := List.all_eq_true.mp e p hp
  exact Y p.2 (by simpa using this)
/-! ### a def that hears what a call says -/
/-- its result by what the call did: I gives the slots δ1 behind the first, Kd what is done with a value, R the rest -/
noncomputable def heardR (T : IsT) (ci i j : Nat) (δ1 : DS) (Kd : D → DS ⊕ D) (R : SX) (act : M D) : M D := fun p => match act p with
  | none => none
  | some (.ok d, p') => (match Kd d with
    | .inl δ2 => outOf (R (none :: δ2) p')
    | .inr r => some (.ok r, p'))
  | some (.ex c fs, p') => if T.xs.contains c && decide (i < δ1.length) then (if T.sub c ci then outOf (R (none :: ((δ1.set j (some (.d (.exc c fs)))).set i none)) p') else some (.ex c fs, p')) else none
noncomputable def kdOf (f : Nat) (p : Pn) : DS ⊕ D → Option (Fl × Pn)
  | .inl δ => some (.nx (some (.d (.clo f)) :: δ), p)
  | .inr r => some (.rt r, p)
theorem heard_u {T : IsT} {ci i j n : Nat} {k : D → SX} {I R : SX} {δ1 : DS} {Kd : D → DS ⊕ D} (hI : ∀ (f : Nat) (p : Pn), I (dsOf n [.clo f]) p = some (.nx (some (.d (.clo f)) :: δ1), p))
    (hk : ∀ (f : Nat) (d : D) (p : Pn), k d (some (.d (.clo f)) :: δ1) p = kdOf f p (Kd d)) (f : Nat) (act : M D) (p : Pn) :
    outOf (sSeq I (sSeq (sTry T ci (i + 1) (j + 1) (sBnd (mAct f act) k)) (sDrop 0 R)) (dsOf n [.clo f]) p) = heardR T ci i j δ1 Kd R act p := by
  unfold sSeq
  rw [hI]
  dsimp only [sTry, sBnd, heardR]
  rw [mAct_at]
  rcases act p with _ | ⟨o, p1⟩
  · rfl
  · cases o with
    | ok d =>
      dsimp only
      rw [hk]
      cases Kd d with
      | inl δ2 => rfl
      | inr r => rfl
    | ex c fs =>
      dsimp only
      have e : decide (i + 1 < (some (Sl.d (D.clo f)) :: δ1).length) = decide (i < δ1.length) := by simp
      rw [e]
      cases h1 : (T.xs.contains c && decide (i < List.length δ1)) with
      | false => rfl
      | true =>
        cases h2 : T.sub c ci with
        | false => rfl
        | true => rfl
/-! ### not x as a value -/
noncomputable def mNotV (a : EX) : EX := fun δ => (a δ).bnd fun x => (M.opt (dB x)).bnd fun k => M.ret (.bl (!k))
theorem me_not {X : Cx} {m : Am} {a : Expr} {ea : EX} {pos : Pos} (ha : PE X a (tE m ea)) : PE X (.UnaryOp .Not a pos) (tE m (mNotV ea)) := by
  refine PE.imp (pe_not ha) fun σ H Q h => ?_
  refine (tY_bind (R1 := m.rE) r0_mono h).imp fun x H1 h2 => ?_
  obtain ⟨G, p, δ, ⟨_, d⟩, w, sl, ⟨_, r⟩, h5⟩ := h2
  have r : Rep m.S G m.pen x d := r
  cases r with
  | bl k => exact ⟨k, rfl, h5 (.bl (!k)) G H1 Ex.refl w (.bl _)⟩
  | _ => exact h5.elim
end ME

/-! Texts: methods, slices, int of a text. -/
namespace ME
open PySem PySem.Spec PyProof.Rows L2
/-! ### o.m(e, ..), o a text -/
noncomputable def mSM (f : Str → List D → M D) (eo : EX) (ra : AX) : EX := fun δ => (eo δ).bnd fun x => match x with
  | .str a => (ra δ).bnd fun xs => f a xs
  | _ => M.stuck
noncomputable def dSplit (a : Str) : List D → M D
  | [.str b] => if (b.length != 0) && decide (a.length + 2 ≤ 16777216) then M.ret (.lst ((Txt.split a b).map .str)) else M.stuck
  | _ => M.stuck
noncomputable def dPart (a : Str) : List D → M D
  | [.str b] => if (b.length != 0) && decide (a.length ≤ 16777216) then M.ret (.tup [.str (Txt.partition a b).1, .str (Txt.partition a b).2.1, .str (Txt.partition a b).2.2]) else M.stuck
  | _ => M.stuck
section
variable {X : Cx} {m : Am} {o e : Expr} {es : List Expr} {eo : EX} {ra : AX} {apos cpos : Pos} {name : Str} {id : String} {r : V → List V → Hp → VK → Prop} {f : Str → List D → M D}
noncomputable def RMOk (m : Am) (r : V → List V → Hp → VK → Prop) (f : Str → List D → M D) : Prop := ∀ (a : Str) (xs : List V) (H : Hp) (Q : VK) (E : XK) (G : Hp) (p : Pn) (ds : List D), Wd m.S m.pen G H p → Reps m.S G m.pen xs ds → Post m.S m.pen m.rE G H Q E (f a ds p) → r (.str a) xs H Q
/-! ### x[lo:hi] of a text or a list -/
noncomputable def mPart : Option EX → DS → M (Option Int)
  | none, _ => M.ret none
  | some e, δ => (e δ).bnd fun d => match d with
    | .int i => M.ret (some i)
    | _ => M.stuck
noncomputable def cutD (xs : List D) (lo hi : Option Int) : List D := (xs.drop (HT.sIx xs.length 0 lo)).take (HT.sIx xs.length xs.length hi - HT.sIx xs.length 0 lo)
noncomputable def dSl : D → Option Int → Option Int → M D
  | .str z, lo, hi => if szOk z.length then M.ret (.str (cutS z lo hi)) else M.stuck
  | .lst l, lo, hi => M.ret (.lst (cutD l lo hi))
  | _, _, _ => M.stuck
noncomputable def mSl (eo : EX) (lo hi : Option EX) : EX := fun δ => (eo δ).bnd fun x => (mPart lo δ).bnd fun l => (mPart hi δ).bnd fun u => dSl x l u
noncomputable def rO : Rl (Option Int) (Option Int) := fun _ a b => a = b
noncomputable def tO (m : Am) (e : Option EX) : TO := fun σ H Q => tY m r0 rO () (fun _ => mPart e) σ H Q
/-! ### int of a text -/
noncomputable def dIntT : List D → M D
  | [.str a] => match PySem.intText? a with
    | some n => if decide (a.length ≤ 640) then M.ret (.int n) else M.stuck
    | none => M.stuck
  | ds => dInt1 ds
/-! ### x[::-1] of a text -/
noncomputable def revS (z : Str) : Str := ⟨((Builtin.Str.strSliceIndices none none (-1) z.length).filterMap (z.cps[·]?)).toArray⟩
noncomputable def dRevS : D → M D
  | .str z => if szOk z.length && szOk (revS z).length then M.ret (.str (revS z)) else M.stuck
  | _ => M.stuck
end
end ME

/-! C.m(..), m a classmethod. -/
namespace ME
open PySem PySem.Spec PyProof.Rows L2
/-- the arguments of a bound method's call -/
structure PAM (X : Cx) (es : List Expr) (kws : List Keyword) (n : Nat) (ks : List Str) (t : TK) : Prop where
  run : ∀ (pos : Pos) (q g : Addr) (self : Value) (pins : List (Addr × Obj)) (s : Shared) (σ : L2.St) (H : Hp) (R : List V → List V → Hp → Prop) (Q : Value → Shared → Prop), PySem.W.fnIn X.K g = true → Inv X ((q, PySem.W.methodObj (.ref g) self) :: pins) σ H s → t σ H R →
    (∀ us ws s2 vs zs H2, Inv X ((q, PySem.W.methodObj (.ref g) self) :: pins) σ H2 s2 → Vals vs us → Vals zs ws → us.length = n → ws.length = ks.length → R vs zs H2 → wpAny (model X.prog X.w) X.A (call (.ref q) us (ks.zip ws)) Q X.xe s2) →
    wpAny (model X.prog X.w) X.A (callWith pos (.ref q) [] (backTo pos (starEach es X.env)) (backToKw pos (keywordEach kws X.env))) Q X.xe s
section
variable {X : Cx} {m : Am} {e : Expr} {es : List Expr} {kws : List Keyword} {ks : List Str} {ra rk : AX} {n : Nat}
end
/-- the classmethod nm of the class number c -/
noncomputable def CmW (K : PySem.W.Frag) (C : Addr) (x qual : Str) (st : Stmt) (dd : List D) : Prop := ∃ p f fd, FunW K x qual st dd f fd ∧ ClX.CRead K C (.type "type") ∧ ClX.CMet K C (.type "type") x p f
noncomputable def CfW (P : Program) (w : World) (K : PySem.W.Frag) (mg : Str → Option Value) (base : Heap) (S : Sg) (k c : Nat) (x qual : Str) (st : Stmt) (dd : List D) (ps : List Str) (mf : List D → M D) : Prop :=
  ∃ p f fd, FnG P w K mg base k f fd ps (spM S mf) ∧ FunW K x qual st dd f fd ∧ ClX.CRead K (S.ca c) (.type "type") ∧ ClX.CMet K (S.ca c) (.type "type") x p f
noncomputable def CmT (P : Program) (w : World) (K : PySem.W.Frag) (mg : Str → Option Value) (base : Heap) (S : Sg) (k c : Nat) (x : Str) (n : Nat) (ks : List Str) (dd : List D) (l : List Src) (mf : List D → M D) : Prop :=
  ∃ p f fd ps dvs, FnG P w K mg base k f fd ps (spM S mf) ∧ ClX.CRead K (S.ca c) (.type "type") ∧ ClX.CMet K (S.ca c) (.type "type") x p f ∧ Bd K fd ps (n + 1) ks dvs (.p 0 :: l.map Src.up) ∧ ∀ G pen, Reps S G pen dvs dd
noncomputable def mCM (c : Nat) (f : List D → M D) (n k : Nat) (dd : List D) (l : List Src) (a b : AX) : EX := fun δ => (a δ).bnd fun x => (b δ).bnd fun y => if x.length = n ∧ y.length = k then f (.cls c :: pick x dd y l) else M.stuck
section
variable {X : Cx} {m : Am} {j k n c : Nat} {es : List Expr} {kws : List Keyword} {ks : List Str} {ra rk : AX} {pos apos p : Pos} {x y : Str} {dd : List D} {l : List Src} {mf : List D → M D} {pl : Sem Bool}
end
end ME

/-! Properties of own classes. -/
namespace ME
open PySem PySem.Spec PyProof.Rows L2
noncomputable def PrW (K : PySem.W.Frag) (C : Addr) (f qual : Str) (st : Stmt) : Prop := ∃ p g fd, FunW K f qual st [] g fd ∧ PropOf K C f p g ∧ Cls K C
theorem prW_mk {K : PySem.W.Frag} {C p g : Addr} {f qual : Str} {st : Stmt} {rest : List Value} {oc dV kV doc pm cdv ct : Value} {od an : Option Addr} {osl : Array (Option Value)} (a : PySem.W.findIn K (.ref C) f = some (some (.ref p)))
    (r : PySem.W.recIn K p "property" = some (.ref g :: rest)) (l : K.lookup g = some ⟨oc, od, .func (PySem.W.fnOf f qual (defArgs st) (defBody st) (defScope st) dV kV doc pm an cdv ct), osl⟩) (c : PySem.W.codeIn K cdv qual = true)
    (k : ((PySem.W.specialIn K (.ref p) "__get__" == some (some (.builtin "property.__get__"))) && (PySem.W.takesIn K (.ref p) == some true) && clsB K C && dflB K dV []) = true) : PrW K C f qual st := by
  simp only [Bool.and_eq_true, beq_iff_eq] at k
  exact ⟨p, g, _, ⟨oc, od, dV, kV, doc, pm, an, cdv, ct, osl, rfl, l, c, k.2⟩, ⟨a, k.1.1.1, k.1.1.2, rest, r⟩, clsB_of k.1.2⟩
/-- the property f of the class number c computes mf -/
noncomputable def PropT (P : Program) (w : World) (K : PySem.W.Frag) (mg : Str → Option Value) (base : Heap) (S : Sg) (k c : Nat) (f : Str) (mf : List D → M D) : Prop :=
  ∃ p g fd ps, FnG P w K mg base k g fd ps (spM S mf) ∧ PropOf K (S.ca c) f p g ∧ Cls K (S.ca c) ∧ Bd K fd ps 1 [] [] [.p 0]
theorem PropT.mono {P : Program} {w : World} {K : PySem.W.Frag} {mg : Str → Option Value} {base : Heap} {S : Sg} {j k c : Nat} {f : Str} {mf : List D → M D} (F : PropT P w K mg base S j c f mf) (h : Nat.ble j k = true) : PropT P w K mg base S k c f mf := by
  obtain ⟨p, g, fd, ps, h1, r⟩ := F
  exact ⟨p, g, fd, ps, h1.mono (Nat.le_of_ble_eq_true h), r⟩
section
variable {X : Cx} {m : Am} {j k : Nat} {f : Str} {e : Expr} {ea : EX} {pos : Pos}
theorem me_prop {tbl : OTab} (B : Bx X m j) (T : ∀ c mf, tbl.lookup c = some mf → PropT X.prog X.w X.K X.mg X.base m.S k c f mf) (hk : Nat.ble (k + 1) j = true) (he : PE X e (tE m ea)) (hab : attributeBase e f X.env (eval e X.env) = eval e X.env := by rfl) : PE X (.Attribute e f pos) (tE m (mUn (dOwn1 tbl) ea)) := by
  refine ⟨fun pins s σ H Q I h => ?_⟩
  refine attr_of hab (thn (he.run pins s σ H _ I (tY_bind (R1 := m.rE) r0_mono h)) fun u s1 ⟨x, H1, I1, rx, h2⟩ => ?_)
  obtain ⟨G, p, δ, ⟨_, d⟩, w, sl, ⟨_, r⟩, h3⟩ := h2
  have r : Rep m.S G m.pen x d := r
  cases id r with
  | @obj a dx c vs ds ha hl rr =>
    dsimp only [dOwn1] at h3
    cases el : tbl.lookup c with
    | none => rw [el] at h3; exact h3.elim
    | some mf =>
      rw [el] at h3
      obtain ⟨pa, g, fd, ps, F, hp, hc, hb⟩ := T c mf el
      cases (show u = Value.ref a from rx)
      obtain ⟨mA, O, _⟩ := ins_get I1.hok (w.sub _ _ ha)
      obtain ⟨od, J, _⟩ := O.look
      obtain ⟨rest, hrec⟩ := hp.rec_
      have I2 := I1.tok (s1.toks + 1)
      have hr : Room (k + 1) X.A := B.hr.mono (Nat.le_of_ble_eq_true hk)
      have hcl : (PySem.W.clsIn X.K (m.S.ca c)).isSome = true := by
        obtain ⟨cd, q, _⟩ := PySem.W.any_some hc.hd
        rw [q]; rfl
      refine PySem.W.get_bind I1.kIn J (PySem.W.plainGet_of (hc.get f)).1 (PySem.W.findObj_data hcl hp.at_ hp.get hp.tak) (PySem.W.plainGet_of (hc.get f)).2 (wpAny_call (PySem.W.prop_get (s := { s1 with toks := s1.toks + 1 }) I1.kIn hrec ?_))
      obtain ⟨its, vd, bd⟩ := hb.ex
      cases vd
      have bt := bd { s1 with toks := s1.toks + 1 } [.ref a] [] I2.kIn rfl rfl
      have sp : spM m.S mf [.ref a] H1 Q (fun _ _ _ => False) := ⟨m.pen, G, p, _, w, .cons r .nil, post_calm h3⟩
      refine codeAny_mono (F.run X.A.in1 X.stack { s1 with toks := s1.toks + 1 } H1 ⟨[.ref a], []⟩ [.ref a] [.ref a] Q (fun _ _ _ => False) B.hq hr.in1 I2.env0.in1 bt (.cons rfl .nil) sp) fun r s' hq => ?_
      cases r with
      | error er =>
        obtain ⟨_, _, _, _, _, _, _, _, _, _, _, _, z⟩ := hq
        exact z.elim
      | ok fl =>
        cases fl with
        | ret u =>
          obtain ⟨v, H', I3, rv, q3⟩ := I2.after hq
          show wpAny _ _ (handedOut u) _ _ _
          rw [PySem.W.handedOut_of (handed_of rv)]
          exact wpAny_pure ⟨v, H', I3, rv, q3⟩
        | next => exact False.elim hq
        | brk => exact False.elim hq
        | cont => exact False.elim hq
  | _ => exact h3.elim
end
end ME

/-! sorted(set(texts)), len(set(texts)). The first half turns the library's walk through sets of ints to texts. -/
namespace ME
open PySem PySem.Spec PyProof.Rows L2
noncomputable abbrev strKind := PySem.strKind
noncomputable def keyS (e : Int × Value) : Str := match e.2 with | .str k _ => k | _ => Str.empty
noncomputable def GoodS (w : World) (e : Int × Value) : Prop := ∃ k tk, e.2 = Value.str k tk ∧ e.1 = hashStr w k
noncomputable def SetRS (P : Program) (w : World) (h : Heap) (a : Addr) (S : Str → Bool) (n : Nat) : Prop :=
  ∃ o es ep t, h.get? a = some o ∧ o.ExactSet ∧ o.data = .set es ep t ∧ (∀ e ∈ es.toList, GoodS w e) ∧ (es.toList.map keyS).Nodup ∧ (∀ k, S k = true ↔ k ∈ es.toList.map keyS) ∧
    es.size < scanBound ∧ t.fits es.size = true ∧ es.size = n ∧ Ris t.place.toList ∧ (w.params.followText "set-order" = true ∨ t.led = true)
section
variable {P : Program} {w : World} {h h' : Heap} {a : Addr} {S : Str → Bool} {n : Nat}
end
section
variable {P : Program} {w : World} {A : Around} {E : Value → Shared → Prop} {s : Shared} {a : Addr} {S : Str → Bool} {n : Nat}
end
end ME

/-! sorted(set(texts)), len(set(texts)), sorted(texts) as mirrors. -/
namespace ME
open PySem PySem.Spec PyProof.Rows L2
noncomputable def ltS (x y : Str) : Bool := ltCps x.cps.toList y.cps.toList
noncomputable def insU (x : Str) : List Str → List Str
  | [] => [x]
  | y :: r => if x == y then y :: r else if ltS x y then x :: y :: r else y :: insU x r
noncomputable def srtU : List Str → List Str
  | [] => []
  | x :: r => insU x (srtU r)
theorem ltS_iff {x y : Str} : ltS x y = true ↔ x.cps.toList < y.cps.toList := by
  unfold ltS; rw [ltCps_eq]; simp
noncomputable abbrev Asc (l : List Str) : Prop := l.Pairwise fun a b => ltS a b = true
noncomputable def dSSet : D → M D
  | .lst l => match strsOf l with
    | some xs => if decide (xs.length < 63) then M.ret (.lst ((srtU xs).map D.str)) else M.stuck
    | none => M.stuck
  | _ => M.stuck
noncomputable def dLSet : D → M D
  | .lst l => match strsOf l with
    | some xs => if decide (xs.length < 63) then M.ret (.int ((srtU xs).length : Int)) else M.stuck
    | none => M.stuck
  | _ => M.stuck
section
variable {X : Cx} {m : Am} {j : Nat} {a : Expr} {ea : EX} {p p2 q pos : Pos}
end
end ME

/-! def f(a, *v); f(*x); C(..) by such an __init__; staticmethods. -/
namespace ME
open PySem PySem.Spec PyProof.Rows L2
/-- a def with a star parameter behind n others keeps the promise sp (the star's tuple laid) -/
noncomputable def FnV (P : Program) (w : World) (K : PySem.W.Frag) (mg : Str → Option Value) (base : Heap) (k : Nat) (f : Addr) (n : Nat) (sp : Sp) : Prop :=
  ∀ (A : Around) (outer : List Env) (s : Shared) (H : Hp) (us : List Value) (vs : List V) (Q : VK) (E : XK), A.guards = some [] → Room k A → Env0 P w K mg base A outer s H → Vals vs us → n ≤ vs.length → vs.length ≤ sizeLine →
    (∀ p, H p = none → sp (vs.take n ++ [.ref p]) (upd H p (.tup (vs.drop n))) Q E) → codeAny (model P w) A (.call (.ref f) ⟨us, []⟩) (CR (L2.CX P w) outer P w H s Q E) s
noncomputable def BdV (fd : FuncData) (ps : List Str) (pv : Str) : Prop := ∀ us rest : List Value, us.length = ps.length → bindArgs fd ⟨us ++ rest, []⟩ = (newTuple rest >>= fun t => pure (ps.zip us ++ [(pv, t)]))
section
variable {P : Program} {w : World} {K : PySem.W.Frag} {mg : Str → Option Value} {base : Heap} {x qual : Str} {st : Stmt} {f : Addr} {fd : FuncData} {N ps : List Str} {pv : Str} {k : Nat} {sp : Sp}
end
/-! ### positional arguments of any number -/
structure PAS (X : Cx) (es : List Expr) (t : TA) : Prop where
  run : ∀ (pos : Pos) (f : Value) (first : List Value) (pins : List (Addr × Obj)) (s : Shared) (σ : L2.St) (H : Hp) (R : List V → Hp → Prop) (Q : Value → Shared → Prop), PySem.W.keepIn X.K f = true → Inv X pins σ H s → t σ H R →
    (∀ us s2 vs H2, Inv X pins σ H2 s2 → Vals vs us → R vs H2 → wpAny (model X.prog X.w) X.A (call f (first ++ us)) Q X.xe s2) →
    wpAny (model X.prog X.w) X.A (callWith pos f first (backTo pos (starEach es X.env)) (backToKw pos (keywordEach [] X.env))) Q X.xe s
noncomputable def dItems : D → M (List D)
  | .tup l => M.ret l
  | .lst l => M.ret l
  | _ => M.stuck
noncomputable def mStar (a : EX) : AX := fun δ => (a δ).bnd dItems
section
variable {X : Cx} {m : Am} {e : Expr} {es : List Expr} {ra : AX} {ea : EX} {sp_ : Pos}
end
/-! ### C(..), __init__(self, *v) -/
noncomputable def mNewS (c : Nat) (f : List D → M (List D)) (a : AX) : EX := fun δ => (a δ).bnd fun x => if szOk (x.length + 1) then (f [.tup x]).bnd fun fs => M.ret (.obj c fs) else M.stuck
noncomputable def NewV (P : Program) (w : World) (K : PySem.W.Frag) (mg : Str → Option Value) (base : Heap) (S : Sg) (k c : Nat) (x : Str) (f : List D → M (List D)) : Prop :=
  ∃ fI, Mk K (S.ca c) fI ∧ FnV P w K mg base k fI 1 (spO S c f) ∧ mg x = some (.ref (S.ca c))
section
variable {X : Cx} {m : Am} {j k c : Nat} {es : List Expr} {ra : AX} {pos p : Pos} {x : Str}
end
end ME

/-! C.m(..), m a staticmethod. -/
namespace ME
open PySem PySem.Spec PyProof.Rows L2
structure CSta (K : PySem.W.Frag) (C : Addr) (x : Str) (p f : Addr) : Prop where
  at_ : PySem.W.findCls K (.ref C) (.type "type") x = some (.get (.builtin "staticmethod.__get__") (.ref p) .none (.ref C))
  rc : ∃ rest, PySem.W.recIn K p "staticmethod" = some (.ref f :: rest)
  kp : PySem.W.keepIn K (.ref f) = true
/-- the staticmethod x of the class at C -/
noncomputable def SmW (K : PySem.W.Frag) (C : Addr) (x qual : Str) (st : Stmt) (dd : List D) : Prop := ∃ p f fd, FunW K x qual st dd f fd ∧ ClX.CRead K C (.type "type") ∧ CSta K C x p f
theorem smW_mk {K : PySem.W.Frag} {C p f : Addr} {x qual : Str} {st : Stmt} {dd : List D} {rest : List Value} {oc dV kV doc pm cdv ct : Value} {od an : Option Addr} {osl : Array (Option Value)} (a : PySem.W.findCls K (.ref C) (.type "type") x = some (.get (.builtin "staticmethod.__get__") (.ref p) .none (.ref C)))
    (r : PySem.W.recIn K p "staticmethod" = some (.ref f :: rest)) (l : K.lookup f = some ⟨oc, od, .func (PySem.W.fnOf x qual (defArgs st) (defBody st) (defScope st) dV kV doc pm an cdv ct), osl⟩) (c : PySem.W.codeIn K cdv qual = true)
    (k : (PySem.W.readsIn K C (.type "type") && (PySem.W.specialIn K (.ref C) "__getattribute__" == some (some (.builtin "type.__getattribute__"))) && PySem.W.keepIn K (.ref f) && dflB K dV dd) = true) : SmW K C x qual st dd := by
  simp only [Bool.and_eq_true, beq_iff_eq] at k
  exact ⟨p, f, _, ⟨oc, od, dV, kV, doc, pm, an, cdv, ct, osl, rfl, l, c, k.2⟩, ⟨k.1.1.1, k.1.1.2⟩, ⟨a, ⟨rest, r⟩, k.1.2⟩⟩
noncomputable def SfW (P : Program) (w : World) (K : PySem.W.Frag) (mg : Str → Option Value) (base : Heap) (S : Sg) (k c : Nat) (x qual : Str) (st : Stmt) (dd : List D) (ps : List Str) (mf : List D → M D) : Prop :=
  ∃ p f fd, FnG P w K mg base k f fd ps (spM S mf) ∧ FunW K x qual st dd f fd ∧ ClX.CRead K (S.ca c) (.type "type") ∧ CSta K (S.ca c) x p f
noncomputable def StT (P : Program) (w : World) (K : PySem.W.Frag) (mg : Str → Option Value) (base : Heap) (S : Sg) (k c : Nat) (x : Str) (n : Nat) (ks : List Str) (dd : List D) (l : List Src) (mf : List D → M D) : Prop :=
  ∃ p f fd ps dvs, FnG P w K mg base k f fd ps (spM S mf) ∧ ClX.CRead K (S.ca c) (.type "type") ∧ CSta K (S.ca c) x p f ∧ Bd K fd ps n ks dvs l ∧ ∀ G pen, Reps S G pen dvs dd
theorem SfW.t {P : Program} {w : World} {K : PySem.W.Frag} {mg : Str → Option Value} {base : Heap} {S : Sg} {k c n : Nat} {x qual : Str} {st : Stmt} {dd dvs : List D} {ps ks : List Str} {l : List Src} {mf : List D → M D} (F : SfW P w K mg base S k c x qual st dd ps mf)
    (hb : ∀ f fd, FunW K x qual st dd f fd → Bd K fd ps n ks (dvs.map dvV) l) (hd : dvs.all dvFlat = true) : StT P w K mg base S k c x n ks dvs l mf := by
  obtain ⟨p, f, fd, h1, h2, h3, h4⟩ := F
  exact ⟨p, f, fd, ps, dvs.map dvV, h1, h3, h4, hb f fd h2, fun _ _ => dv_reps hd⟩
/-- .. with a star alone -/
noncomputable def StV (P : Program) (w : World) (K : PySem.W.Frag) (mg : Str → Option Value) (base : Heap) (S : Sg) (k c : Nat) (x : Str) (mf : List D → M D) : Prop :=
  ∃ p f, FnV P w K mg base k f 0 (spM S mf) ∧ ClX.CRead K (S.ca c) (.type "type") ∧ CSta K (S.ca c) x p f
noncomputable def mCallS (f : List D → M D) (a : AX) : EX := fun δ => (a δ).bnd fun x => if szOk x.length then f [.tup x] else M.stuck
section
variable {X : Cx} {m : Am} {j k n c : Nat} {es : List Expr} {kws : List Keyword} {ks : List Str} {ra rk : AX} {pos apos p : Pos} {x y : Str} {dd : List D} {l : List Src} {mf : List D → M D} {pl : Sem Bool}
theorem sta_get {pins : List (Addr × Obj)} {s : Shared} {σ : L2.St} {H : Hp} {C pr f : Addr} {Q : Value × List Value → Shared → Prop} {E : Value → Shared → Prop} (I : Inv X pins σ H s) (hR : ClX.CRead X.K C (.type "type")) (hS : CSta X.K C x pr f) (h : ∀ s', Inv X pins σ H s' → Q (.ref f, []) s') :
    wpAny (model X.prog X.w) X.A (getMethod (.ref C) x pl) Q E s := by
  obtain ⟨rest, hp⟩ := hS.rc
  refine PySem.W.method_cls I.kIn hR.ga (PySem.W.cls_bind I.kIn hR.rd hS.at_ ?_)
  exact wpAny_call (PySem.W.sm_get (s := { s with toks := s.toks + 1 }) I.kIn hp (PySem.W.handed_on rfl (h _ (I.tok _))))
theorem me_stm (B : Bx X m j) (T : StT X.prog X.w X.K X.mg X.base m.S k c x n ks dd l mf) (hk : Nat.ble k j = true) (hm : X.mg y = some (.ref (m.S.ca c))) (hg : gloB X.env.scope y = true) (hy : nmB y = true) (ha : PAK X es kws n ks (tAK m n ks.length ra rk))
    (ht : eval (.Call (.Attribute (.Name y p) x apos) es kws pos) X.env = (do
      let ov ← eval (.Name y p) X.env
      standAt apos.atName
      let (f, first) ← holding [ov] (getMethod ov x pl)
      callWith pos f first (backTo pos (starEach es X.env)) (backToKw pos (keywordEach kws X.env))) := by rfl) :
    PE X (.Call (.Attribute (.Name y p) x apos) es kws pos) (tE m (mCallK mf n ks.length dd l ra rk)) := by
  obtain ⟨pr, f, fd, ps, dvs, F, hR, hS, hb, hdd⟩ := T
  have F := F.mono (Nat.le_of_ble_eq_true hk)
  refine ⟨fun pins s σ H Q I h => ?_⟩
  refine PySem.W.methodCall_KW (pl := pl) (ld_glob I (gl_of hg) hm ?_ (nmB_of hy).1) ht
  refine sta_get I hR hS fun s1 I1 => ?_
  refine ha.run pos (.ref f) [] pins s1 σ H _ _ hS.kp I1 (tAK_of h) fun us ws s2 vs zs H2 I2 r rz l1 l2 ⟨G, p, δ, ds, es, w, sl, r1, r2, h5⟩ => ?_
  obtain ⟨its, vd, bd⟩ := hb.ex
  have sp : spM m.S mf (pick vs dvs zs l) H2 Q (WE m.W σ) := ⟨m.pen, G, p, pick ds dd es l, w, reps_pick r1 (hdd G m.pen) r2 l, h5⟩
  refine wpAny_call (codeAny_mono (F.run X.A X.stack s2 H2 ⟨us, ks.zip ws⟩ (pick us its ws l) (pick vs dvs zs l) Q (WE m.W σ) B.hq B.hr I2.env0 (bd s2 us ws I2.kIn l1 l2) (vals_pick r vd rz l) sp) fun r s' hq => ?_)
  cases r with
  | error e => exact passAt B.tk σ pins H2 s2 e s' I2 hq
  | ok fl =>
    cases fl with
    | ret u => exact I2.after hq
    | next => exact False.elim hq
    | brk => exact False.elim hq
    | cont => exact False.elim hq
end
end ME

/-! enumerate(list), zip of two lists or two tuples. -/
namespace ME
open PySem PySem.Spec PyProof.Rows L2
noncomputable def enumD : Nat → List D → List D
  | _, [] => []
  | i, d :: r => .tup [.int (i : Int), d] :: enumD (i + 1) r
noncomputable def zipD : List D → List D → List D
  | a :: r, b :: t => .tup [a, b] :: zipD r t
  | _, _ => []
noncomputable def iEnu (e : AX) : DS → M (List D) := fun δ => (e δ).bnd fun d => match d with
  | [.lst l] => M.ret (enumD 0 l)
  | _ => M.stuck
noncomputable def iZip (e : AX) : DS → M (List D) := fun δ => (e δ).bnd fun d => match d with
  | [.lst l, .lst r] => M.ret (zipD l r)
  | [.tup l, .tup r] => M.ret (zipD l r)
  | _ => M.stuck
section
variable {X : Cx} {m : Am} {e e2 : Expr} {ra : AX} {p pos tpos : Pos} {elts : List Expr} {kk : Nat}
end
end ME

/-! for x in o, o an instance whose __iter__ says: return iter(self.f), f a tuple. -/
namespace ME
open PySem PySem.Spec PyProof.Rows L2
noncomputable def itObjT (t : Addr) : Obj := { cls := .type "tuple_iterator", data := .fields #[.ref t, .int 0 0] }
noncomputable def ItT (t it : Addr) : HO := .ext fun h => h.get? it = some (itObjT t)
theorem itT_get {X : Cx} {pins : List (Addr × Obj)} {σ : L2.St} {H : Hp} {s : Shared} {t it : Addr} (I : Inv X pins σ H s) (e : H it = some (ItT t it)) : s.heap.get? it = some (itObjT t) := (I.hok it _ e).1
/-- iter(t), t a tuple -/
noncomputable def rIterT (K : PySem.W.Frag) (n : Nat) : List V → Hp → VK → Prop := fun xs H Q => ∃ (l : Addr) (zs : List V), xs = [.ref l] ∧ SqT K H l zs ∧ ∀ it, H it = none → n ≤ it → Q (.ref it) (upd H it (ItT l it))
/-- such an __iter__ of the class number c, the tuple its field number kf -/
noncomputable def FnI (P : Program) (w : World) (K : PySem.W.Frag) (mg : Str → Option Value) (base : Heap) (S : Sg) (k : Nat) (f : Addr) (c kf : Nat) : Prop :=
  ∀ (A : Around) (outer : List Env) (s : Shared) (H : Hp) (a dx t : Addr) (us ts : List V), Room k A → Env0 P w K mg base A outer s H → H a = some (.ins (S.ca c) dx ((S.nm c).zip us)) → us.length = (S.nm c).length → us[kf]? = some (.ref t) → SqT K H t ts →
    codeAny (model P w) A (.call (.ref f) ⟨[.ref a], []⟩) (CR (L2.CX P w) outer P w H s (fun v H' => ∃ it, v = .ref it ∧ s.heap.objs.size ≤ it ∧ H it = none ∧ H' = upd H it (ItT t it)) (fun _ _ _ => False)) s
noncomputable def itB (K : PySem.W.Frag) (S : Sg) (c kf : Nat) (fld : Str) : Bool := clsB K (S.ca c) && (PySem.W.findIn K (.ref (S.ca c)) fld == some none) && ((S.nm c)[kf]? == some fld) && nodB (S.nm c)
section
variable {P : Program} {w : World} {K : PySem.W.Frag} {mg : Str → Option Value} {base : Heap} {S : Sg} {x qual fld : Str} {st : Stmt} {f : Addr} {fd : FuncData} {c kf : Nat} {p1 p2 p3 p4 p5 : Pos}
end
noncomputable def IterT (P : Program) (w : World) (K : PySem.W.Frag) (mg : Str → Option Value) (base : Heap) (S : Sg) (k c kf : Nat) : Prop :=
  ∃ fi, FnI P w K mg base S k fi c kf ∧ PySem.W.findIn K (.ref (S.ca c)) "__iter__" = some (some (.ref fi)) ∧ PySem.W.isFn K (.ref fi) = true
noncomputable def iOwn (tbl : List (Nat × Nat)) (e : EX) : DS → M (List D) := fun δ => (e δ).bnd fun d => match d with
  | .obj c fs => match tbl.lookup c with
    | some kf => match fs[kf]? with
      | some (.tup l) => M.ret l
      | _ => M.stuck
    | none => M.stuck
  | _ => M.stuck
section
variable {X : Cx} {m : Am} {j k : Nat} {tg e : Expr} {ea : EX}
end
end ME

/-! [e for ..] whose clause or element may raise: the exception leaves the block and goes on in the def. -/
namespace ME
open PySem PySem.Spec PyProof.Rows L2
section
variable {M : Model} {A : Around} {E : Value → Shared → Prop} {s : Shared} {B : Heap} {env : Env} {outer : List Env} {L C a : Addr} {Z : Obj → Prop}
end
/-! ### the comprehension, its errors told -/
noncomputable def compPostX (M : Model) (A : Around) (E : Value → Shared → Prop) (env : Env) (use : Option (Value → Sem Unit)) (Q : Value → Shared → Prop) (acc : Value) (C : Addr) (r : Result) (s' : Shared) : Prop :=
  match r, use with
  | .ok _, none => ∃ m, s'.heap.Ns C m ∧ ∀ h', Heap.SameBut C s'.heap h' → Q acc { s' with heap := h' }
  | .ok _, some u => wpAny M A (u acc) (fun _ s'' => ∃ m, s''.heap.Ns C m ∧ ∀ h', Heap.SameBut C s''.heap h' → Q .none { s'' with heap := h' }) E s'
  | .error x, _ => ∃ m, s'.heap.Ns C m ∧ ∀ h', Heap.SameBut C s'.heap h' → wpAny M A (PySem.passOn "comprehension.variables-let-go" x env : Sem Value) (fun _ _ => False) E { s' with heap := h' }
/-! ### the block -/
noncomputable abbrev blkx (X : Cx) (s : Shared) (H : Hp) (scope : Scope) (cenv : Env) (fp : List Addr) (xe : Value → Shared → Prop) : Cx := (X.blk s H scope cenv fp).tr [] xe
section
variable {X : Cx} {W : WX}
end

section
variable {X : Cx} {W : WX}
end
/-! ### mirrors -/
noncomputable def compGoX (g : GX) (t : TX) (e : EX) (δ : DS) : List D → List D → M D
  | [], acc => if szOk acc.length then M.ret (.lst acc) else M.stuck
  | d :: r, acc => match g d δ with
    | none => M.stuck
    | some δ1 => (t δ1).bnd fun b => if b = true then (e δ1).bnd fun y => if decide (acc.length < 16777216) then compGoX g t e δ r (acc ++ [y]) else M.stuck else compGoX g t e δ r acc
noncomputable def mCompX (f : DS → M (List D)) (g : GX) (t : TX) (e : EX) (vs : List Nat) : EX := fun δ => (f δ).bnd fun ds => compGoX g t e (wipeD δ vs) ds []
noncomputable abbrev Am.wx (m : Am) (W : WX) : Am := { m with W := W }
section
variable {X : Cx} {m : Am} {pos : Pos}
end
end ME

/-! A def that hands a lambda on to a def that calls it. -/
namespace ME
open PySem PySem.Spec PyProof.Rows L2
/-- from the start of Z on, the function at f, called without arguments, does act -/
structure CloAt (Z : Cx) (S : Sg) (pen : Addr) (G0 B : Hp) (kl : Nat) (f : Addr) (act : M D) : Prop where
  fn : ∀ (s1 : Shared) (H1 : Hp), Un Z.fs [] Z.H_0 H1 Z.s_0.heap s1.heap → PySem.W.FnAt f s1.heap
  run : ∀ (A : Around) (outer : List Env) (s1 : Shared) (H1 : Hp) (Q : VK) (E : XK), A.guards = some [] → Room (kl + 1) A → Env0 Z.prog Z.w Z.K Z.mg Z.base A outer s1 H1 → Un Z.fs [] Z.H_0 H1 Z.s_0.heap s1.heap →
    (∃ G p, Wd S pen G H1 p ∧ Ex pen G0 B G H1 ∧ Post S pen (fun G v d => Rep S G pen v d) G H1 Q E (act p)) →
    codeAny (model Z.prog Z.w) A (.call (.ref f) ⟨[], []⟩) (CR (L2.CX Z.prog Z.w) outer Z.prog Z.w H1 s1 Q E) s1
section
variable {X : Cx} {pins : List (Addr × Obj)} {σ : L2.St} {H : Hp} {s : Shared}
end
/-- the def x hands what it gets on, and does h of it -/
noncomputable def FwdT (P : Program) (w : World) (K : PySem.W.Frag) (mg : Str → Option Value) (base : Heap) (S : Sg) (k : Nat) (x : Str) (h : M D → M D) : Prop :=
  ∃ (g : Addr) (fd : FuncData) (a : Str) (st : Stmt) (Ng : List Str) (oc : Value) (od : Option Addr) (dV kV doc pm : Value) (an : Option Addr) (cdv ct : Value) (osl : Array (Option Value)) (hB : Nat → M D → SX),
    fd = PySem.W.fnOf x x (defArgs st) (defBody st) (defScope st) dV kV doc pm an cdv ct ∧ K.lookup g = some ⟨oc, od, .func fd, osl⟩ ∧ PySem.W.codeIn K cdv x = true ∧ mg x = some (.ref g) ∧ PySem.W.keepIn K (.ref g) = true ∧
    Bd K fd [a] 1 [] [] [.p 0] ∧ FnScope Ng [a] (defScope st) ∧
    (∀ f act p, outOf (hB f act (dsOf Ng.length [.clo f]) p) = h act p) ∧
    ∀ (A : Around) (outer : List Env) (s : Shared) (pen : Addr) (G0 H : Hp) (E : XK) (f : Addr) (act : M D) (kl : Nat), A.guards = some [] → Room k (A.deeper (envOfC x (defScope st) s.heap.objs.size g cdv)) → Room (kl + 2) (A.deeper (envOfC x (defScope st) s.heap.objs.size g cdv)) →
      CloAt (cxOf (L2.CX P w) P w K mg base Ng x (defScope st) g cdv A outer s H E) S pen G0 H kl f act →
      PSs (cxOf (L2.CX P w) P w K mg base Ng x (defScope st) g cdv A outer s H E) (defBody st) (tS ⟨S, pen, G0, H, fun c d _ H' => E c d H'⟩ (hB f act))
section
variable {X : Cx} {m : Am} {j k : Nat} {x : Str} {p pos lpos : Pos} {params : Arguments} {body : Expr} {scope : Scope} {h : M D → M D} {eb : EX} {c P : Addr}
/-- y(a), a the lambda that was got, y a def that calls it -/
noncomputable def mHrd (h : M D → M D) (f : Nat) (act : M D) : EX := fun δ p => match (δ[0]? : Option (Option Sl)) with
  | some (some (.d (.clo g))) => if g = f then h act p else none
  | _ => none
noncomputable def tHrd (m : Am) (h : M D → M D) (f : Nat) (act : M D) : TE := fun σ H Q => ∃ G p δ, Wd m.S m.pen G H p ∧ Ex m.pen m.G0 m.B G H ∧ SlR m.S m.pen m.B G H σ δ ∧ Post m.S m.pen m.rE G H Q (WE m.W σ) (mHrd h f act δ p)
end
end ME

/-! == of tuples of own objects; lists times ints. -/
namespace PySem
namespace MeTeq
open PySem.Spec PyProof.Rows
section
variable {prog : Program} {w : World} {A : Around} {R : Result → Shared → Prop}
end
section
variable {prog : Program} {w : World} {A : Around} {E : Value → Shared → Prop} {s : Shared}
end
end MeTeq
end PySem
namespace ME
open PySem PySem.Spec PyProof.Rows L2
theorem pn_ext {p q : Pn} (h : p.cells = q.cells ∧ p.no = q.no ∧ p.rest = q.rest) : p = q := by
  cases p; cases q
  obtain ⟨h1, h2, h3⟩ := h
  simp only at h1 h2 h3
  rw [h1, h2, h3]
noncomputable def flatB : D → Bool
  | .non => true
  | .bl _ => true
  | .int _ => true
  | .str _ => true
  | _ => false
noncomputable def flatSame : D → D → Bool
  | .non, .non => true
  | .bl a, .bl b => a == b
  | .int a, .int b => a == b
  | .str a, .str b => a == b
  | _, _ => false
noncomputable def flatSames : List D → List D → Bool
  | [], [] => true
  | a :: r, b :: t => flatSame a b && flatSames r t
  | _, _ => false
/-- x == y inside a built-in, both of one own class of flat fields -/
noncomputable def eqOO (tbl : OTab) : D → D → M Bool
  | .obj c fs, .obj c' gs => match tbl.lookup c with
    | some mf => if c' = c ∧ fs.all flatB = true ∧ gs.all flatB = true then fun p => match mf [.obj c fs, .obj c' gs] p with
        | some (.ok (.bl b), p1) => if flatSames fs gs = true then (if b = true ∧ p1.cells = p.cells ∧ p1.no = p.no ∧ p1.rest = p.rest then some (.ok true, p) else none) else some (.ok b, p1)
        | _ => none
      else M.stuck
    | none => M.stuck
  | _, _ => M.stuck
noncomputable def teqGo (e : D → D → M Bool) : List D → List D → M Bool
  | [], [] => M.ret true
  | x :: r, y :: t => (e x y).bnd fun b => if b = true then teqGo e r t else M.ret false
  | _, _ => M.ret false
noncomputable def dTeq (tbl : OTab) : D → D → M D
  | .tup l, .tup r => (teqGo (eqOO tbl) l r).bnd fun b => M.ret (.bl b)
  | _, _ => M.stuck
section
variable {X : Cx} {m : Am} {j k : Nat} {tbl : OTab}
noncomputable def rTeq (m : Am) (tbl : OTab) : R2 := fun x y H Q => ∃ G p l r, Wd m.S m.pen G H p ∧ Rep m.S G m.pen x (.tup l) ∧ Rep m.S G m.pen y (.tup r) ∧ Post m.S m.pen rB G H (fun b H' => Q (.bl b) H') (fun _ _ _ => False) (teqGo (eqOO tbl) l r p)
/-! ### a list times an int -/
noncomputable def dRep : D → D → M D
  | .lst l, .int k => if decide (-(2 ^ 63) ≤ k) && decide (k < 2 ^ 63) && szOk (l.length * k.toNat) then M.ret (.lst (List.replicate k.toNat l).flatten) else M.stuck
  | _, _ => M.stuck
end
end ME

/-! Slices of tuples; a walk over a list, a tuple or an own object; packed facts of defs with a star; defs that hand a lambda on. -/
namespace ME
open PySem PySem.Spec PyProof.Rows L2
noncomputable def dSlA : D → Option Int → Option Int → M D
  | .tup l, lo, hi => M.ret (.tup (cutD l lo hi))
  | x, lo, hi => dSl x lo hi
noncomputable def mSlA (eo : EX) (lo hi : Option EX) : EX := fun δ => (eo δ).bnd fun x => (mPart lo δ).bnd fun l => (mPart hi δ).bnd fun u => dSlA x l u
section
variable {X : Cx} {m : Am} {e : Expr} {eo : EX}
end
/-! ### a walk over any of these -/
noncomputable def iAny (tbl : List (Nat × Nat)) (e : EX) : DS → M (List D) := fun δ => (e δ).bnd fun d => match d with
  | .lst l => M.ret l
  | .tup l => M.ret l
  | .obj c fs => match tbl.lookup c with
    | some kf => match fs[kf]? with
      | some (.tup l) => M.ret l
      | _ => M.stuck
    | none => M.stuck
  | _ => M.stuck
section
variable {X : Cx} {m : Am} {j k : Nat} {tg e : Expr} {ea : EX}
theorem mi_any {tbl : List (Nat × Nat)} (B : Bx X m j) (T : ∀ c kf, tbl.lookup c = some kf → IterT X.prog X.w X.K X.mg X.base m.S k c kf) (hk : Nat.ble k j = true) (h : PE X e (tE m ea)) : PI X tg e (tI m (iAny tbl ea)) := by
  refine ⟨fun pins s σ H R I h0 => ?_⟩
  refine thn (h.run pins s σ H _ I (tY_bind (R1 := m.rE) r0_mono h0)) fun u s1 ⟨x, H1, I1, rx, q1⟩ => ?_
  obtain ⟨G, p, δ, ⟨_, d⟩, w, sl, ⟨_, r⟩, h5⟩ := q1
  have r : Rep m.S G m.pen x d := r
  cases r with
  | @lst a vs ds hl rr =>
    cases (show u = Value.ref a from rx)
    obtain ⟨its, rv, pl, hz⟩ := I1.list (.inl (.of (w.sub _ _ hl)))
    refine wpAny_pyIter_list pl.isList ?_
    refine ⟨s1.heap.objs.size, [s1.heap.objs.size], _, Itl X.K a, H1, rfl, I1.kept (t' := s1.toks) fun b o e => Heap.get?_push_of_some _ e, turn_list a _, ⟨_, Heap.get?_push_size _ rfl, rfl, rfl⟩, fun b hb => ?_, ?_⟩
    · have e : b = s1.heap.objs.size := by simpa using hb
      subst e
      exact I1.fpOk (Nat.le_refl _) (I1.hok.fresh (Nat.le_refl _))
    · rw [B.hK]
      refine h5 _ G H1 Ex.refl w ?_
      intro G' H' p' s' w'
      have hl : SqL m.S.K H' a vs := .of (w'.sub _ _ (s' _ _ hl))
      refine ⟨fun i d e => ?_, fun i hi => ⟨vs, hl, by rw [rr.length]; exact hi⟩⟩
      obtain ⟨v, ev, rv⟩ := rr.get e
      refine ⟨⟨vs, v, hl, ev⟩, fun y H2 ⟨e2, q⟩ => ?_⟩
      subst e2
      have : some v = some y := ev.symm.trans (q vs hl)
      cases this
      exact ⟨G', Ex.refl, w', rv.mono s'⟩
  | @tup a vs ds hl rr =>
    cases (show u = Value.ref a from rx)
    have hq : SqT X.K H1 a vs := by rw [B.hK]; exact w.sub.sqt hl
    obtain ⟨its, rv, pl, hz⟩ := I1.tuple hq
    refine wpAny_pyIter_tuple (show s1.heap.IsTuple a its.toArray from pl) ?_
    refine ⟨s1.heap.objs.size, [s1.heap.objs.size], _, Itt X.K a, H1, rfl, I1.kept (t' := s1.toks) fun b o e => Heap.get?_push_of_some _ e, turn_tuple a _, ⟨_, Heap.get?_push_size _ rfl, rfl, rfl⟩, fun b hb => ?_, ?_⟩
    · have e : b = s1.heap.objs.size := by simpa using hb
      subst e
      exact I1.fpOk (Nat.le_refl _) (I1.hok.fresh (Nat.le_refl _))
    · rw [B.hK]
      refine h5 _ G H1 Ex.refl w ?_
      intro G' H' p' s' w'
      have hl : SqT m.S.K H' a vs := w'.sub.sqt (s'.sqt hl)
      refine ⟨fun i d e => ?_, fun i hi => ⟨vs, hl, by rw [rr.length]; exact hi⟩⟩
      obtain ⟨v, ev, rv⟩ := rr.get e
      refine ⟨⟨vs, v, hl, ev⟩, fun y H2 ⟨e2, q⟩ => ?_⟩
      subst e2
      have : some v = some y := ev.symm.trans (q vs hl)
      cases this
      exact ⟨G', Ex.refl, w', rv.mono s'⟩
  | @obj a dx c vs ds ha hl rr =>
    cases (show u = Value.ref a from rx)
    dsimp only at h5
    cases el : tbl.lookup c with
    | none => rw [el] at h5; exact h5.elim
    | some kf =>
      rw [el] at h5
      dsimp only at h5
      cases ek : ds[kf]? with
      | none => rw [ek] at h5; exact h5.elim
      | some dk =>
        rw [ek] at h5
        obtain ⟨v, ev, rv⟩ := rr.get ek
        cases rv with
        | @tup t ts l ht rt =>
          have hd : ∀ (δ' : DS), mC (.obj c ds) δ' = M.ret (.obj c ds) := fun _ => rfl
          have hr : Rep m.S G m.pen (.ref a) (.obj c ds) := .obj ha hl rr
          obtain ⟨fi, F, hit, hfn⟩ := T c kf el
          obtain ⟨mA, O, _⟩ := ins_get I1.hok (w.sub _ _ ha)
          obtain ⟨od, J, _⟩ := O.look
          obtain ⟨m0, hF⟩ := I1.fr
          have hqt : SqT X.K H1 t ts := by rw [B.hK]; exact w.sub.sqt ht
          refine PySem.W.owit_iter hF I1.ok.mod.kin J hit hfn ?_
          refine wpAny_call (codeAny_mono (F X.A X.stack s1 H1 a dx t vs ts (B.hr.mono (Nat.le_of_ble_eq_true hk)) I1.env0 (w.sub _ _ ha) hl ev hqt) fun r s' hq' => ?_)
          cases r with
          | error er =>
            obtain ⟨_, _, _, _, _, _, _, _, _, _, _, _, z⟩ := hq'
            exact z.elim
          | ok fl =>
            cases fl with
            | next => exact False.elim hq'
            | brk => exact False.elim hq'
            | cont => exact False.elim hq'
            | ret uu =>
              obtain ⟨v, H', I2, rv, it, e1, e2, e3, e4⟩ := I1.after hq'
              subst e1 e4
              cases (show uu = Value.ref it from rv)
              have eo := itT_get I2 upd_same
              refine wpAny_specialOf (T := "tuple_iterator") ⟨_, eo, rfl⟩ PyProof.Rows.slot_tupleiter_next.lookup ?_
              have hdr : ItX.dropH (upd H1 it (ItT t it)) it = H1 := ItX.dropH_upd e3
              have I3 := ItX.inv_drop I2 (a := it) (φ := fun h => h.get? it = some (itObjT t)) upd_same
              rw [hdr] at I3
              have fp := ItX.inv_fp I2 (a := it) upd_same (Nat.le_trans I1.sz e2)
              rw [hdr] at fp
              refine ⟨it, [it], _, _, H1, rfl, I3, turn_tuple t it, ⟨_, eo, rfl, rfl⟩, fun b hb => ?_, ?_⟩
              · have e : b = it := by simpa using hb
                rw [e]; exact fp
              · refine h5 _ G H1 Ex.refl w ?_
                rw [B.hK]
                intro G' H' p' s' w'
                have hl : SqT m.S.K H' t ts := w'.sub.sqt (s'.sqt ht)
                refine ⟨fun i d e => ?_, fun i hi => ⟨ts, hl, by rw [rt.length]; exact hi⟩⟩
                obtain ⟨v, ev, rv⟩ := rt.get e
                refine ⟨⟨ts, v, hl, ev⟩, fun y H2 ⟨e2, q⟩ => ?_⟩
                subst e2
                have : some v = some y := ev.symm.trans (q ts hl)
                cases this
                exact ⟨G', Ex.refl, w', rv.mono s'⟩
        | _ => exact h5.elim
  | _ => exact h5.elim
end
/-! ### packed facts -/
section
variable {P : Program} {w : World} {K : PySem.W.Frag} {mg : Str → Option Value} {base : Heap} {S : Sg} {k c : Nat} {x : Str}
/-- the __init__(self, *v) of the class number c computes the fields by mi -/
noncomputable def InV (P : Program) (w : World) (K : PySem.W.Frag) (mg : Str → Option Value) (base : Heap) (S : Sg) (k c : Nat) (mi : List D → M (List D)) : Prop :=
  ∃ f, FnV P w K mg base k f 1 (spO S c mi) ∧ PySem.W.findIn K (.ref (S.ca c)) "__init__" = some (some (.ref f)) ∧ PySem.W.isFn K (.ref f) = true
end
/-! ### a def that hands a lambda on -/
noncomputable def fwdR (h : M D → M D) (n i : Nat) (R : SX) (act : M D) : M D := fun p => match h act p with
  | none => none
  | some (.ok d, p') => outOf (R (none :: (List.replicate (n - 1) none).set i (some (.d d))) p')
  | some (.ex c fs, p') => some (.ex c fs, p')
end ME

namespace ME
open PySem PySem.Spec L2

/-! ### lists that are being made: read, popped, made beside others -/
noncomputable def mLenM (i : Nat) : EX := fun δ => match δ[i]? with
  | some (some (.ml xs)) => M.ret (.int xs.length)
  | _ => M.stuck
noncomputable def mIxM (i : Nat) (e : EX) : EX := fun δ => match δ[i]? with
  | some (some (.ml xs)) => (e δ).bnd fun d => match d with
    | .int k => M.opt (atI xs k)
    | _ => M.stuck
  | _ => M.stuck
/-- x.append(y.pop(e)) -/
noncomputable def sAppPop (i j : Nat) (e : EX) : SX := fun δ p => match δ[i]? with
  | some (some (.ml xs)) => match δ[j]? with
    | some (some (.ml ys)) => sBnd e (fun d δ p => match d with
      | .int k => match seqIndex? k ys.length with
        | some n => match ys[n]? with
          | some y => if decide (-(2 ^ 63) ≤ k) && decide (k < 2 ^ 63) && decide (xs.length < 16777216) then some (.nx ((δ.set j (some (.ml (ys.eraseIdx n)))).set i (some (.ml (xs ++ [y])))), p) else none
          | none => none
        | none => none
      | _ => none) δ p
    | _ => none
  | _ => none
/-- a list that nobody else holds -/
noncomputable def cpD (e : EX) : AX := fun δ => (e δ).bnd fun d => match d with
  | .lst l => M.ret l
  | .tup l => M.ret l
  | _ => M.stuck
noncomputable def sNewF (i : Nat) (f : AX) : SX := sBnd f fun ds δ p => if szOk ds.length then some (.nx (δ.set i (some (.ml ds))), p) else none
noncomputable def sP2EF (i j : Nat) (e : EX) (f : AX) : SX := sBnd e fun d => sBnd f fun ds δ p => if szOk ds.length then some (.nx ((δ.set i (some (.d d))).set j (some (.ml ds))), p) else none
noncomputable def sP2FE (i j : Nat) (f : AX) (e : EX) : SX := sBnd f fun ds δ p => if szOk ds.length then sBnd e (fun d δ p => some (.nx ((δ.set i (some (.ml ds))).set j (some (.d d))), p)) δ p else none
noncomputable def sP2FF (i j : Nat) (f g : AX) : SX := sBnd f fun ds δ p => if szOk ds.length then sBnd g (fun es δ p => if szOk es.length then some (.nx ((δ.set i (some (.ml ds))).set j (some (.ml es))), p) else none) δ p else none
noncomputable def sP3EFF (i j k : Nat) (e : EX) (f g : AX) : SX := sBnd e fun d => sBnd f fun ds δ p => if szOk ds.length then sBnd g (fun es δ p => if szOk es.length then some (.nx (((δ.set i (some (.d d))).set j (some (.ml ds))).set k (some (.ml es))), p) else none) δ p else none
noncomputable def sP3EEF (i j k : Nat) (e e' : EX) (g : AX) : SX := sBnd e fun d => sBnd e' fun d' => sBnd g fun es δ p => if szOk es.length then some (.nx (((δ.set i (some (.d d))).set j (some (.d d'))).set k (some (.ml es))), p) else none
noncomputable def tF (m : Am) (f : AX) : TE := fun σ H Q => tY m r0 m.rA () (fun _ => f) σ H (fun vs H1 => vs.length ≤ sizeLine ∧ ∀ a, H1 a = none → Q (.ref a) (upd H1 a (.lst vs)))
section
variable {S : Sg} {pen : Addr} {B G H : Hp} {σ : St} {δ : DS} {i : Nat}
end
section
variable {X : Cx} {m : Am} {pos : Pos} {i j k : Nat} {x y z : Str} {p1 p2 p3 : Pos}
/-! ### fresh lists -/
section
variable {a b c : Expr} {px py pz pt : Pos} {kt k2 pt2 : _}
end
end
end ME

/-! min of two ints; sep.join(texts); xs[::-1]; len of an own object. -/
namespace ME
open PySem PySem.Spec PyProof.Rows L2
noncomputable def dMin : List D → M D
  | [.int i, .int j] => M.ret (.int (if j < i then j else i))
  | _ => M.stuck
noncomputable def dMax : List D → M D
  | [.int i, .int j] => M.ret (.int (if j > i then j else i))
  | _ => M.stuck
noncomputable def dJoin (a : Str) : List D → M D
  | [.lst l] => match strsOf l with
    | some ys => if decide ((ys.map (·.length)).sum + ys.length * a.length ≤ 16777216) then M.ret (.str (Txt.join a ys)) else M.stuck
    | none => M.stuck
  | _ => M.stuck
noncomputable def dRev : D → M D
  | .lst l => M.ret (.lst l.reverse)
  | _ => M.stuck
noncomputable def dLenO (tbl : OTab) : List D → M D
  | [.obj c fs] => match tbl.lookup c with
    | some mf => ((mf [.obj c fs]).calm).bnd fun d => match d with
      | .int n => if decide (0 ≤ n) && decide (n < 2 ^ 63) then M.ret (.int n) else M.stuck
      | _ => M.stuck
    | none => M.stuck
  | ds => dLen ds
section
variable {X : Cx} {m : Am} {j k : Nat}
noncomputable def rLenO (m : Am) (tbl : OTab) : List V → Hp → VK → Prop := fun xs H Q => ∃ c mf a dx fs G p ds, tbl.lookup c = some mf ∧ xs = [.ref a] ∧ H a = some (.ins (m.S.ca c) dx fs) ∧ Wd m.S m.pen G H p ∧ Rep m.S G m.pen (.ref a) (.obj c ds) ∧
  Post m.S m.pen (fun G v d => Rep m.S G m.pen v d) G H (fun v H' => ∃ n, v = .int n ∧ (0 ≤ n ∧ n < 2 ^ 63) ∧ Q (.int n) H') (fun _ _ _ => False) (mf [.obj c ds] p)
end
end ME

/-! x op y by an own def of the class of x. -/
namespace PySem.MeBop
open PySem PySem.W PySem.Calls PyProof.Rows PySem.Spec
section
variable {prog : Program} {w : World} {M : Model} {A : Around} {E : Value → Shared → Prop} {s : Shared} {K : Frag} {x C C' f : Addr} {ox : Obj} {od : Option Obj} {nm : String}
theorem fills_no {h : Heap} {cd : ClassData} (X : K.In h) (hc : clsIn K C' = some cd) (hm : cd.mro = [.ref C', .type "object"]) (h1 : findIn K (.ref C') (PySem.dunder nm) = some none) (h2 : findIn K (.ref C') (dunderR nm) = some none) (h3 : findIn K (.type "object") (PySem.dunder nm) = some none) (h4 : findIn K (.type "object") (dunderR nm) = some none) :
    Looks M h (fillsNumberSlot (.ref C') nm) false := by
  intro A Q E s k q
  unfold fillsNumberSlot
  refine wpAny_bind ((looks_clsIn X hc).andThen (f := fun cd => pure cd.mro) .now A _ E s k ?_)
  rw [hm, List.anyM_cons]
  refine wpAny_bind ?_
  show wpAny M A (List.anyM _ [PySem.dunder nm, dunderR nm]) _ _ _
  rw [List.anyM_cons]
  refine wpAny_bind (wpAny_bind (looks_findIn X h1 A _ E s k ?_))
  try dsimp only
  refine wpAny_pure ?_
  try dsimp only
  rw [if_neg Bool.false_ne_true, List.anyM_cons]
  refine wpAny_bind (wpAny_bind (looks_findIn X h2 A _ E s k ?_))
  try dsimp only
  refine wpAny_pure ?_
  try dsimp only
  rw [if_neg Bool.false_ne_true, List.anyM_nil]
  refine wpAny_pure ?_
  try dsimp only
  rw [if_neg Bool.false_ne_true, List.anyM_cons]
  refine wpAny_bind ?_
  try dsimp only
  refine wpAny_bind (looks_findIn X h3 A _ E s k ?_)
  refine wpAny_bind (looks_findIn X h4 A _ E s k ?_)
  refine wpAny_pure ?_
  refine wpAny_pure ?_
  exact q
/-- the right operand's type, as the walk asks for it -/
structure RightOk (K : Frag) (C : Addr) (nm : String) (M : Model) (h : Heap) (tb : Value) : Prop where
  ex : ∃ right, Looks M h (fillsNumberSlot tb nm) right ∧ (Value.ref C == tb) = false ∧ (right = true → Looks M h (isSubtype tb (.ref C)) false ∧ Looks M h (numberSlotInPython tb nm) false ∧ ∃ ro, Looks M h (typeLookup tb (dunderR nm)) ro)
theorem bop {op : Operator} {b tb : Value} {rc : Option Value} {Q : Value → Shared → Prop} (X : K.In s.heap) (I : InstAt s.heap x ox C od) (hb : Looks (model prog w) s.heap (typeOf b) tb) (hc : selfFirst K C = true)
    (hs : findIn K (.ref C) (PySem.dunder op.info.2) = some (some (.ref f))) (hf : isFn K (.ref f) = true) (hr : findIn K (.ref C) (dunderR op.info.2) = some rc) (hp : rc = none ∨ ∃ g : Addr, rc = some (.ref g)) (R : RightOk K C op.info.2 (model prog w) s.heap tb)
    (h : wpAny (model prog w) A (call (.ref f) [.ref x, b]) (PySem.W.CmpBack Q) E s) : wpAny (model prog w) A (binaryOp op (.ref x) b) Q E s := by
  obtain ⟨cd, rest, hcd, hm⟩ := ksp_first hc
  obtain ⟨right, hR, hne, hT⟩ := R.ex
  rcases hi : op.info with ⟨sym, nm'⟩
  rw [hi] at hs hr hR hT
  dsimp only at hs hr hR hT
  have one := ksp_try X I hs hf h
  have Lf : Looks (model prog w) s.heap (fillsNumberSlot (.ref C) nm') true := fills_K X hcd hm hs
  have Lp : Looks (model prog w) s.heap (numberSlotInPython (.ref C) nm') true := ksp_inPy X hs hr hp
  simp only [binaryOp, hi]
  refine wpAny_holding (wpAny_bind ?_)
  unfold binaryOp1
  refine wpAny_bind (I.type.here (wpAny_bind (hb.here (wpAny_bind (Lf.here ?_)))))
  simp only [hne, Bool.false_eq_true, if_false]
  refine wpAny_bind (hR.here ?_)
  cases right with
  | false =>
    simp only [Bool.and_false, Bool.false_and, Bool.false_eq_true, if_false]
    refine wpAny_bind (wpAny_pure ?_)
    refine wpAny_bind (wpAny_mono one (fun r s' hr' => ?_) fun _ _ e => e)
    obtain ⟨v, rfl, hq⟩ := hr'
    exact wpAny_pure (wpAny_pure hq)
  | true =>
    obtain ⟨Ls, Ln, ro, Lr⟩ := hT rfl
    obtain ⟨hh, g, d, tt, os⟩ := s
    simp only [Bool.and_true, Bool.true_and, if_true, Bool.not_false]
    ksp_lk
    refine wpAny_mono one (fun r s' hr' => ?_) fun _ _ e => e
    obtain ⟨v, rfl, hq⟩ := hr'
    ksp_lk
    exact hq
end
end PySem.MeBop
namespace ME
open PySem PySem.Spec PyProof.Rows L2
noncomputable def dBop (tbl : OTab) (os : List Nat) : D → D → M D
  | .obj c fs, y => match tbl.lookup c with
    | some mf => match y with
      | .obj c' gs => if os.contains c' then mf [.obj c fs, .obj c' gs] else M.stuck
      | y => match tyName y with
        | some _ => mf [.obj c fs, y]
        | none => M.stuck
    | none => M.stuck
  | _, _ => M.stuck
noncomputable def noNumB (K : PySem.W.Frag) (C : Addr) (nm : String) : Bool := ((PySem.W.clsIn K C).any fun cd => cd.mro == [.ref C, .type "object"]) && (PySem.W.findIn K (.ref C) (PySem.dunder nm) == some none && (PySem.W.findIn K (.ref C) (dunderR nm) == some none && (PySem.W.findIn K (.type "object") (PySem.dunder nm) == some none && PySem.W.findIn K (.type "object") (dunderR nm) == some none)))
noncomputable def refN : Option (Option Value) → Bool
  | some none => true
  | some (some (.ref _)) => true
  | _ => false
noncomputable def bopB (K : PySem.W.Frag) (S : Sg) (cs os : List Nat) (nm : String) : Bool := cs.all fun c => (PySem.W.selfFirst K (S.ca c) && refN (PySem.W.findIn K (.ref (S.ca c)) (dunderR nm))) && ((tyNames.all fun a => ((PySem.W.findIn K (.type a) (PySem.dunder nm)).isSome && (PySem.W.findIn K (.type a) (dunderR nm)).isSome) && PySem.W.subIn K (.type a) (.ref (S.ca c)) == some false) && os.all fun c' => S.ca c' == S.ca c || noNumB K (S.ca c') nm)
section
variable {X : Cx} {m : Am} {j k : Nat}
theorem right_type {K : PySem.W.Frag} {C : Addr} {nm T : String} {M : Model} {h : Heap} (X : K.In h) (h1 : (PySem.W.findIn K (.type T) (PySem.dunder nm)).isSome = true) (h2 : (PySem.W.findIn K (.type T) (dunderR nm)).isSome = true) (h3 : PySem.W.subIn K (.type T) (.ref C) = some false) : PySem.MeBop.RightOk K C nm M h (.type T) := by
  obtain ⟨fo, e1⟩ := Option.isSome_iff_exists.mp h1
  obtain ⟨ro, e2⟩ := Option.isSome_iff_exists.mp h2
  exact ⟨_, PySem.W.ksp_fillsT X e1 e2, (Bool.eq_false_iff.mpr fun q => by cases beq_iff_eq.mp q), fun _ => ⟨PySem.W.looks_subIn X h3, PySem.W.Looks.of_pure rfl, ro, PySem.W.looks_findIn X e2⟩⟩
theorem right_own {K : PySem.W.Frag} {C C' : Addr} {nm : String} {M : Model} {h : Heap} (X : K.In h) (hne : C' ≠ C) (hb : noNumB K C' nm = true) : PySem.MeBop.RightOk K C nm M h (.ref C') := by
  unfold noNumB at hb
  simp only [Bool.and_eq_true, beq_iff_eq] at hb
  obtain ⟨h0, h1, h2, h3, h4⟩ := hb
  obtain ⟨cd, hcd, hm⟩ := PySem.W.any_some h0
  refine ⟨false, PySem.MeBop.fills_no X hcd (beq_iff_eq.mp hm) h1 h2 h3 h4, Bool.eq_false_iff.mpr fun q => ?_, fun z => by cases z⟩
  cases beq_iff_eq.mp q
  exact hne rfl
theorem me_bop {op : Operator} {tbl : OTab} {cs os : List Nat} {a b : Expr} {ea eb : EX} {pos : Pos} (B : Bx X m j) (T : ∀ c mf, tbl.lookup c = some mf → OwnT X.prog X.w X.K X.mg X.base m.S k c (PySem.dunder op.info.2) 2 mf) (hk : Nat.ble k j = true) (hcs : cs = tbl.map (·.1)) (hB : bopB m.S.K m.S cs os op.info.2 = true) (ha : PE X a (tE m ea)) (hb : PE X b (tE m eb)) : PE X (.BinOp a op b pos) (tE m (mBin (dBop tbl os) ea eb)) := by
  refine ⟨fun pins s σ H Q I h => ?_⟩
  refine wpAny_BinOp (binT (R := fun x y H2 => tY m (rP (rP r0 m.rE) m.rE) m.rE (((), x), y) (fun z _ => dBop tbl os z.1.2 z.2) σ H2 Q) ha hb I ((tY_bind (R1 := m.rE) r0_mono h).imp fun x H1 h2 => (tY_bind (R1 := m.rE) (rP_mono r0_mono (rE_mono m)) h2).imp fun y H2 h4 => h4) fun v u s2 x y H2 I2 rx ry q => ?_)
  obtain ⟨G, p, δ, ⟨⟨_, dx⟩, dy⟩, w, sl, ⟨⟨_, r1⟩, r2⟩, h5⟩ := q
  have r1 : Rep m.S G m.pen x dx := r1
  have r2 : Rep m.S G m.pen y dy := r2
  cases id r1 with
  | @obj ad dxx c vs ds had hl rr =>
    dsimp only [dBop] at h5
    cases e : tbl.lookup c with
    | none => rw [e] at h5; exact h5.elim
    | some mf =>
      rw [e] at h5
      dsimp only at h5
      obtain ⟨f, fd, ps, F, hs, hf, hbd⟩ := T c mf e
      unfold bopB at hB
      have hBc := List.all_eq_true.mp hB c (by rw [hcs]; exact List.mem_map.mpr ⟨_, mem_of_lookup e, rfl⟩)
      rw [← B.hK] at hBc
      simp only [Bool.and_eq_true, List.all_eq_true] at hBc
      obtain ⟨⟨hself, href⟩, hty, hos⟩ := hBc
      obtain ⟨rc, hrc, hrp⟩ : ∃ rc, PySem.W.findIn X.K (.ref (m.S.ca c)) (dunderR op.info.2) = some rc ∧ (rc = none ∨ ∃ g : Addr, rc = some (.ref g)) := by
        revert href
        generalize PySem.W.findIn X.K (.ref (m.S.ca c)) (dunderR op.info.2) = z
        intro href
        match z, href with
        | some none, _ => exact ⟨_, rfl, .inl rfl⟩
        | some (some (.ref g)), _ => exact ⟨_, rfl, .inr ⟨g, rfl⟩⟩
      cases (show v = Value.ref ad from rx)
      obtain ⟨od, J⟩ := insInst I2 (w.sub _ _ had)
      obtain ⟨m', hF⟩ := I2.fr
      have key : ∀ tb, tbOf m.S dy = some tb → (tb = .ref (m.S.ca c) ∨ PySem.MeBop.RightOk X.K (m.S.ca c) op.info.2 (model X.prog X.w) s2.heap tb) → Post m.S m.pen m.rE G H2 Q (fun c d H' => m.W c d σ H') (mf [.obj c ds, dy] p) → wpAny (model X.prog X.w) X.A (binaryOp op (.ref ad) u) (EP X pins σ Q) X.xe s2 := fun tb et hR h6 => by
        have hcall : wpAny (model X.prog X.w) X.A (call (.ref f) [.ref ad, u]) (PySem.W.CmpBack (EP X pins σ Q)) X.xe s2 := by
          obtain ⟨its, vd, bd⟩ := hbd.ex
          cases vd
          have bt := bd s2 [.ref ad, u] [] I2.kIn rfl rfl
          have sp : spM m.S mf [.ref ad, y] H2 Q (WE m.W σ) := ⟨m.pen, G, p, _, w, .cons r1 (.cons r2 .nil), h6⟩
          refine wpAny_mono (wpAny_call (codeAny_mono ((F.mono (Nat.le_of_ble_eq_true hk)).run X.A X.stack s2 H2 ⟨[.ref ad, u], []⟩ [.ref ad, u] [.ref ad, y] Q (WE m.W σ) B.hq B.hr I2.env0 bt (.cons rfl (.cons ry .nil)) sp) (R' := fun r s' => match r with | .ok (.ret v) => EP X pins σ Q v s' | .ok _ => False | .error e => X.xe e s') fun r s' hq => ?_)) (fun w s' z => ?_) fun _ _ x => x
          · cases r with
            | error e => exact passAt B.tk σ pins H2 s2 e s' I2 hq
            | ok fl =>
              cases fl with
              | ret u => exact I2.after hq
              | next => exact False.elim hq
              | brk => exact False.elim hq
              | cont => exact False.elim hq
          · obtain ⟨z', H', I', rz, qz⟩ := z
            exact SlX.cmpback rz ⟨z', H', I', rz, qz⟩
        rcases hR with rfl | hR
        · exact PySem.W.binop_K hF I2.ok.mod.kin J (looks_tb B.hK I2 w r2 ry et) hself hs hf hcall
        · exact PySem.MeBop.bop I2.kIn J (looks_tb B.hK I2 w r2 ry et) hself hs hf hrc hrp hR hcall
      by_cases hy : ∃ c' gs, dy = .obj c' gs
      · obtain ⟨c', gs, rfl⟩ := hy
        dsimp only at h5
        split at h5
        · rename_i hz
          have ho := hos c' (by simpa using hz)
          by_cases hcc : m.S.ca c' = m.S.ca c
          · exact key _ rfl (.inl (by rw [hcc])) h5
          · refine key _ rfl (.inr (right_own I2.kIn hcc ?_)) h5
            rcases Bool.or_eq_true_iff.mp ho with z | z
            · exact absurd (beq_iff_eq.mp z) hcc
            · exact z
        · exact h5.elim
      · have h' : Post m.S m.pen m.rE G H2 Q (fun c d H' => m.W c d σ H') ((match tyName dy with | some _ => mf [.obj c ds, dy] | none => M.stuck) p) := by
          cases dy <;> first | exact h5 | exact absurd ⟨_, _, rfl⟩ hy
        cases q : tyName dy with
        | none => rw [q] at h'; exact h'.elim
        | some t =>
          rw [q] at h'
          have et : tbOf m.S dy = some (.type t) := by
            cases dy <;> first | exact absurd ⟨_, _, rfl⟩ hy | (simp only [tbOf, q, Option.map_some])
          have hx := hty t (tyName_in q)
          exact key _ et (.inr (right_type I2.kIn hx.1.1 hx.1.2 (beq_iff_eq.mp hx.2))) h'
  | _ => exact h5.elim
end
end ME

/-! t[::-1] of a tuple; f'{x!s}'. -/
namespace ME
open PySem PySem.Spec PyProof.Rows L2 HT
section
variable {prog : Program} {w : World} {A : Around} {E : Value → Shared → Prop} {s : Shared}
end
noncomputable def dRevA : D → M D
  | .lst l => M.ret (.lst l.reverse)
  | .tup l => if l.isEmpty then M.stuck else M.ret (.tup l.reverse)
  | _ => M.stuck
section
variable {X : Cx} {m : Am} {j k : Nat}
noncomputable def tRevA (K : PySem.W.Frag) (te : TE) : TE := fun σ H Q => te σ H fun x H1 => ∃ a xs, x = .ref a ∧ ((SqL K H1 a xs ∧ ∀ p, H1 p = none → Q (.ref p) (upd H1 p (.lst xs.reverse))) ∨ (SqT K H1 a xs ∧ xs ≠ [] ∧ ∀ p, H1 p = none → Q (.ref p) (upd H1 p (.tup xs.reverse))))
end
end ME

/-! f'{x!s}', x[i], x op= y by own defs. -/
namespace PySem.MeBop
open PySem PySem.W PySem.Calls PyProof.Rows PySem.Spec
section
variable {prog : Program} {w : World} {M : Model} {A : Around} {E : Value → Shared → Prop} {s : Shared} {K : Frag} {x C C' f : Addr} {ox : Obj} {od : Option Obj} {nm : String}
theorem bop1 {b tb : Value} {rc : Option Value} {Q : Value → Shared → Prop} (X : K.In s.heap) (I : InstAt s.heap x ox C od) (hb : Looks (model prog w) s.heap (typeOf b) tb) (hc : selfFirst K C = true)
    (hs : findIn K (.ref C) (PySem.dunder nm) = some (some (.ref f))) (hf : isFn K (.ref f) = true) (hr : findIn K (.ref C) (dunderR nm) = some rc) (hp : rc = none ∨ ∃ g : Addr, rc = some (.ref g)) (R : tb = .ref C ∨ RightOk K C nm (model prog w) s.heap tb)
    (h : wpAny (model prog w) A (call (.ref f) [.ref x, b]) (PySem.W.CmpBack Q) E s) : wpAny (model prog w) A (binaryOp1 nm (.ref x) b) (fun r s' => ∃ v, r = some v ∧ Q v s') E s := by
  obtain ⟨cd, rest, hcd, hm⟩ := ksp_first hc
  have one := ksp_try X I hs hf h
  have Lf : Looks (model prog w) s.heap (fillsNumberSlot (.ref C) nm) true := fills_K X hcd hm hs
  have Lp : Looks (model prog w) s.heap (numberSlotInPython (.ref C) nm) true := ksp_inPy X hs hr hp
  unfold binaryOp1
  refine wpAny_bind (I.type.here (wpAny_bind (hb.here (wpAny_bind (Lf.here ?_)))))
  rcases R with rfl | R
  · simp only [beq_self_eq_true, if_true]
    refine wpAny_bind (wpAny_pure ?_)
    simp only [Bool.and_false, Bool.false_eq_true, if_false, Bool.false_and]
    refine wpAny_bind (wpAny_pure ?_)
    refine wpAny_bind (wpAny_mono one (fun r s' hr' => ?_) fun _ _ e => e)
    obtain ⟨v, rfl, hq⟩ := hr'
    exact wpAny_pure ⟨v, rfl, hq⟩
  obtain ⟨right, hR, hne, hT⟩ := R.ex
  simp only [hne, Bool.false_eq_true, if_false]
  refine wpAny_bind (hR.here ?_)
  cases right with
  | false =>
    simp only [Bool.and_false, Bool.false_and, Bool.false_eq_true, if_false]
    refine wpAny_bind (wpAny_pure ?_)
    refine wpAny_bind (wpAny_mono one (fun r s' hr' => ?_) fun _ _ e => e)
    obtain ⟨v, rfl, hq⟩ := hr'
    exact wpAny_pure ⟨v, rfl, hq⟩
  | true =>
    obtain ⟨Ls, Ln, ro, Lr⟩ := hT rfl
    obtain ⟨hh, g, d, tt, os⟩ := s
    simp only [Bool.and_true, Bool.true_and, if_true, Bool.not_false]
    ksp_lk
    refine wpAny_mono one (fun r s' hr' => ?_) fun _ _ e => e
    obtain ⟨v, rfl, hq⟩ := hr'
    ksp_lk
    exact ⟨v, rfl, hq⟩
theorem fillsI_no {h : Heap} {cd : ClassData} {add : Bool} (X : K.In h) (hc : clsIn K C = some cd) (hm : cd.mro = [.ref C, .type "object"]) (h1 : findIn K (.ref C) (dunderI nm) = some none) (h3 : findIn K (.type "object") (dunderI nm) = some none) :
    Looks M h (fillsInplaceSlot (.ref C) nm add) false := by
  intro A Q E s k q
  unfold fillsInplaceSlot
  refine wpAny_bind ((looks_clsIn X hc).andThen (f := fun cd => pure cd.mro) .now A _ E s k ?_)
  rw [hm, List.anyM_cons]
  refine wpAny_bind (wpAny_bind (looks_findIn X h1 A _ E s k ?_))
  try dsimp only
  refine wpAny_pure ?_
  try dsimp only
  rw [if_neg Bool.false_ne_true, List.anyM_cons]
  refine wpAny_bind (wpAny_bind (looks_findIn X h3 A _ E s k ?_))
  try dsimp only
  refine wpAny_pure ?_
  try dsimp only
  rw [if_neg Bool.false_ne_true, List.anyM_nil]
  exact wpAny_pure q
theorem iop {op : Operator} {cd : ClassData} {b tb : Value} {rc : Option Value} {Q : Value → Shared → Prop} (X : K.In s.heap) (I : InstAt s.heap x ox C od) (hb : Looks (model prog w) s.heap (typeOf b) tb) (hc : selfFirst K C = true) (hcd : clsIn K C = some cd) (hm : cd.mro = [.ref C, .type "object"])
    (i1 : findIn K (.ref C) (dunderI op.info.2) = some none) (i3 : findIn K (.type "object") (dunderI op.info.2) = some none)
    (hs : findIn K (.ref C) (PySem.dunder op.info.2) = some (some (.ref f))) (hf : isFn K (.ref f) = true) (hr : findIn K (.ref C) (dunderR op.info.2) = some rc) (hp : rc = none ∨ ∃ g : Addr, rc = some (.ref g)) (R : tb = .ref C ∨ RightOk K C op.info.2 (model prog w) s.heap tb)
    (h : wpAny (model prog w) A (call (.ref f) [.ref x, b]) (PySem.W.CmpBack Q) E s) : wpAny (model prog w) A (inplaceOp op (.ref x) b) Q E s := by
  have one := bop1 X I hb hc hs hf hr hp R h
  have Li : Looks (model prog w) s.heap (fillsInplaceSlot (.ref C) op.info.2 (op == .Add)) false := fillsI_no X hcd hm i1 i3
  unfold inplaceOp
  refine wpAny_holding (wpAny_bind (I.type.here (wpAny_bind (Li.here ?_))))
  rw [if_neg Bool.false_ne_true]
  refine wpAny_bind (wpAny_mono one (fun r s' hr' => ?_) fun _ _ e => e)
  obtain ⟨v, rfl, hq⟩ := hr'
  exact wpAny_pure hq
end
end PySem.MeBop
namespace ME
open PySem PySem.Spec PyProof.Rows L2
section
variable {X : Cx} {m : Am} {j k : Nat}
/-! ### f'{x!s}' -/
noncomputable def dFmtS (tbl : OTab) : D → M D
  | .obj c fs => match tbl.lookup c with
    | some mf => ((mf [.obj c fs]).calm).bnd fun d => match d with
      | .str y => if szOk y.length then M.ret (.str y) else M.stuck
      | _ => M.stuck
    | none => M.stuck
  | _ => M.stuck
/-! ### x[i] -/
noncomputable def dIxO (tbl : OTab) : D → D → M D
  | .obj c fs, y => match tbl.lookup c with
    | some mf => (mf [.obj c fs, y]).calm
    | none => M.stuck
  | _, _ => M.stuck
noncomputable def gitB (K : PySem.W.Frag) (S : Sg) (cs : List Nat) : Bool := cs.all fun c => match PySem.W.findIn K (.ref (S.ca c)) "__getitem__" with
  | some (some (.ref f)) => PySem.W.fnIn K f
  | _ => false
/-! ### x op= e -/
noncomputable def augB (K : PySem.W.Frag) (S : Sg) (cs : List Nat) (nm : String) : Bool := cs.all fun c => ((PySem.W.clsIn K (S.ca c)).any fun cd => cd.mro == [.ref (S.ca c), .type "object"]) && (PySem.W.findIn K (.ref (S.ca c)) (dunderI nm) == some none && PySem.W.findIn K (.type "object") (dunderI nm) == some none)
noncomputable def sAug (i : Nat) (o : D → D → M D) (e : EX) : SX := fun δ p => match δ[i]? with
  | some (some (.d x)) => sBnd e (fun y δ p => match o x y p with
    | some (.ok d, p') => some (.nx (δ.set i (some (.d d))), p')
    | _ => none) δ p
  | _ => none
noncomputable def rightB (K : PySem.W.Frag) (C : Addr) (nm : String) : Value → Bool
  | .type a => ((PySem.W.findIn K (.type a) (PySem.dunder nm)).isSome && (PySem.W.findIn K (.type a) (dunderR nm)).isSome) && PySem.W.subIn K (.type a) (.ref C) == some false
  | .ref C' => C' == C || noNumB K C' nm
  | _ => false
theorem right_of {K : PySem.W.Frag} {C : Addr} {nm : String} {M : Model} {h : Heap} {tb : Value} (X : K.In h) (hb : rightB K C nm tb = true) : tb = .ref C ∨ PySem.MeBop.RightOk K C nm M h tb := by
  cases tb with
  | type a =>
    simp only [rightB, Bool.and_eq_true] at hb
    exact .inr (right_type X hb.1.1 hb.1.2 (beq_iff_eq.mp hb.2))
  | ref C' =>
    by_cases hcc : C' = C
    · exact .inl (by rw [hcc])
    · simp only [rightB, Bool.or_eq_true] at hb
      rcases hb with z | z
      · exact absurd (beq_iff_eq.mp z) hcc
      · exact .inr (right_own X hcc z)
  | _ => cases hb
noncomputable def rAug (m : Am) (K : PySem.W.Frag) (tbl : OTab) (nm : String) : V → V → Hp → VK → Prop := fun x y H Q => ∃ c mf a dx fs G p ds dy tb, tbl.lookup c = some mf ∧ x = .ref a ∧ H a = some (.ins (m.S.ca c) dx fs) ∧ Wd m.S m.pen G H p ∧ Rep m.S G m.pen x (.obj c ds) ∧ Rep m.S G m.pen y dy ∧ tbOf m.S dy = some tb ∧ rightB K (m.S.ca c) nm tb = true ∧
  Post m.S m.pen (fun G v d => Rep m.S G m.pen v d) G H Q (fun _ _ _ => False) (mf [.obj c ds, dy] p)
theorem pip_own {op : Operator} {tbl : OTab} {cs os : List Nat} (B : Bx X m j) (T : ∀ c mf, tbl.lookup c = some mf → OwnT X.prog X.w X.K X.mg X.base m.S k c (PySem.dunder op.info.2) 2 mf) (hk : Nat.ble k j = true) (hcs : cs = tbl.map (·.1)) (hB : bopB m.S.K m.S cs os op.info.2 = true) (hA : augB m.S.K m.S cs op.info.2 = true) : PIp X op (rAug m X.K tbl op.info.2) := by
  intro pins s σ H x y v u Q I rx ry h
  obtain ⟨c, mf, a, dx, fs, G, p, ds, dy, tb, el, rfl, ha, w, r1, r2, et, hR, h5⟩ := h
  obtain ⟨f, fd, ps, F, hs, hf, hbd⟩ := T c mf el
  have hm : c ∈ cs := by rw [hcs]; exact List.mem_map.mpr ⟨_, mem_of_lookup el, rfl⟩
  unfold bopB at hB
  have hBc := List.all_eq_true.mp hB c hm
  unfold augB at hA
  have hAc := List.all_eq_true.mp hA c hm
  rw [← B.hK] at hBc hAc
  simp only [Bool.and_eq_true, beq_iff_eq] at hAc
  obtain ⟨hmro, i1, i3⟩ := hAc
  obtain ⟨cd, hcd, hmm⟩ := PySem.W.any_some hmro
  simp only [Bool.and_eq_true] at hBc
  obtain ⟨⟨hself, href⟩, _⟩ := hBc
  obtain ⟨rc, hrc, hrp⟩ : ∃ rc, PySem.W.findIn X.K (.ref (m.S.ca c)) (dunderR op.info.2) = some rc ∧ (rc = none ∨ ∃ g : Addr, rc = some (.ref g)) := by
    revert href
    generalize PySem.W.findIn X.K (.ref (m.S.ca c)) (dunderR op.info.2) = z
    intro href
    match z, href with
    | some none, _ => exact ⟨_, rfl, .inl rfl⟩
    | some (some (.ref g)), _ => exact ⟨_, rfl, .inr ⟨g, rfl⟩⟩
  cases (show v = Value.ref a from rx)
  obtain ⟨od, J⟩ := insInst I ha
  refine PySem.MeBop.iop I.kIn J (looks_tb B.hK I w r2 ry et) hself hcd (beq_iff_eq.mp hmm) i1 i3 hs hf hrc hrp (right_of I.kIn hR) ?_
  obtain ⟨its, vd, bd⟩ := hbd.ex
  cases vd
  have bt := bd s [.ref a, u] [] I.kIn rfl rfl
  have sp : spM m.S mf [.ref a, y] H Q (fun _ _ _ => False) := ⟨m.pen, G, p, _, w, .cons r1 (.cons r2 .nil), h5⟩
  refine wpAny_mono (wpAny_call (codeAny_mono ((F.mono (Nat.le_of_ble_eq_true hk)).run X.A X.stack s H ⟨[.ref a, u], []⟩ [.ref a, u] [.ref a, y] Q (fun _ _ _ => False) B.hq B.hr I.env0 bt (.cons rfl (.cons ry .nil)) sp) (R' := fun r s' => match r with | .ok (.ret v) => EP X pins σ Q v s' | .ok _ => False | .error e => X.xe e s') fun r s' hq => ?_)) (fun w s' z => ?_) fun _ _ x => x
  · cases r with
    | error e => exact B.pf pins σ H s e s' I hq
    | ok fl =>
      cases fl with
      | ret u => exact I.after hq
      | next => exact False.elim hq
      | brk => exact False.elim hq
      | cont => exact False.elim hq
  · obtain ⟨z', H', I', rz, qz⟩ := z
    exact SlX.cmpback rz ⟨z', H', I', rz, qz⟩
theorem ms_aug {op : Operator} {tbl : OTab} {cs os : List Nat} {i : Nat} {x : Str} {e : Expr} {ea : EX} {pos pos' : Pos} (B : Bx X m j) (T : ∀ c mf, tbl.lookup c = some mf → OwnT X.prog X.w X.K X.mg X.base m.S k c (PySem.dunder op.info.2) 2 mf) (hk : Nat.ble k j = true) (hcs : cs = tbl.map (·.1)) (hB : bopB m.S.K m.S cs os op.info.2 = true) (hA : augB m.S.K m.S cs op.info.2 = true)
    (hN : X.N.Nodup) (hi : X.N[i]? = some x) (hx : Loc X.env.scope x) (he : PE X e (tE m ea)) (hf : X.fn x = true ∨ X.env.scope.names.lookup x = some .local := by first | exact .inl rfl | exact .inr rfl | assumption) : PS X (.AugAssign (.Name x pos') op e pos) (tS m (sAug i (dBop tbl os) ea)) := by
  refine PS.imp (ps_aug hN hi hx he (pip_own B T hk hcs hB hA) hf) fun K σ H h => ?_
  obtain ⟨G, p, δ, w, xx, sl, h⟩ := h
  dsimp only [sAug] at h
  split at h
  · rename_i dx ei
    obtain ⟨v, e1, rv⟩ := sl.val i dx ei
    refine ⟨v, e1, (tS_step (R := m.rE) w xx sl h).imp fun y H1 ⟨dy, G1, p1, w1, x1, ry0, q⟩ => ?_⟩
    have ry : Rep m.S G1 m.pen y dy := ry0
    clear ry0
    have rv1 := rv.mono x1.sub
    cases id rv1 with
    | @obj a dxx c vs ds ha hl rr =>
      dsimp only [dBop] at q
      cases el : tbl.lookup c with
      | none => rw [el] at q; exact q.elim
      | some mf =>
        rw [el] at q
        dsimp only at q
        have hm : c ∈ cs := by rw [hcs]; exact List.mem_map.mpr ⟨_, mem_of_lookup el, rfl⟩
        unfold bopB at hB
        have hBc := List.all_eq_true.mp hB c hm
        rw [← B.hK] at hBc
        simp only [Bool.and_eq_true, List.all_eq_true] at hBc
        obtain ⟨_, hty, hos⟩ := hBc
        have fin : ∀ tb, tbOf m.S dy = some tb → rightB X.K (m.S.ca c) op.info.2 tb = true → PostS m K G1 (match mf [.obj c ds, dy] p1 with | some (.ok d, p') => some (.nx (δ.set i (some (.d d))), p') | _ => none) → rAug m X.K tbl op.info.2 (.ref a) y H1 (fun z H2 => K.nx (σ.set i (some z)) H2) := fun tb et hR hq => by
          refine ⟨c, mf, a, dxx, _, G1, p1, ds, dy, tb, el, rfl, w1.sub _ _ ha, w1, rv1, ry, et, hR, ?_⟩
          rcases hmf : mf [.obj c ds, dy] p1 with _ | ⟨o, p2⟩
          · rw [hmf] at hq; exact hq.elim
          · rw [hmf] at hq
            cases o with
            | ex c' gs => exact hq.elim
            | ok d => exact fun z G' H' x' w' rz => hq _ G' H' x'.sub w' ((xx.trans x1).trans x') (((sl.ex x1).ex x').set rz)
        by_cases hy : ∃ c' gs, dy = .obj c' gs
        · obtain ⟨c', gs, rfl⟩ := hy
          dsimp only at q
          by_cases hz : os.contains c' = true
          · rw [if_pos hz] at q
            exact fin _ rfl (hos c' (by simpa using hz)) q
          · rw [if_neg hz] at q; exact q.elim
        · have q' : PostS m K G1 (match (match tyName dy with | some _ => mf [.obj c ds, dy] | none => M.stuck) p1 with | some (.ok d, p') => some (.nx (δ.set i (some (.d d))), p') | _ => none) := by
            cases dy <;> first | exact q | exact absurd ⟨_, _, rfl⟩ hy
          cases ht : tyName dy with
          | none => rw [ht] at q'; exact q'.elim
          | some t =>
            rw [ht] at q'
            have et : tbOf m.S dy = some (.type t) := by
              cases dy <;> first | exact absurd ⟨_, _, rfl⟩ hy | (simp only [tbOf, ht, Option.map_some])
            have hx := hty t (tyName_in ht)
            refine fin _ et ?_ q'
            simp only [rightB, Bool.and_eq_true]
            exact hx
    | _ => exact q.elim
  · exact h.elim
theorem me_bopN {op : Operator} {nm : Str} {tbl : OTab} {cs os : List Nat} {a b : Expr} {ea eb : EX} {pos : Pos} (hn : nm = PySem.dunder op.info.2) (B : Bx X m j) (T : ∀ c mf, tbl.lookup c = some mf → OwnT X.prog X.w X.K X.mg X.base m.S k c nm 2 mf) (hk : Nat.ble k j = true) (hcs : cs = tbl.map (·.1)) (hB : bopB m.S.K m.S cs os op.info.2 = true) (ha : PE X a (tE m ea)) (hb : PE X b (tE m eb)) : PE X (.BinOp a op b pos) (tE m (mBin (dBop tbl os) ea eb)) := by
  subst hn
  exact me_bop B T hk hcs hB ha hb
theorem ms_augN {op : Operator} {nm : Str} {tbl : OTab} {cs os : List Nat} {i : Nat} {x : Str} {e : Expr} {ea : EX} {pos pos' : Pos} (hn : nm = PySem.dunder op.info.2) (B : Bx X m j) (T : ∀ c mf, tbl.lookup c = some mf → OwnT X.prog X.w X.K X.mg X.base m.S k c nm 2 mf) (hk : Nat.ble k j = true) (hcs : cs = tbl.map (·.1)) (hB : bopB m.S.K m.S cs os op.info.2 = true) (hA : augB m.S.K m.S cs op.info.2 = true)
    (hN : X.N.Nodup) (hi : X.N[i]? = some x) (hx : Loc X.env.scope x) (he : PE X e (tE m ea)) (hf : X.fn x = true ∨ X.env.scope.names.lookup x = some .local := by first | exact .inl rfl | exact .inr rfl | assumption) : PS X (.AugAssign (.Name x pos') op e pos) (tS m (sAug i (dBop tbl os) ea)) := by
  subst hn
  exact ms_aug B T hk hcs hB hA hN hi hx he hf
end
end ME

/-! zip of a tuple and a list: the walk of two tuples, turned. -/
namespace RZ
open PySem PySem.Spec PyProof.Rows L2
section
variable {prog : Program} {w : World} {A : Around} {E : Value → Shared → Prop} {s : Shared}
end

noncomputable abbrev zipMH1 (h : Heap) (l1 : Addr) : Heap := h.push { cls := .type "tuple_iterator", data := .fields #[.ref l1, .int 0 0] }
noncomputable abbrev zipMH2 (h : Heap) (l1 l2 : Addr) : Heap := (zipMH1 h l1).push { cls := .type "list_iterator", data := .fields #[.ref l2, .int 0 0] }
noncomputable abbrev zipMH3 (h : Heap) (l1 l2 : Addr) : Heap := (zipMH2 h l1 l2).push { cls := .type "tuple", data := .seq #[.ref h.objs.size, .ref (zipMH1 h l1).objs.size] }
noncomputable abbrev zipMH4 (h : Heap) (l1 l2 : Addr) : Heap := (zipMH3 h l1 l2).push { cls := .type "tuple", data := .seq #[.none, .none] }
noncomputable abbrev zipMH5 (h : Heap) (l1 l2 : Addr) : Heap := (zipMH4 h l1 l2).push { cls := .type "zip", data := .fields #[.none, .bool false, .bool false, .ref (zipMH2 h l1 l2).objs.size, .ref (zipMH3 h l1 l2).objs.size] }

section
variable {prog : Program} {w : World} {A :
    Around} {E : Value → Shared → Prop} {s : Shared}

end
/-- a tuple and a list as they stand at each turn, the items in new pairs -/
noncomputable def ItzM (K : PySem.W.Frag) (a b : Addr) : It :=
  ⟨fun i H => ∃ (xs ys : List V) (x y : V), SqT K H a xs ∧ SqL K H b ys ∧ xs[i]? = some x ∧ ys[i]? = some y,
    fun i H v H' => ∃ T x y, v = .ref T ∧ H T = none ∧ H' = upd H T (.tup [x, y]) ∧ (∀ xs, SqT K H a xs → xs[i]? = some x) ∧ ∀ ys, SqL K H b ys → ys[i]? = some y,
    fun i H => ∃ xs ys : List V, SqT K H a xs ∧ SqL K H b ys ∧ (xs.length ≤ i ∨ ys.length ≤ i)⟩
end RZ
namespace ME
open PySem PySem.Spec PyProof.Rows L2
noncomputable def iZipR (K : PySem.W.Frag) (ta : TA) : TI := fun σ H R => ta σ H fun vs H1 => ∃ a b xs ys, vs = [.ref a, .ref b] ∧ SqT K H1 a xs ∧ ((SqL K H1 b ys ∧ R (RZ.ItzM K a b) H1) ∨ (SqT K H1 b ys ∧ R (RZ.ItzT K a b) H1))
noncomputable def iZipX (e : AX) : DS → M (List D) := fun δ => (e δ).bnd fun d => match d with
  | [.tup l, .lst r] => M.ret (zipD l r)
  | [.tup l, .tup r] => M.ret (zipD l r)
  | _ => M.stuck
section
variable {X : Cx} {m : Am} {e e2 : Expr} {ra : AX} {p pos tpos : Pos} {elts : List Expr} {kk j : Nat}
end
end ME

/-! isinstance(x, (T, U)), T and U built-in types. -/
namespace ME
open PySem PySem.Spec PyProof.Rows L2
noncomputable def dIsi2 (n n2 : String) (d : D) : M D := match tyName d with
  | some a => if tyGoals.contains n && tyGoals.contains n2 then M.ret (.bl (subB a n || subB a n2)) else M.stuck
  | none => M.stuck
section
variable {X : Cx} {m : Am} {j : Nat} {e : Expr} {ea : EX} {p p1 p2 p3 pos : Pos} {k1 : _}
end
end ME

/-! a * x by an own __rmul__ of x; stars in displays; tuples times ints. -/
namespace PySem.MeRef
open PySem PySem.W PySem.Calls PyProof.Rows PySem.Spec
section
variable {prog : Program} {w : World} {M : Model} {A : Around} {E : Value → Shared → Prop} {s : Shared} {K : Frag} {x C f f0 : Addr} {ox : Obj} {od : Option Obj} {nm : String}
theorem meets_imul (a : Int) (t : Tok) (l : Addr) (ol : Obj) (hd : ∀ v, ol.data ≠ .prim v) : Meets (Builtin.«int.__mul__» ⟨[.int a t, .ref l], []⟩) (fun _ R s => s.heap.get? l = some ol ∧ R (.ok (.ret Value.notImplemented)) s) :=
  .of_wp fun prog w A R s h => by
    obtain ⟨cls, dd, data, sl⟩ := ol
    obtain ⟨hl, h⟩ := h
    show wpAny _ _ (asInt? (.ref l) >>= _) _ _ s
    unfold asInt?
    refine wpAny_bind (wpAny_bind (wpAny_load hl ?_))
    cases data with
    | prim v => exact absurd rfl (hd v)
    | _ => exact wpAny_pure (wpAny_bind (wpAny_rule (wpAny_pure ⟨_, rfl, h⟩)))
theorem meets_bmul (b : Bool) (l : Addr) (ol : Obj) (hd : ∀ v, ol.data ≠ .prim v) : Meets (Builtin.«int.__mul__» ⟨[.bool b, .ref l], []⟩) (fun _ R s => s.heap.get? l = some ol ∧ R (.ok (.ret Value.notImplemented)) s) :=
  .of_wp fun prog w A R s h => by
    obtain ⟨cls, dd, data, sl⟩ := ol
    obtain ⟨hl, h⟩ := h
    show wpAny _ _ (asInt? (.ref l) >>= _) _ _ s
    unfold asInt?
    refine wpAny_bind (wpAny_bind (wpAny_load hl ?_))
    cases data with
    | prim v => exact absurd rfl (hd v)
    | _ => exact wpAny_pure (wpAny_bind (wpAny_rule (wpAny_pure ⟨_, rfl, h⟩)))
theorem try_int {a : Int} {t : Tok} {Q : Option Value → Shared → Prop} (hx : s.heap.get? x = some ox) (hd : ∀ v, ox.data ≠ .prim v) (h : Q none s) : wpAny (model prog w) A (tryMethod (.int a t) (PySem.dunder "mul") (.ref x)) Q E s := by
  unfold tryMethod
  refine wpAny_bind (wpAny_callSpecial?_slot (name := PySem.dunder "mul") (typeIs_int s a t) PySem.F.slot_int_mul (call_meets PySem.F.slot_int_mul (typeIs_int s a t) PySem.F.entry_int_mul (PySem.F.args_int_mul_2 _ _) (meets_imul a t x ox hd) ⟨hx, ?_⟩))
  exact wpAny_pure h
theorem try_bool {a : Bool} {Q : Option Value → Shared → Prop} (hx : s.heap.get? x = some ox) (hd : ∀ v, ox.data ≠ .prim v) (h : Q none s) : wpAny (model prog w) A (tryMethod (.bool a) (PySem.dunder "mul") (.ref x)) Q E s := by
  unfold tryMethod
  refine wpAny_bind (wpAny_callSpecial?_slot (name := PySem.dunder "mul") (typeIs_bool s a) PySem.F.slot_bool_mul (call_meets PySem.F.slot_bool_mul (typeIs_bool s a) PySem.F.entry_int_mul (PySem.F.args_int_mul_2 _ _) (meets_bmul a x ox hd) ⟨hx, ?_⟩))
  exact wpAny_pure h
/-- a * x, x of an own class with __rmul__ -/
theorem rmul {a : Value} {T : String} {Q : Value → Shared → Prop} (X : K.In s.heap) (I : InstAt s.heap x ox C od) (ha : Looks (model prog w) s.heap (typeOf a) (.type T)) (hc : selfFirst K C = true)
    (hs : findIn K (.ref C) (PySem.dunder "mul") = some (some (.ref f0))) (hr : findIn K (.ref C) (dunderR "mul") = some (some (.ref f))) (hf : isFn K (.ref f) = true) (hsub : subIn K (.ref C) (.type T) = some false)
    (hl : ∃ l, Looks (model prog w) s.heap (fillsNumberSlot (.type T) "mul") l ∧ (l = true → ∀ Q' : Option Value → Shared → Prop, Q' none s → wpAny (model prog w) A (tryMethod a (PySem.dunder "mul") (.ref x)) Q' E s))
    (h : wpAny (model prog w) A (call (.ref f) [.ref x, a]) (PySem.W.CmpBack Q) E s) : wpAny (model prog w) A (binaryOp .Mult a (.ref x)) Q E s := by
  obtain ⟨cd, rest, hcd, hm⟩ := ksp_first hc
  obtain ⟨l, hL, hT⟩ := hl
  have one := ksp_try X I hr hf h
  have Lf : Looks (model prog w) s.heap (fillsNumberSlot (.ref C) "mul") true := fills_K X hcd hm hs
  have Lx : Looks (model prog w) s.heap (typeOf (.ref x)) (.ref C) := I.type
  have Ls : Looks (model prog w) s.heap (isSubtype (.ref C) (.type T)) false := looks_subIn X hsub
  have hne : (Value.type T == Value.ref C) = false := Bool.eq_false_iff.mpr fun q => by cases beq_iff_eq.mp q
  show wpAny (model prog w) A (holding [a, .ref x] _) Q E s
  refine wpAny_holding (wpAny_bind ?_)
  show wpAny (model prog w) A (binaryOp1 "mul" a (.ref x)) _ E s
  unfold binaryOp1
  refine wpAny_bind (ha.here (wpAny_bind (Lx.here (wpAny_bind (hL.here ?_)))))
  simp only [hne, Bool.false_eq_true, if_false]
  refine wpAny_bind (Lf.here ?_)
  cases l with
  | false =>
    simp only [Bool.and_true, Bool.false_and, Bool.false_eq_true, if_false, Bool.true_and, Bool.not_false, if_true]
    refine wpAny_bind (wpAny_pure ?_)
    refine wpAny_bind (wpAny_mono one (fun r s' hr' => ?_) fun _ _ e => e)
    obtain ⟨v, rfl, hq⟩ := hr'
    exact wpAny_bind (wpAny_rule (wpAny_pure (wpAny_pure hq)))
  | true =>
    simp only [Bool.and_true, Bool.true_and, if_true, Bool.not_false]
    refine wpAny_bind (Ls.here ?_)
    simp only [Bool.false_eq_true, if_false, Bool.not_false, if_true]
    refine wpAny_bind (wpAny_pure ?_)
    simp only [Bool.false_eq_true, if_false]
    refine wpAny_bind (hT rfl _ ?_)
    dsimp only
    refine wpAny_bind (wpAny_mono one (fun r s' hr' => ?_) fun _ _ e => e)
    obtain ⟨v, rfl, hq⟩ := hr'
    exact wpAny_bind (wpAny_rule (wpAny_pure (wpAny_pure hq)))
end
end PySem.MeRef
namespace ME
open PySem PySem.Spec PyProof.Rows L2
noncomputable def dMulO (tbl tblR : OTab) (os : List Nat) : D → D → M D
  | .obj c fs, y => dBop tbl os (.obj c fs) y
  | x, .obj c fs => match tyName x with
    | some _ => match tblR.lookup c with
      | some mf => mf [.obj c fs, x]
      | none => M.stuck
    | none => M.stuck
  | _, _ => M.stuck
noncomputable def fillB (K : PySem.W.Frag) (a : String) : Option Bool := match PySem.W.findIn K (.type a) (PySem.dunder "mul"), PySem.W.findIn K (.type a) (dunderR "mul") with
  | some fo, some ro => some ((fo.isSome && !isSeqSlot fo) || (ro.isSome && !isSeqSlot ro))
  | _, _ => none
noncomputable def rmB (K : PySem.W.Frag) (S : Sg) (cs : List Nat) : Bool := cs.all fun c => (PySem.W.selfFirst K (S.ca c) && (match PySem.W.findIn K (.ref (S.ca c)) (PySem.dunder "mul") with | some (some (.ref _)) => true | _ => false)) && tyNames.all fun a => PySem.W.subIn K (.ref (S.ca c)) (.type a) == some false && (if a == "int" || a == "bool" then (fillB K a).isSome else fillB K a == some false)
section
variable {X : Cx} {m : Am} {j k k2 : Nat}
theorem bop_op {op : Operator} {tbl : OTab} {cs os : List Nat} {pins : List (Addr × Obj)} {s2 : Shared} {σ : L2.St} {G H2 : Hp} {p : Pn} {x y : V} {v u : Value} {c : Nat} {ds : List D} {dy : D} {Q : VK} (B : Bx X m j) (T : ∀ c mf, tbl.lookup c = some mf → OwnT X.prog X.w X.K X.mg X.base m.S k c (PySem.dunder op.info.2) 2 mf) (hk : Nat.ble k j = true) (hcs : cs = tbl.map (·.1)) (hB : bopB m.S.K m.S cs os op.info.2 = true)
    (I2 : Inv X pins σ H2 s2) (rx : RelV x v) (ry : RelV y u) (w : Wd m.S m.pen G H2 p) (r1 : Rep m.S G m.pen x (.obj c ds)) (r2 : Rep m.S G m.pen y dy) (h5 : Post m.S m.pen m.rE G H2 Q (fun c d H' => m.W c d σ H') (dBop tbl os (.obj c ds) dy p)) : wpAny (model X.prog X.w) X.A (binaryOp op v u) (EP X pins σ Q) X.xe s2 := by
  cases id r1 with
  | @obj ad dxx _ vs _ had hl rr =>
    dsimp only [dBop] at h5
    cases e : tbl.lookup c with
    | none => rw [e] at h5; exact h5.elim
    | some mf =>
      rw [e] at h5
      dsimp only at h5
      obtain ⟨f, fd, ps, F, hs, hf, hbd⟩ := T c mf e
      unfold bopB at hB
      have hBc := List.all_eq_true.mp hB c (by rw [hcs]; exact List.mem_map.mpr ⟨_, mem_of_lookup e, rfl⟩)
      rw [← B.hK] at hBc
      simp only [Bool.and_eq_true, List.all_eq_true] at hBc
      obtain ⟨⟨hself, href⟩, hty, hos⟩ := hBc
      obtain ⟨rc, hrc, hrp⟩ : ∃ rc, PySem.W.findIn X.K (.ref (m.S.ca c)) (dunderR op.info.2) = some rc ∧ (rc = none ∨ ∃ g : Addr, rc = some (.ref g)) := by
        revert href
        generalize PySem.W.findIn X.K (.ref (m.S.ca c)) (dunderR op.info.2) = z
        intro href
        match z, href with
        | some none, _ => exact ⟨_, rfl, .inl rfl⟩
        | some (some (.ref g)), _ => exact ⟨_, rfl, .inr ⟨g, rfl⟩⟩
      cases (show v = Value.ref ad from rx)
      obtain ⟨od, J⟩ := insInst I2 (w.sub _ _ had)
      obtain ⟨m', hF⟩ := I2.fr
      have key : ∀ tb, tbOf m.S dy = some tb → (tb = .ref (m.S.ca c) ∨ PySem.MeBop.RightOk X.K (m.S.ca c) op.info.2 (model X.prog X.w) s2.heap tb) → Post m.S m.pen m.rE G H2 Q (fun c d H' => m.W c d σ H') (mf [.obj c ds, dy] p) → wpAny (model X.prog X.w) X.A (binaryOp op (.ref ad) u) (EP X pins σ Q) X.xe s2 := fun tb et hR h6 => by
        have hcall : wpAny (model X.prog X.w) X.A (call (.ref f) [.ref ad, u]) (PySem.W.CmpBack (EP X pins σ Q)) X.xe s2 := by
          obtain ⟨its, vd, bd⟩ := hbd.ex
          cases vd
          have bt := bd s2 [.ref ad, u] [] I2.kIn rfl rfl
          have sp : spM m.S mf [.ref ad, y] H2 Q (WE m.W σ) := ⟨m.pen, G, p, _, w, .cons r1 (.cons r2 .nil), h6⟩
          refine wpAny_mono (wpAny_call (codeAny_mono ((F.mono (Nat.le_of_ble_eq_true hk)).run X.A X.stack s2 H2 ⟨[.ref ad, u], []⟩ [.ref ad, u] [.ref ad, y] Q (WE m.W σ) B.hq B.hr I2.env0 bt (.cons rfl (.cons ry .nil)) sp) (R' := fun r s' => match r with | .ok (.ret v) => EP X pins σ Q v s' | .ok _ => False | .error e => X.xe e s') fun r s' hq => ?_)) (fun w s' z => ?_) fun _ _ x => x
          · cases r with
            | error e => exact passAt B.tk σ pins H2 s2 e s' I2 hq
            | ok fl =>
              cases fl with
              | ret u => exact I2.after hq
              | next => exact False.elim hq
              | brk => exact False.elim hq
              | cont => exact False.elim hq
          · obtain ⟨z', H', I', rz, qz⟩ := z
            exact SlX.cmpback rz ⟨z', H', I', rz, qz⟩
        rcases hR with rfl | hR
        · exact PySem.W.binop_K hF I2.ok.mod.kin J (looks_tb B.hK I2 w r2 ry et) hself hs hf hcall
        · exact PySem.MeBop.bop I2.kIn J (looks_tb B.hK I2 w r2 ry et) hself hs hf hrc hrp hR hcall
      by_cases hy : ∃ c' gs, dy = .obj c' gs
      · obtain ⟨c', gs, rfl⟩ := hy
        dsimp only at h5
        split at h5
        · rename_i hz
          have ho := hos c' (by simpa using hz)
          by_cases hcc : m.S.ca c' = m.S.ca c
          · exact key _ rfl (.inl (by rw [hcc])) h5
          · refine key _ rfl (.inr (right_own I2.kIn hcc ?_)) h5
            rcases Bool.or_eq_true_iff.mp ho with z | z
            · exact absurd (beq_iff_eq.mp z) hcc
            · exact z
        · exact h5.elim
      · have h' : Post m.S m.pen m.rE G H2 Q (fun c d H' => m.W c d σ H') ((match tyName dy with | some _ => mf [.obj c ds, dy] | none => M.stuck) p) := by
          cases dy <;> first | exact h5 | exact absurd ⟨_, _, rfl⟩ hy
        cases q : tyName dy with
        | none => rw [q] at h'; exact h'.elim
        | some t =>
          rw [q] at h'
          have et : tbOf m.S dy = some (.type t) := by
            cases dy <;> first | exact absurd ⟨_, _, rfl⟩ hy | (simp only [tbOf, q, Option.map_some])
          have hx := hty t (tyName_in q)
          exact key _ et (.inr (right_type I2.kIn hx.1.1 hx.1.2 (beq_iff_eq.mp hx.2))) h'
theorem rmul_op {tblR : OTab} {cs : List Nat} {pins : List (Addr × Obj)} {s2 : Shared} {σ : L2.St} {G H2 : Hp} {p : Pn} {x y : V} {v u : Value} {c : Nat} {ds : List D} {dx : D} {t : String} {Q : VK} {mf : List D → M D} (B : Bx X m j) (T : ∀ c mf, tblR.lookup c = some mf → OwnT X.prog X.w X.K X.mg X.base m.S k2 c "__rmul__" 2 mf) (hk : Nat.ble k2 j = true) (hcs : cs = tblR.map (·.1)) (hR : rmB m.S.K m.S cs = true)
    (I2 : Inv X pins σ H2 s2) (rx : RelV x v) (ry : RelV y u) (w : Wd m.S m.pen G H2 p) (r1 : Rep m.S G m.pen x dx) (r2 : Rep m.S G m.pen y (.obj c ds)) (et : tyName dx = some t) (el : tblR.lookup c = some mf) (h6 : Post m.S m.pen m.rE G H2 Q (fun c d H' => m.W c d σ H') (mf [.obj c ds, dx] p)) : wpAny (model X.prog X.w) X.A (binaryOp .Mult v u) (EP X pins σ Q) X.xe s2 := by
  have no : ∀ c' gs, dx ≠ .obj c' gs := fun c' gs z => by subst z; cases et
  cases id r2 with
  | @obj ad dxx _ vs _ had hl rr =>
    obtain ⟨f, fd, ps, F, hs, hf, hbd⟩ := T c mf el
    unfold rmB at hR
    have hRc := List.all_eq_true.mp hR c (by rw [hcs]; exact List.mem_map.mpr ⟨_, mem_of_lookup el, rfl⟩)
    rw [← B.hK] at hRc
    simp only [Bool.and_eq_true, List.all_eq_true] at hRc
    obtain ⟨⟨hself, hmul⟩, hty⟩ := hRc
    obtain ⟨f0, hf0⟩ : ∃ f0, PySem.W.findIn X.K (.ref (m.S.ca c)) (PySem.dunder "mul") = some (some (.ref f0)) := by
      revert hmul
      generalize PySem.W.findIn X.K (.ref (m.S.ca c)) (PySem.dunder "mul") = z
      intro hz
      match z, hz with
      | some (some (.ref g)), _ => exact ⟨g, rfl⟩
    have ht := hty t (tyName_in et)
    have hn : ("__rmul__" : Str) = dunderR "mul" := by kernel_rfl
    rw [hn] at hs
    cases (show u = Value.ref ad from ry)
    obtain ⟨od, J⟩ := insInst I2 (w.sub _ _ had)
    have etb : tbOf m.S dx = some (.type t) := by
      cases dx <;> first | exact absurd rfl (no _ _) | (simp only [tbOf, et, Option.map_some])
    have fill : ∀ b, fillB X.K t = some b → PySem.W.Looks (model X.prog X.w) s2.heap (fillsNumberSlot (.type t) "mul") b := fun b hb => by
      unfold fillB at hb
      split at hb
      · rename_i fo ro e1 e2
        cases hb
        exact PySem.W.ksp_fillsT I2.kIn e1 e2
      · cases hb
    have hd : ∀ z, (PySem.W.instObj (m.S.ca c) dxx).data ≠ .prim z := fun z q => by cases q
    refine PySem.MeRef.rmul (f0 := f0) I2.kIn J (looks_tb B.hK I2 w r1 rx etb) hself hf0 hs hf (beq_iff_eq.mp ht.1) ?_ ?_
    · by_cases hi : (t == "int" || t == "bool") = true
      · have h2 := ht.2
        rw [if_pos hi] at h2
        obtain ⟨b, hb⟩ := Option.isSome_iff_exists.mp h2
        refine ⟨b, fill b hb, fun _ Q' hq => ?_⟩
        cases dx with
        | int i =>
          cases r1
          obtain ⟨tk, rfl⟩ := (show ∃ tk, v = Value.int i tk from rx)
          exact PySem.MeRef.try_int J.at_ hd hq
        | bl b =>
          cases r1
          cases (show v = Value.bool b from rx)
          exact PySem.MeRef.try_bool J.at_ hd hq
        | obj c' gs => exact absurd rfl (no _ _)
        | non => cases et; exact absurd hi (by decide)
        | str s => cases et; exact absurd hi (by decide)
        | tup s => cases et; exact absurd hi (by decide)
        | lst s => cases et; exact absurd hi (by decide)
        | dct s => cases et; exact absurd hi (by decide)
        | _ => cases et
      · have h2 := ht.2
        rw [if_neg hi] at h2
        exact ⟨false, fill false (beq_iff_eq.mp h2), fun z => by cases z⟩
    · obtain ⟨its, vd, bd⟩ := hbd.ex
      cases vd
      have bt := bd s2 [.ref ad, v] [] I2.kIn rfl rfl
      have sp : spM m.S mf [.ref ad, x] H2 Q (WE m.W σ) := ⟨m.pen, G, p, _, w, .cons r2 (.cons r1 .nil), h6⟩
      refine wpAny_mono (wpAny_call (codeAny_mono ((F.mono (Nat.le_of_ble_eq_true hk)).run X.A X.stack s2 H2 ⟨[.ref ad, v], []⟩ [.ref ad, v] [.ref ad, x] Q (WE m.W σ) B.hq B.hr I2.env0 bt (.cons rfl (.cons rx .nil)) sp) (R' := fun r s' => match r with | .ok (.ret v) => EP X pins σ Q v s' | .ok _ => False | .error e => X.xe e s') fun r s' hq => ?_)) (fun w s' z => ?_) fun _ _ x => x
      · cases r with
        | error e => exact passAt B.tk σ pins H2 s2 e s' I2 hq
        | ok fl =>
          cases fl with
          | ret u => exact I2.after hq
          | next => exact False.elim hq
          | brk => exact False.elim hq
          | cont => exact False.elim hq
      · obtain ⟨z', H', I', rz, qz⟩ := z
        exact SlX.cmpback rz ⟨z', H', I', rz, qz⟩
theorem me_mulO {nm : Str} {tbl tblR : OTab} {cs csR os : List Nat} {a b : Expr} {ea eb : EX} {pos : Pos} (hn : nm = PySem.dunder (Operator.Mult).info.2) (B : Bx X m j) (T : ∀ c mf, tbl.lookup c = some mf → OwnT X.prog X.w X.K X.mg X.base m.S k c nm 2 mf) (hk : Nat.ble k j = true) (hcs : cs = tbl.map (·.1)) (hB : bopB m.S.K m.S cs os (Operator.Mult).info.2 = true)
    (T2 : ∀ c mf, tblR.lookup c = some mf → OwnT X.prog X.w X.K X.mg X.base m.S k2 c "__rmul__" 2 mf) (hk2 : Nat.ble k2 j = true) (hcs2 : csR = tblR.map (·.1)) (hR : rmB m.S.K m.S csR = true) (ha : PE X a (tE m ea)) (hb : PE X b (tE m eb)) : PE X (.BinOp a .Mult b pos) (tE m (mBin (dMulO tbl tblR os) ea eb)) := by
  subst hn
  refine ⟨fun pins s σ H Q I h => ?_⟩
  refine wpAny_BinOp (binT (R := fun x y H2 => tY m (rP (rP r0 m.rE) m.rE) m.rE (((), x), y) (fun z _ => dMulO tbl tblR os z.1.2 z.2) σ H2 Q) ha hb I ((tY_bind (R1 := m.rE) r0_mono h).imp fun x H1 h2 => (tY_bind (R1 := m.rE) (rP_mono r0_mono (rE_mono m)) h2).imp fun y H2 h4 => h4) fun v u s2 x y H2 I2 rx ry q => ?_)
  obtain ⟨G, p, δ, ⟨⟨_, dx⟩, dy⟩, w, sl, ⟨⟨_, r1⟩, r2⟩, h5⟩ := q
  have r1 : Rep m.S G m.pen x dx := r1
  have r2 : Rep m.S G m.pen y dy := r2
  by_cases hx : ∃ c fs, dx = .obj c fs
  · obtain ⟨c, fs, rfl⟩ := hx
    exact bop_op B T hk hcs hB I2 rx ry w r1 r2 h5
  · by_cases hy : ∃ c fs, dy = .obj c fs
    · obtain ⟨c, fs, rfl⟩ := hy
      have h' : Post m.S m.pen m.rE G H2 Q (fun c d H' => m.W c d σ H') ((match tyName dx with | some _ => (match tblR.lookup c with | some mf => mf [.obj c fs, dx] | none => M.stuck) | none => M.stuck) p) := by
        cases dx <;> first | exact h5 | exact absurd ⟨_, _, rfl⟩ hx
      cases et : tyName dx with
      | none => rw [et] at h'; exact h'.elim
      | some t =>
        rw [et] at h'
        dsimp only at h'
        cases el : tblR.lookup c with
        | none => rw [el] at h'; exact h'.elim
        | some mf =>
          rw [el] at h'
          exact rmul_op B T2 hk2 hcs2 hR I2 rx ry w r1 r2 et el h'
    · exfalso
      cases dx <;> cases dy <;> first | exact h5 | exact hx ⟨_, _, rfl⟩ | exact hy ⟨_, _, rfl⟩
end
end ME

/-! [*a, b]; tuple * int. -/
namespace ME
open PySem PySem.Spec PyProof.Rows L2
noncomputable def mStarC (ea : EX) (ra : AX) : AX := fun δ => (ea δ).bnd fun d => match d with
  | .tup l => (ra δ).bnd fun ys => M.ret (l ++ ys)
  | .lst l => (ra δ).bnd fun ys => M.ret (l ++ ys)
  | _ => M.stuck
section
variable {X : Cx} {m : Am} {e : Expr} {es : List Expr} {ea : EX} {ra : AX} {p : Pos}
end
section
variable {X : Cx} {m : Am}
noncomputable def dRepT : D → D → M D
  | .tup l, .int k => if !l.isEmpty && decide (1 ≤ k) && decide (k ≤ 1000) && decide (l.length ≤ 1000) then M.ret (.tup (List.replicate k.toNat l).flatten) else M.stuck
  | _, _ => M.stuck
end
end ME

/-! list(o), o an instance whose __iter__ says: return iter(self.f), f a tuple, and that has an own __len__. -/
namespace ME
open PySem PySem.Spec PyProof.Rows L2
section
variable {X : Cx} {m : Am} {j k : Nat}
noncomputable def dLstO (tblI : List (Nat × Nat)) (tbl : OTab) : List D → M D
  | [.obj c fs] => match tblI.lookup c, tbl.lookup c with
    | some kf, some mf => match fs[kf]? with
      | some (.tup l) => ((mf [.obj c fs]).calm).bnd fun d => match d with
        | .int n => if decide (0 ≤ n) && decide (n ≤ 1000) then M.ret (.lst l) else M.stuck
        | _ => M.stuck
      | _ => M.stuck
    | _, _ => M.stuck
  | ds => dLst1 ds
noncomputable def rLstO (m : Am) (tblI : List (Nat × Nat)) (tbl : OTab) : List V → Hp → VK → Prop := fun xs H Q => ∃ c kf mf a dx vs t ts G p p1 n ds, tblI.lookup c = some kf ∧ tbl.lookup c = some mf ∧ xs = [.ref a] ∧ H a = some (.ins (m.S.ca c) dx ((m.S.nm c).zip vs)) ∧ vs.length = (m.S.nm c).length ∧ vs[kf]? = some (.ref t) ∧ SqT m.S.K G t ts ∧ Wd m.S m.pen G H p ∧ Rep m.S G m.pen (.ref a) (.obj c ds) ∧ mf [.obj c ds] p = some (.ok (.int n), p1) ∧ 0 ≤ n ∧ n ≤ 1000 ∧
  ∀ G' H' q, Ex m.pen G H G' H' → Wd m.S m.pen G' H' p1 → H' q = none → Q (.ref q) (upd H' q (.lst ts))
end
end ME

/-! while c: .. (no else): the mirror has a bound on the turns, beyond which it claims nothing. -/
namespace ME
open PySem PySem.Spec PyProof.Rows L2
noncomputable def whGo (t : TX) (s : SX) : Nat → SX
  | 0 => fun _ _ => none
  | n + 1 => sBnd t fun b => match b with
    | false => sNx
    | true => fun δ p => match s δ p with
      | none => none
      | some (.nx δ', p') => whGo t s n δ' p'
      | some (.ct δ', p') => whGo t s n δ' p'
      | some (.bk δ', p') => some (.nx δ', p')
      | some (.rt d, p') => some (.rt d, p')
      | some (.er c fs δ', p') => some (.er c fs δ', p')
noncomputable def sWhile (n : Nat) (t : TX) (s : SX) : SX := whGo t s n
section
variable {X : Cx} {m : Am} {body : List Stmt} {t : TX} {s : SX} {pos : Pos} {c : Expr}
theorem ms_while {n0 : Nat} (hp : PassesOwn (model X.prog X.w) X.A X.env X.xe) (hc : PT X c (tT m t)) (hb : PSs X body (tS m s)) : PS X (.While c body [] pos) (tS m (sWhile n0 t s)) := by
  refine PS.imp (ps_while hp hc hb) fun K σ H h => ?_
  obtain ⟨G0, p0, δ0, w0, x0, sl0, q0⟩ := h
  let W : Nat → L2.St → Hp → Prop := fun n σ H => ∃ G p δ, Wd m.S m.pen G H p ∧ Ex m.pen m.G0 m.B G H ∧ SlR m.S m.pen m.B G H σ δ ∧ PostS m K G (whGo t s n δ p)
  refine ⟨W, ⟨n0, G0, p0, δ0, w0, x0, sl0, q0⟩, ?_⟩
  rintro n σ1 H1 ⟨G, p, δ, w, x, sl, q⟩
  cases n with
  | zero => exact q.elim
  | succ n =>
    refine (tS_bind (R := rB) (show tS m (sBnd t _) K σ1 H1 from ⟨G, p, δ, w, x, sl, q⟩)).imp fun v H2 ⟨a, G2, p2, δ2, w2, x2, sl2, r2, q2⟩ => ?_
    have r2 : v = a := r2
    subst r2
    cases v with
    | false => exact q2 _ G2 H2 (Sub.refl _) w2 x2 sl2
    | true =>
      refine ⟨W n, fun σ' H' hN => ⟨n, Nat.lt_succ_self n, hN⟩, G2, p2, δ2, w2, x2, sl2, ?_⟩
      dsimp only at q2
      rcases hs' : s δ2 p2 with _ | ⟨o, p3⟩
      · rw [hs'] at q2; exact q2
      · rw [hs'] at q2
        cases o with
        | nx δ3 => exact fun σ3 G3 H3 s3 w3 x3 sl3 => ⟨G3, p3, δ3, w3, x3, sl3, q2.mono s3⟩
        | ct δ3 => exact fun σ3 G3 H3 s3 w3 x3 sl3 => ⟨G3, p3, δ3, w3, x3, sl3, q2.mono s3⟩
        | bk δ3 => exact q2
        | rt d => exact q2
        | er c fs δ3 => exact q2
end
end ME

/-! t.replace(y, z) of written texts y, z, within c.join(..), c a written text: there a token is out. -/
namespace ME
open PySem PySem.Spec PyProof.Rows L2
noncomputable def dRepl (y z : Str) : D → M D
  | .str x => if decide (x.length + (x.length + 1) * z.length ≤ 16777216) then M.ret (.str (Txt.replace x y z)) else M.stuck
  | _ => M.stuck
section
variable {X : Cx} {m : Am} {j k : Nat} {e a b o : Expr} {es : List Expr} {ea eb eo : EX} {ra : AX} {pos apos cpos : Pos}
end
end ME

/-! Dicts that are read: d[k], k in d, d.get; dict(..) of pairs or of a dict; list.index; a list that is being made compared. -/
namespace ME
open PySem PySem.Spec PyProof.Rows L2
noncomputable def valD (kvs : List (Key × D)) (k : Key) : Option D := (kvs.find? fun kv => decide (kv.1 = k)).map (·.2)
/-- d[k] -/
noncomputable def dIxK : D → D → M D
  | .dct kvs, k => match dKey k with
    | some q => M.opt (valD kvs q)
    | none => M.stuck
  | _, _ => M.stuck
noncomputable def dIxA : D → D → M D
  | .dct kvs, k => dIxK (.dct kvs) k
  | x, y => dIx x y
/-- d.get(k, x) -/
noncomputable def dGet2 : D → List D → M D
  | .dct kvs, [k, x] => match dKey k with
    | some q => M.ret ((valD kvs q).getD x)
    | none => M.stuck
  | .dct kvs, [k] => match dKey k with
    | some q => M.ret ((valD kvs q).getD .non)
    | none => M.stuck
  | _, _ => M.stuck
section
variable {X : Cx} {m : Am} {j : Nat} {a b e f o : Expr} {ea eb eo ef : EX} {pos apos cpos : Pos}
/-! ### k in d -/
noncomputable def dInD (neg : Bool) : D → D → M D
  | x, .dct kvs => match dKey x with
    | some q => M.ret (.bl (neg ^^ (valD kvs q).isSome))
    | none => M.stuck
  | x, y => dInS neg x y
noncomputable def rInD (neg : Bool) : R2 := fun x y H Q => ∃ a o, y = .ref a ∧ DGet H a x o ∧ Q (.bl (neg ^^ o.isSome)) H
/-! ### dict(..) -/
noncomputable def pairsD : List D → Option (List (Key × D))
  | [] => some []
  | .tup [k, v] :: r => match dKey k, pairsD r with
    | some q, some l => some ((q, v) :: l)
    | _, _ => none
  | _ => none
noncomputable def dDict1 : List D → M D
  | [.lst l] => match pairsD l with
    | some kvs => if decide (kvs.map (·.1)).Nodup then M.ret (.dct kvs) else M.stuck
    | none => M.stuck
  | [.dct l] => M.ret (.dct l)
  | _ => M.stuck
/-! ### d.get(k), d.get(k, x) -/
noncomputable def mGet1 (a b : EX) : EX := fun δ => (a δ).bnd fun x => (b δ).bnd fun y => dGet2 x [y]
noncomputable def mGet2 (a b c : EX) : EX := fun δ => (a δ).bnd fun x => (b δ).bnd fun y => (c δ).bnd fun z => dGet2 x [y, z]
theorem tX_step {β : Type} {R : Rl β D} {f : EX} {kk : D → M D} {Q : V → Hp → Prop} {σ : L2.St} {G H : Hp} {p : Pn} {δ : DS} (w : Wd m.S m.pen G H p) (sl : SlR m.S m.pen m.B G H σ δ) (h : Post m.S m.pen m.rE G H Q (fun c d H' => m.W c d σ H') (((f δ).bnd kk) p)) :
    tY m r0 R () (fun _ => f) σ H (fun b H1 => ∃ a G1 p1, Wd m.S m.pen G1 H1 p1 ∧ Ex m.pen G H G1 H1 ∧ R G1 b a ∧ Post m.S m.pen m.rE G1 H1 Q (fun c d H' => m.W c d σ H') (kk a p1)) := by
  refine ⟨G, p, δ, (), w, sl, trivial, ?_⟩
  dsimp only [M.bnd] at h ⊢
  rcases he : f δ p with _ | ⟨o, p1⟩
  · rw [he] at h; exact h
  · rw [he] at h
    cases o with
    | ok a => exact fun v G' H' x' w' r => ⟨a, G', p1, w', x', r, Post.ex x' h⟩
    | ex c fs => exact fun d G' H' x' w' r => h d G' H' x' w' r
/-! ### o.m(e), o a list -/
noncomputable def mLM (f : List D → D → M D) (eo ea : EX) : EX := fun δ => (eo δ).bnd fun x => match x with
  | .lst l => (ea δ).bnd fun y => f l y
  | _ => M.stuck
/-- l.index(x), texts -/
noncomputable def dIdx (l : List D) : D → M D
  | .str z => match strsOf l with
    | some xs => match xs.findIdx? (· == z) with
      | some n => M.ret (.int (n : Int))
      | none => M.stuck
    | none => M.stuck
  | _ => M.stuck
/-! ### a list that is being made, compared -/
noncomputable def mCmpM (neg : Bool) (i : Nat) (e : EX) : EX := fun δ => match δ[i]? with
  | some (some (.ml xs)) => (e δ).bnd fun y => dEq neg (.lst xs) y
  | _ => M.stuck
theorem cmpM_core {neg : Bool} {r : R2} {i : Nat} (hr : ∀ x y H Q, rEqM m neg x y H Q → r x y H Q) {σ : L2.St} {H : Hp} {Q : VK} (h : tE m (mCmpM neg i ea) σ H Q) : tOp r (tVar i) (tE m ea) σ H Q := by
  obtain ⟨G, p, δ, _, w, sl, _, h5⟩ := h
  dsimp only [mCmpM] at h5
  cases ei : δ[i]? with
  | none => rw [ei] at h5; exact h5.elim
  | some s => cases s with
    | none => rw [ei] at h5; exact h5.elim
    | some s => cases s with
      | ml xs =>
        rw [ei] at h5
        obtain ⟨l, vs, e1, e2, rr, e4, e5, e6⟩ := sl.ml i xs ei
        refine ⟨.ref l, e1, ?_⟩
        refine tX_step (R := m.rE) (f := ea) (kk := fun y => dEq neg (.lst xs) y) w sl h5 |>.imp fun y H2 ⟨dy, G2, p2, w2, x2, ry, q⟩ => hr _ _ _ _ ?_
        have ry : Rep m.S G2 m.pen y dy := ry
        have hl : H2 l = some (.lst vs) := x2.keep l _ e6 (by intro _ z; cases z) e2
        have gl : G2 l = none := x2.un l e4 (by rw [e2]; simp)
        have sb : Sub (upd G2 l (.lst vs)) H2 := fun b o hb => by
          by_cases z : b = l
          · rw [z, upd_same] at hb; rw [z]; cases hb; exact hl
          · rw [upd_ne z] at hb; exact w2.sub b o hb
        have rl : Rep m.S (upd G2 l (.lst vs)) m.pen (.ref l) (.lst xs) := .lst upd_same ((rr.mono x2.sub).mono (Sub.alloc gl))
        have e : dEq neg (.lst xs) dy = (match toPy (.lst xs), toPy dy with
          | some p, some q => if SeqAt.shaped p && SeqAt.shaped q then M.ret (.bl (neg ^^ PyData.eqv p q)) else M.stuck
          | _, _ => M.stuck) := by
          unfold dEq
          split
          · rename_i z1 z2; cases z1
          · rfl
        rw [e] at q
        cases t1 : toPy (.lst xs) with
        | none => rw [t1] at q; exact q.elim
        | some p1 =>
          cases t2 : toPy dy with
          | none => rw [t1, t2] at q; exact q.elim
          | some p2 =>
            rw [t1, t2] at q
            dsimp only at q
            split at q
            · rename_i hz
              simp only [Bool.and_eq_true] at hz
              exact ⟨_, _, _, p1, p2, sb, rl, ry.mono (Sub.alloc gl), t1, t2, hz.1, hz.2, fin_same w2 (.bl _) q⟩
            · exact q.elim
      | _ => rw [ei] at h5; exact h5.elim
theorem me_cmpM {neg : Bool} {op : CmpOp} {i : Nat} {x : Str} {px : Pos} (B : Bx X m j) (hop : (op = .Eq ∧ neg = false) ∨ (op = .NotEq ∧ neg = true)) (hN : ixB X.N i x = true) (hv : visB X.env.scope x = true) (he : PE X e (tE m ea)) (hd : (x == ("__debug__" : Str)) = false := by decide) (hcd : (x == ("__classdict__" : Str)) = false := by decide) (hm : behindInMarks op e = false := by rfl) :
    PE X (.Compare (.Name x px) [op] [e] pos) (tE m (mCmpM neg i ea)) := by
  have hu := B.hr.units
  rcases hop with ⟨rfl, rfl⟩ | ⟨rfl, rfl⟩
  · exact PE.imp (pe_cmpR (op_eqM B.hK B.hS hu) (pe_var (ixB_of hN) (visB_of hv) hd hcd) he hm) fun σ H Q h => cmpM_core (fun _ _ _ _ h => h) h
  · exact PE.imp (pe_cmpR (op_neM B.hK B.hS hu) (pe_var (ixB_of hN) (visB_of hv) hd hcd) he hm) fun σ H Q h => cmpM_core (fun _ _ _ _ h => h) h
end
end ME

/-! enumerate of a tuple. -/
namespace RE
open PySem PySem.Spec PyProof.Rows L2
section
variable {prog : Program} {w : World} {A : Around} {E : Value → Shared → Prop} {s : Shared}
end
/-- the tuple at a, each item in a new pair -/
noncomputable def IteT (K : PySem.W.Frag) (a : Addr) : It :=
  ⟨fun i H => ∃ (xs : List V) (x : V), SqT K H a xs ∧ xs[i]? = some x, fun i H v H' => ∃ T x, v = .ref T ∧ H T = none ∧ H' = upd H T (.tup [.int (i : Nat), x]) ∧ ∀ xs, SqT K H a xs → xs[i]? = some x, fun i H => ∃ xs : List V, SqT K H a xs ∧ xs.length ≤ i⟩
end RE
namespace ME
open PySem PySem.Spec PyProof.Rows L2
noncomputable def iEnumR (K : PySem.W.Frag) (ta : TA) : TI := fun σ H R => ta σ H fun vs H1 => ∃ a xs, vs = [.ref a] ∧ ((SqL K H1 a xs ∧ R (Ite K a) H1) ∨ (SqT K H1 a xs ∧ R (RE.IteT K a) H1))
noncomputable def iEnuX (e : AX) : DS → M (List D) := fun δ => (e δ).bnd fun d => match d with
  | [.lst l] => M.ret (enumD 0 l)
  | [.tup l] => M.ret (enumD 0 l)
  | _ => M.stuck
section
variable {X : Cx} {m : Am} {e e2 : Expr} {ra : AX} {p pos tpos : Pos} {elts : List Expr} {kk : Nat}
end
end ME

/-! return [y.pop(e) for .. in ..], y a list being made. -/
namespace ME
open PySem PySem.Spec PyProof.Rows L2
noncomputable def mixGo (i : Nat) (g : GX) (e : EX) (vs : List Nat) (δ : DS) : List D → List D → List D → Pn → Option (Fl × Pn)
  | [], _, acc, p => if szOk acc.length then some (.rt (.lst acc), p) else none
  | d :: r, ys, acc, p => match g d (wipeD (δ.set i (some (.ml ys))) vs) with
    | none => none
    | some δ1 => match e δ1 p with
      | some (.ok (.int k), p1) => match seqIndex? k ys.length with
        | some n => match ys[n]? with
          | some y => if decide (-(2 ^ 63) ≤ k) && decide (k < 2 ^ 63) && decide (acc.length < 16777216) then mixGo i g e vs δ r (ys.eraseIdx n) (acc ++ [y]) p1 else none
          | none => none
        | none => none
      | _ => none
noncomputable def sRetMix (i : Nat) (f : DS → M (List D)) (g : GX) (e : EX) (vs : List Nat) : SX := sBnd f fun ds δ p => match δ[i]? with
  | some (some (.ml ys)) => mixGo i g e vs δ ds ys [] p
  | _ => none
section
variable {S : Sg} {pen : Addr} {B G H : Hp} {σ : L2.St} {δ : DS} {i : Nat}
end
noncomputable def tPopE (i : Nat) (te : TE) : TE := fun σ H Q => ∃ a us, σ[i]? = some (some (.ref a)) ∧ H a = some (.lst us) ∧
  te σ H fun v H1 => ∃ k n y, v = .int k ∧ H1 a = some (.lst us) ∧ -(2 ^ 63) ≤ k ∧ k < 2 ^ 63 ∧ seqIndex? k us.length = some n ∧ us[n]? = some y ∧ Q y (upd H1 a (.lst (us.eraseIdx n)))
section
variable {X : Cx} {m : Am} {pos : Pos} {i : Nat} {y : Str}
end
end ME

/-! Dicts that are being made: {}, d[k] = v, d[k] op= v, d[k], d.get, k in d, the lock. -/
namespace ME
open PySem PySem.Spec PyProof.Rows L2
noncomputable def putD (kvs : List (Key × D)) (k : Key) (v : D) : List (Key × D) :=
  if (kvs.any fun kv => decide (kv.1 = k)) = true then kvs.map (fun kv => if kv.1 = k then (kv.1, v) else kv) else kvs ++ [(k, v)]
section
variable {S : Sg} {pen : Addr} {B G H : Hp} {σ : L2.St} {δ : DS} {i : Nat}
end
/-- x[k] = v -/
noncomputable def sPutD (i : Nat) (ek ev : EX) : SX := sBnd ev fun v => fun δ p => match δ[i]? with
  | some (some (.md kvs)) => sBnd ek (fun k δ p => match dKey k with
    | some q => if decide (kvs.length < 16777216) then some (.nx (δ.set i (some (.md (putD kvs q v)))), p) else none
    | none => none) δ p
  | _ => none
/-- x[k] op= v -/
noncomputable def sAugD (o : D → D → M D) (i : Nat) (ek ev : EX) : SX := fun δ p => match δ[i]? with
  | some (some (.md kvs)) => sBnd ek (fun k δ p => match dKey k with
    | some q => match valD kvs q with
      | some d => sBnd (fun δ => (ev δ).bnd fun y => o d y) (fun z δ p => if decide (kvs.length < 16777216) then some (.nx (δ.set i (some (.md (putD kvs q z)))), p) else none) δ p
      | none => none
    | none => none) δ p
  | _ => none
noncomputable def sFrzD (i : Nat) (s : SX) : SX := fun δ p => match δ[i]? with
  | some (some (.md kvs)) => s (δ.set i (some (.d (.dct kvs)))) p
  | _ => none
/-- x[k], x.get(k, y) -/
noncomputable def mIxDM (i : Nat) (ek : EX) : EX := fun δ p => match δ[i]? with
  | some (some (.md kvs)) => ((ek δ).bnd fun k => dIxK (.dct kvs) k) p
  | _ => none
noncomputable def mGetDM (i : Nat) (ek ev : EX) : EX := fun δ p => match δ[i]? with
  | some (some (.md kvs)) => ((ek δ).bnd fun k => (ev δ).bnd fun y => dGet2 (.dct kvs) [k, y]) p
  | _ => none
noncomputable def sNewD (i : Nat) : SX := fun δ p => some (.nx (δ.set i (some (.md []))), p)
section
variable {X : Cx} {m : Am} {j i : Nat} {pos : Pos} {x : Str}
end
end ME

/-! Locked dicts walked, compared, made by a comprehension. -/
namespace ME
open PySem PySem.Spec PyProof.Rows L2
noncomputable def keyD : Key → D
  | .inl i => .int i
  | .inr x => .str x
/-- for k in d -/
noncomputable def iKey (e : EX) : DS → M (List D) := fun δ => (e δ).bnd fun d => match d with
  | .dct kvs => M.ret (kvs.map fun kv => keyD kv.1)
  | _ => M.stuck
/-- for k, v in d.items() -/
noncomputable def iItm (e : EX) : DS → M (List D) := fun δ => (e δ).bnd fun d => match d with
  | .dct kvs => M.ret (kvs.map fun kv => .tup [keyD kv.1, kv.2])
  | _ => M.stuck
/-- for v in d.values() -/
noncomputable def iVal (e : EX) : DS → M (List D) := fun δ => (e δ).bnd fun d => match d with
  | .dct kvs => M.ret (kvs.map (·.2))
  | _ => M.stuck
section
variable {X : Cx} {m : Am} {e tg : Expr} {ea : EX} {apos cpos tpos : Pos} {elts : List Expr} {kk : Nat}
end
/-! ### {k: v for ..} -/
noncomputable def dcGo (g : GX) (t : TX) (ek ev : EX) (δ : DS) : List D → List (Key × D) → M D
  | [], acc => M.ret (.dct acc)
  | d :: r, acc => match g d δ with
    | none => M.stuck
    | some δ1 => (t δ1).calm.bnd fun b => if b = true then (ek δ1).calm.bnd fun k => (ev δ1).calm.bnd fun v => match dKey k with
        | some q => if decide (acc.length < 16777216) then dcGo g t ek ev δ r (putD acc q v) else M.stuck
        | none => M.stuck
      else dcGo g t ek ev δ r acc
noncomputable def mDc (f : DS → M (List D)) (g : GX) (t : TX) (ek ev : EX) (vs : List Nat) : EX := fun δ => (f δ).bnd fun ds => dcGo g t ek ev (wipeD δ vs) ds []
section
variable {X : Cx} {m : Am} {pos : Pos}
/-- d.get(k, y) -/
noncomputable def mGetD (eo ek ev : EX) : EX := fun δ => (eo δ).bnd fun x => match x with
  | .dct kvs => (ek δ).bnd fun k => (ev δ).bnd fun y => dGet2 (.dct kvs) [k, y]
  | _ => M.stuck
/-! ### == of two -/
noncomputable def eqK (a b : List (Key × D)) : Bool := a.all fun p => match valD b p.1 with
  | some y => eqF p.2 y
  | none => false
noncomputable def flatK (l : List (Key × D)) : Bool := l.all fun p => flatD p.2
noncomputable def dEqD (neg : Bool) : D → D → M D
  | .dct a, .dct b => if flatK a && flatK b then M.ret (.bl (neg ^^ (a.length == b.length && eqK a b))) else M.stuck
  | x, y => dEq neg x y
noncomputable def eqVK (ks ls : List (Key × V)) : Bool := ks.all fun p => match valV ls p.1 with
  | some y => eqV p.2 y
  | none => false
noncomputable def rEqD (neg : Bool) : R2 := fun x y H Q => ∃ a b oa ob ks ls, x = .ref a ∧ y = .ref b ∧ H a = some (.frz oa (.dK ks)) ∧ H b = some (.frz ob (.dK ls)) ∧ (∀ p ∈ ks, flatV p.2 = true) ∧ (∀ p ∈ ls, flatV p.2 = true) ∧ Q (.bl (neg ^^ (ks.length == ls.length && eqVK ks ls))) H
end
end ME

/-! What goes into slots: values, lists and dicts that are new; x = .., x, y = .., x, y, z = ..; d[k] += v, d[k] -= v. -/
namespace ME
open PySem PySem.Spec PyProof.Rows L2
noncomputable def rSl (m : Am) : Rl (Sum V HO) Sl := fun G z s => match z, s with
  | .inl v, .d x => Rep m.S G m.pen v x
  | .inr (.lst vs), .ml xs => Reps m.S G m.pen vs xs
  | .inr (.dK vs), .md xs => RepK m.S G m.pen vs xs
  | _, _ => False
noncomputable def Land (z : Sum V HO) (K : V → Hp → Prop) (H : Hp) : Prop := match z with
  | .inl v => K v H
  | .inr o => ∀ a, H a = none → K (.ref a) (upd H a o)
/-- an expression whose value goes into a slot -/
noncomputable def tSl (m : Am) (f : DS → M Sl) : TE := fun σ H Q => tY m r0 (rSl m) () (fun _ => f) σ H (fun z H1 => Land z Q H1)
noncomputable def slE (e : EX) : DS → M Sl := fun δ => (e δ).bnd fun d => M.ret (.d d)
noncomputable def slF (f : AX) : DS → M Sl := fun δ => (f δ).bnd fun ds => if szOk ds.length then M.ret (.ml ds) else M.stuck
noncomputable def slD0 : DS → M Sl := fun _ => M.ret (.md [])
noncomputable def slDp (e : EX) : DS → M Sl := fun δ => (e δ).bnd fun d => match d with
  | .lst l => match pairsD l with
    | some kvs => if decide (kvs.map (·.1)).Nodup then M.ret (.md kvs) else M.stuck
    | none => M.stuck
  | .dct l => M.ret (.md l)
  | _ => M.stuck
section
variable {X : Cx} {m : Am} {pos : Pos} {i j k : Nat} {x y z : Str}
end
noncomputable def sSetS (i : Nat) (f : DS → M Sl) : SX := sBnd f fun s δ p => some (.nx (δ.set i (some s)), p)
noncomputable def sP2S (i j : Nat) (f g : DS → M Sl) : SX := sBnd f fun s => sBnd g fun t δ p => some (.nx ((δ.set i (some s)).set j (some t)), p)
noncomputable def sP3S (i j k : Nat) (f g h : DS → M Sl) : SX := sBnd f fun s => sBnd g fun t => sBnd h fun u δ p => some (.nx (((δ.set i (some s)).set j (some t)).set k (some u)), p)
section
variable {X : Cx} {m : Am} {pos : Pos} {i j k : Nat} {x y z : Str} {a b c : Expr} {f g h' : DS → M Sl} {px py pz pt pos' : Pos} {kt k2 pt2 : _}
end
/-! ### d[k] += v, d[k] -= v -/
noncomputable def sAugI (f : Int → Int → Int) (i : Nat) (ek ev : EX) : SX := fun δ p => match δ[i]? with
  | some (some (.md kvs)) => sBnd ek (fun k δ p => match dKey k with
    | some q => match valD kvs q with
      | some (.int a) => sBnd ev (fun z δ p => match z with
        | .int b => if decide (kvs.length < 16777216) then some (.nx (δ.set i (some (.md (putD kvs q (.int (f a b)))))), p) else none
        | _ => none) δ p
      | _ => none
    | none => none) δ p
  | _ => none
section
variable {X : Cx} {m : Am} {j i : Nat} {pos : Pos} {x : Str}
end
end ME

/-! list(d). -/
namespace ME
open PySem PySem.Spec PyProof.Rows L2
noncomputable def dLstD : List D → M D
  | [.lst l] => M.ret (.lst l)
  | [.tup l] => M.ret (.lst l)
  | [.dct kvs] => M.ret (.lst (kvs.map fun kv => keyD kv.1))
  | _ => M.stuck
section
variable {X : Cx} {m : Am} {j i : Nat} {pos : Pos} {x : Str}
/-- list(x), x a dict that is being made -/
noncomputable def mKeysDM (i : Nat) : EX := fun δ p => match δ[i]? with
  | some (some (.md kvs)) => M.ret (.lst (kvs.map fun kv => keyD kv.1)) p
  | _ => none
end
end ME
namespace ME
open PySem PySem.Spec PyProof.Rows L2
/-- sorted(..) of texts, no two alike -/
noncomputable def dSrt : List D → M D
  | [.lst l] => match strsOf l with
    | some xs => if decide (xs.length < 64) && decide xs.Nodup then M.ret (.lst ((srtU xs).map D.str)) else M.stuck
    | none => M.stuck
  | _ => M.stuck
section
variable {X : Cx} {m : Am} {j : Nat}
end
end ME

/-! the truth of an object with its own __bool__. -/
namespace ME
open PySem PySem.Spec PyProof.Rows L2
section
variable {X : Cx} {m : Am} {j k : Nat}
noncomputable def mTruO (tbl : OTab) (e : EX) : TX := fun δ => (e δ).bnd fun d => (dOwn1 tbl d).bnd fun r => M.opt (dB r)
end
end ME

/-! x in o, o of a class with its own __contains__; x < y and the like by own defs. -/
namespace ME
open PySem PySem.Spec PyProof.Rows L2
/-- x in y, y of an own class -/
noncomputable def dHasO (neg : Bool) (tbl : OTab) (o : D → D → M D) : D → D → M D
  | x, .obj c fs => match tbl.lookup c with
    | some mf => ((mf [.obj c fs, x]).calm).bnd fun d => match d with
      | .bl b => M.ret (.bl (neg ^^ b))
      | _ => M.stuck
    | none => M.stuck
  | x, y => o x y
section
variable {X : Cx} {m : Am} {j k : Nat}
noncomputable def rHas (m : Am) (neg : Bool) (tbl : OTab) : R2 := fun x y H Q => ∃ c mf a dx fs G p ds dx0, tbl.lookup c = some mf ∧ y = .ref a ∧ H a = some (.ins (m.S.ca c) dx fs) ∧ Wd m.S m.pen G H p ∧ Rep m.S G m.pen y (.obj c ds) ∧ Rep m.S G m.pen x dx0 ∧
  Post m.S m.pen (fun G v d => Rep m.S G m.pen v d) G H (fun v H1 => ∃ b, v = .bl b ∧ Q (.bl (neg ^^ b)) H1) (fun _ _ _ => False) (mf [.obj c ds, dx0] p)
/-! x < y and the like -/
theorem c_ltO {tbl : OTab} {cs os : List Nat} (B : Bx X m j) (T : ∀ c mf, tbl.lookup c = some mf → OwnT X.prog X.w X.K X.mg X.base m.S k c "__lt__" 2 mf) (hk : Nat.ble k j = true) (hcs : cs = tbl.map (·.1)) (nf : nfB m.S.K m.S cs os = true) : CmpT X m .Lt (dOwnC tbl os (dCmpI fun i j => decide (i < j))) := by
  obtain ⟨r, h1, h2⟩ := (c_lt (X := X) (m := m)).ex
  exact ⟨_, OpR.or h1 (op_ownT (op := .Lt) (fun _ _ => rfl) B T hk), r_ownC B.hK h2 hcs nf⟩
theorem c_leO {tbl : OTab} {cs os : List Nat} (B : Bx X m j) (T : ∀ c mf, tbl.lookup c = some mf → OwnT X.prog X.w X.K X.mg X.base m.S k c "__le__" 2 mf) (hk : Nat.ble k j = true) (hcs : cs = tbl.map (·.1)) (nf : nfB m.S.K m.S cs os = true) : CmpT X m .LtE (dOwnC tbl os (dCmpI fun i j => decide (i ≤ j))) := by
  obtain ⟨r, h1, h2⟩ := (c_le (X := X) (m := m)).ex
  exact ⟨_, OpR.or h1 (op_ownT (op := .LtE) (fun _ _ => rfl) B T hk), r_ownC B.hK h2 hcs nf⟩
theorem c_gtO {tbl : OTab} {cs os : List Nat} (B : Bx X m j) (T : ∀ c mf, tbl.lookup c = some mf → OwnT X.prog X.w X.K X.mg X.base m.S k c "__gt__" 2 mf) (hk : Nat.ble k j = true) (hcs : cs = tbl.map (·.1)) (nf : nfB m.S.K m.S cs os = true) : CmpT X m .Gt (dOwnC tbl os (dCmpI fun i j => decide (j < i))) := by
  obtain ⟨r, h1, h2⟩ := (c_gt (X := X) (m := m)).ex
  exact ⟨_, OpR.or h1 (op_ownT (op := .Gt) (fun _ _ => rfl) B T hk), r_ownC B.hK h2 hcs nf⟩
theorem c_geO {tbl : OTab} {cs os : List Nat} (B : Bx X m j) (T : ∀ c mf, tbl.lookup c = some mf → OwnT X.prog X.w X.K X.mg X.base m.S k c "__ge__" 2 mf) (hk : Nat.ble k j = true) (hcs : cs = tbl.map (·.1)) (nf : nfB m.S.K m.S cs os = true) : CmpT X m .GtE (dOwnC tbl os (dCmpI fun i j => decide (j ≤ i))) := by
  obtain ⟨r, h1, h2⟩ := (c_ge (X := X) (m := m)).ex
  exact ⟨_, OpR.or h1 (op_ownT (op := .GtE) (fun _ _ => rfl) B T hk), r_ownC B.hK h2 hcs nf⟩
end
end ME

/-! for x in o, o an instance whose __iter__ says: return iter(self.f), f a dict; a walk over any of these, dicts too. -/
namespace ME
open PySem PySem.Spec PyProof.Rows L2
noncomputable def itObjD (d : Addr) (n ep : Nat) : Obj := { cls := .type "dict_keyiterator", data := .fields #[.ref d, .int 0 0, .int n 0, .int ep 0] }
noncomputable def ItD (d : Addr) (n ep : Nat) (it : Addr) : HO := .ext fun h => h.get? it = some (itObjD d n ep)
/-- iter(d), d a locked dict -/
noncomputable def rIterD (n : Nat) : List V → Hp → VK → Prop := fun xs H Q => ∃ (d : Addr) (o : Obj) (kvs : List (Key × V)), xs = [.ref d] ∧ H d = some (.frz o (.dK kvs)) ∧ ∀ it es ep, o.data = .dict es ep → H it = none → n ≤ it → Q (.ref it) (upd H it (ItD d kvs.length ep it))
/-- such an __iter__ of the class number c, the dict its field number kf -/
noncomputable def FnID (P : Program) (w : World) (K : PySem.W.Frag) (mg : Str → Option Value) (base : Heap) (S : Sg) (k : Nat) (f : Addr) (c kf : Nat) : Prop :=
  ∀ (A : Around) (outer : List Env) (s : Shared) (H : Hp) (a dx t : Addr) (ob : Obj) (us : List V) (ts : List (Key × V)), Room k A → Env0 P w K mg base A outer s H → H a = some (.ins (S.ca c) dx ((S.nm c).zip us)) → us.length = (S.nm c).length → us[kf]? = some (.ref t) → H t = some (.frz ob (.dK ts)) →
    codeAny (model P w) A (.call (.ref f) ⟨[.ref a], []⟩) (CR (L2.CX P w) outer P w H s (fun v H' => ∃ it es ep, v = .ref it ∧ s.heap.objs.size ≤ it ∧ H it = none ∧ ob.data = .dict es ep ∧ H' = upd H it (ItD t ts.length ep it)) (fun _ _ _ => False)) s
section
variable {P : Program} {w : World} {K : PySem.W.Frag} {mg : Str → Option Value} {base : Heap} {S : Sg} {x qual fld : Str} {st : Stmt} {f : Addr} {fd : FuncData} {c kf : Nat} {p1 p2 p3 p4 p5 : Pos}
end
noncomputable def IterD (P : Program) (w : World) (K : PySem.W.Frag) (mg : Str → Option Value) (base : Heap) (S : Sg) (k c kf : Nat) : Prop :=
  ∃ fi, FnID P w K mg base S k fi c kf ∧ PySem.W.findIn K (.ref (S.ca c)) "__iter__" = some (some (.ref fi)) ∧ PySem.W.isFn K (.ref fi) = true
/-- a walk over any of these -/
noncomputable def iAnyD (tbl tbd : List (Nat × Nat)) (e : EX) : DS → M (List D) := fun δ => (e δ).bnd fun d => match d with
  | .lst l => M.ret l
  | .tup l => M.ret l
  | .dct kvs => M.ret (kvs.map fun kv => keyD kv.1)
  | .obj c fs => match tbl.lookup c with
    | some kf => match fs[kf]? with
      | some (.tup l) => M.ret l
      | _ => M.stuck
    | none => match tbd.lookup c with
      | some kf => match fs[kf]? with
        | some (.dct kvs) => M.ret (kvs.map fun kv => keyD kv.1)
        | _ => M.stuck
      | none => M.stuck
  | _ => M.stuck
section
variable {X : Cx} {m : Am} {j k : Nat} {tg e : Expr} {ea : EX}
end
end ME

/-! try: with any body; f'{x}' of one part. -/
namespace ME
open PySem PySem.Spec PyProof.Rows L2
section
variable {X : Cx} {m : Am} {j k : Nat}
theorem me_fs1 {e : Expr} {ea : EX} {pos : Pos} (he : PE X e (tE m ea)) : PE X (.JoinedStr [e] pos) (tE m ea) := pe_joined1 he
/-- what is never come to -/
noncomputable def mStk : EX := fun _ => M.stuck
theorem me_stk {e : Expr} : PE X e (tE m mStk) := ⟨fun pins s σ H Q I h => by obtain ⟨G, p, δ, _, _, _, _, z⟩ := h; exact z.elim⟩
end
end ME

/-! [*o, ..], o an instance whose __iter__ says: return iter(self.f), f a dict, and that has an own __len__. -/
namespace ME
open PySem PySem.Spec PyProof.Rows L2
section
variable {X : Cx} {m : Am} {j k : Nat}
noncomputable def mStarD (tblD : List (Nat × Nat)) (tbl : OTab) (ea : EX) (ra : AX) : AX := fun δ => (ea δ).bnd fun d => match d with
  | .tup l => (ra δ).bnd fun ys => M.ret (l ++ ys)
  | .lst l => (ra δ).bnd fun ys => M.ret (l ++ ys)
  | .obj c fs => match tblD.lookup c, tbl.lookup c with
    | some kf, some mf => match fs[kf]? with
      | some (.dct kvs) => ((mf [.obj c fs]).calm).bnd fun d => match d with
        | .int n => if decide (0 ≤ n) && decide (n ≤ 1000) && decide (kvs.length ≤ 1000) then (ra δ).bnd fun ys => M.ret ((kvs.map fun kv => keyD kv.1) ++ ys) else M.stuck
        | _ => M.stuck
      | _ => M.stuck
    | _, _ => M.stuck
  | _ => M.stuck
end
end ME

/-! == and != of lists and tuples that hold own objects, where they are equal. -/
namespace GQ
open PySem PySem.SeqAt
open AutoSeq1 (wpAny_loadPart')
open MeetsSeq MeetsSeq2 MeetsSeq3 SeqRoads2
section
variable {prog : Program} {w : World} {A : Around} {R : Result → Shared → Prop}
theorem ne_loopX (l b : Addr) (N : Nat) (I : Nat → Shared → Prop) (hl : ListI prog w A (fun e s' => R (.error e) s') l b N I) (fin : ∀ s, I N s → R (.ok (.ret (.bool false))) s) (k : Nat) :
    ∀ i : Nat, N - i = k → i ≤ N → ∀ s, I i s → wpAny (model prog w) A.in1 (Builtin.«list.__eq__.loop» ⟨[.ref l, .ref b, rawInt i, rawInt 3], []⟩) (FinOf prog w A R) (fun e s' => R (.error e) s') s := by
  induction k with
  | zero =>
    intro i hk hi s h
    obtain ⟨xs, ys, n, n2, hl1, hb1, hs1, hs2, _⟩ := hl _ _ h
    have hi' : i = N := by omega
    have hR := fin s (hi' ▸ h)
    obtain ⟨hp, g, d, tk, os⟩ := s
    wp_walk using wpAny_loadPart' hl1, wpAny_loadPart' hb1
    have j1 : xs[((i : Nat) : Int).toNat]? = none := by simp; omega
    have j2 : ys[((i : Nat) : Int).toNat]? = none := by simp; omega
    rw [j1, j2]
    wp_walk using wpAny_loadPart' hl1, wpAny_loadPart' hb1
    show R (.ok (.ret (.bool (xs.size != ys.size)))) _
    rw [hs1, hs2]
    simpa using hR
  | succ k ih =>
    intro i hk hi s h
    obtain ⟨xs, ys, n, n2, hl1, hb1, hs1, hs2, turn⟩ := hl _ _ h
    have k1 : i < xs.size := by omega
    have k2 : i < ys.size := by omega
    have ht := turn k1 k2
    obtain ⟨hp, g, d, tk, os⟩ := s
    wp_walk using wpAny_loadPart' hl1, wpAny_loadPart' hb1
    have j1 : xs[((i : Nat) : Int).toNat]? = some xs[i] := by simp [k1]
    have j2 : ys[((i : Nat) : Int).toNat]? = some ys[i] := by simp [k2]
    have hc : ((i : Int) + 1) = ((i + 1 : Nat) : Int) := by omega
    rw [j1, j2]
    refine wpAny_bind (wpAny_mono ht (fun r s2 h2 => ?_) fun _ _ x => x)
    obtain ⟨hr, h2⟩ := h2
    subst hr
    have hrec := ih (i + 1) (by omega) (by omega) s2 h2
    obtain ⟨hp2, g2, d2, tk2, os2⟩ := s2
    wp_walk
    rw [hc]
    exact ⟨plainId_quiet plain_eq_loop _, codeAny_builtin entry_eq_loop (by
      rw [Around.under_plainId plain_eq_loop _]
      exact hrec)⟩
theorem list_neX (l b : Addr) (N : Nat) (I : Nat → Shared → Prop) (hl : ListI prog w A (fun e s' => R (.error e) s') l b N I) (fin : ∀ s, I N s → R (.ok (.ret (.bool false))) s) {s : Shared} (h : I 0 s) :
    wpAny (model prog w) A.in1 (Builtin.«list.__ne__» ⟨[.ref l, .ref b], []⟩) (FinOf prog w A R) (fun e s' => R (.error e) s') s := by
  obtain ⟨xs, ys, n, n2, hl1, hb1, hs1, hs2, _⟩ := hl _ _ h
  have hrec := ne_loopX (A := A) (R := R) l b N I hl fin _ 0 rfl (Nat.zero_le _) s h
  obtain ⟨hp, g, d, tk, os⟩ := s
  have f3 := AutoSeq1.sub_list_list
  have hne : ¬ (xs.size != ys.size) = true := by simp [hs1, hs2]
  wp_walk using wpAny_loadPart' hl1, wpAny_loadPart' hb1
  exact ⟨plainId_quiet plain_eq_loop _, codeAny_builtin entry_eq_loop (by
    rw [Around.under_plainId plain_eq_loop _]
    exact hrec)⟩
theorem tuple_neX (l b : Addr) (items items2 : Array Value) (n n2 : Nat) (dd dd2 : Option Addr) (sl sl2 : Array (Option Value)) (hsz : items.size = items2.size) (I : Nat → Shared → Prop)
    (turn : ∀ i (h1 : i < items.size) (h2 : i < items2.size) s, I i s → wpAny (model prog w) A.in1 (eqBool items[i] items2[i]) (fun r s' => r = true ∧ I (i + 1) s') (fun e s' => R (.error e) s') s)
    (fin : ∀ s, I items.size s → R (.ok (.ret (.bool false))) s) {s : Shared} (hl1 : s.heap.get? l = some { cls := .type "tuple", dict := dd, data := .seq items n, slots := sl }) (hb1 : s.heap.get? b = some { cls := .type "tuple", dict := dd2, data := .seq items2 n2, slots := sl2 }) (h : I 0 s) :
    wpAny (model prog w) A.in1 (Builtin.«tuple.__ne__» ⟨[.ref l, .ref b], []⟩) (FinOf prog w A R) (fun e s' => R (.error e) s') s := by
  have f2 := AutoSeq1.sub_tuple_tuple
  have hZ : (items.toList.zip items2.toList).length = items.size := by simp [hsz]
  have h0 := h
  obtain ⟨hp, g, d, tk, os⟩ := s
  wp_walk using wpAny_loadPart' hl1, wpAny_loadPart' hb1, wpAny_forIn_list _ (fun rest b s' => b.1 = none ∧ ∃ i, rest = (items.toList.zip items2.toList).drop i ∧ i ≤ items.size ∧ I i s') _
  case turn =>
    rintro ⟨y, x⟩ rest b s' ⟨hb', i, hz, hi, hI⟩
    have hlt : i < (items.toList.zip items2.toList).length := by
      rcases Nat.lt_or_ge i (items.toList.zip items2.toList).length with h' | h'
      · exact h'
      · rw [List.drop_of_length_le h'] at hz; cases hz
    have h1 : i < items.size := hZ ▸ hlt
    have h2 : i < items2.size := hsz ▸ h1
    rw [List.drop_eq_getElem_cons hlt] at hz
    injection hz with hyx hrest
    have hy : y = items[i] := by have := congrArg Prod.fst hyx; simpa using this
    have hx : x = items2[i] := by have := congrArg Prod.snd hyx; simpa using this
    subst hy hx
    refine wpAny_bind (wpAny_mono (turn i h1 h2 s' hI) (fun r s2 q2 => ?_) fun _ _ x => x)
    obtain ⟨hr, q2⟩ := q2
    subst hr
    wp_walk
    exact ⟨rfl, i + 1, hrest, h1, q2⟩
  case fin =>
    rintro ⟨b1, b2⟩ s' ⟨hb', i, hz, hi, hI⟩
    simp only at hb'
    subst hb'
    have hge : items.size ≤ i := by
      rcases Nat.lt_or_ge i (items.toList.zip items2.toList).length with h' | h'
      · rw [List.drop_eq_getElem_cons h'] at hz; cases hz
      · exact hZ ▸ h'
    have hi' : i = items.size := by omega
    have hR : R (.ok (.ret (.bool false))) s' := fin s' (hi' ▸ hI)
    wp_walk
    simpa [Builtin.Tuple.tupleCompareSizes, hsz] using hR
  case h =>
    exact ⟨rfl, 0, rfl, Nat.zero_le _, h0⟩
end
section
variable {prog : Program} {w : World} {A : Around} {E : Value → Shared → Prop} {s : Shared}
theorem rc_listN {l b : Addr} {N : Nat} {Q : Value → Shared → Prop} (hu : A.units < cLine) (I : Nat → Shared → Prop) (hl : ListI prog w A E l b N I)
    (fin : ∀ s, I N s → Q (.bool false) s) (h : I 0 s) : wpAny (model prog w) A (richCompare .NotEq (.ref l) (.ref b)) Q E s := by
  obtain ⟨xs, ys, n, n2, hl1, hb1, _, _, _⟩ := hl _ _ h
  refine wpAny_richCompare_same_room (op := .NotEq) ⟨_, hl1, rfl⟩ ⟨_, hb1, rfl⟩ F.slot_list_ne (call_here F.slot_list_ne ⟨_, hl1, rfl⟩ F.entry_list_ne (F.args_list_ne_2 _ _) ?_) hu
  exact list_neX (R := wants (fun v s' => v ≠ .notImplemented ∧ Q v s') E) l b N I hl (fun s' q => ⟨(fun x => nomatch x), fin s' q⟩) h
theorem rc_tupN {l b : Addr} {items items2 : Array Value} {Q : Value → Shared → Prop} (hsz : items.size = items2.size) (hu : A.units < cLine) (I : Nat → Shared → Prop)
    (hl : s.heap.IsTuple l items) (hb : s.heap.IsTuple b items2)
    (turn : ∀ i (h1 : i < items.size) (h2 : i < items2.size) s, I i s → wpAny (model prog w) A.in1 (eqBool items[i] items2[i]) (fun r s' => r = true ∧ I (i + 1) s') E s)
    (fin : ∀ s, I items.size s → Q (.bool false) s) (h : I 0 s) : wpAny (model prog w) A (richCompare .NotEq (.ref l) (.ref b)) Q E s := by
  obtain ⟨⟨cls, dd, data, sl⟩, ho, hc, n, hd⟩ := id hl
  obtain ⟨⟨cls2, dd2, data2, sl2⟩, ho2, hc2, n2, hd2⟩ := id hb
  simp only at hc hd hc2 hd2
  subst hc hd hc2 hd2
  refine wpAny_richCompare_same_room (op := .NotEq) ⟨_, ho, rfl⟩ ⟨_, ho2, rfl⟩ F.slot_tuple_ne (call_here F.slot_tuple_ne ⟨_, ho, rfl⟩ F.entry_tuple_ne (F.args_tuple_ne_2 _ _) ?_) hu
  exact tuple_neX (R := wants (fun v s' => v ≠ .notImplemented ∧ Q v s') E) l b items items2 n n2 dd dd2 sl sl2 hsz I turn (fun s' q => ⟨(fun x => nomatch x), fin s' q⟩) ho ho2 h
end
end GQ
namespace ME
open PySem PySem.Spec PyProof.Rows L2
noncomputable def pnB (p q : Pn) : Bool := decide (p.cells = q.cells) && (decide (p.no = q.no) && decide (p.rest = q.rest))
theorem pnB_eq {p q : Pn} (h : pnB p q = true) : p = q := by
  unfold pnB at h
  simp only [Bool.and_eq_true, decide_eq_true_eq] at h
  exact pn_ext ⟨h.1, h.2.1, h.2.2⟩
/-- surely equal, to the depth n; own objects by their own == -/
noncomputable def eqDD (tbl : OTab) (p : Pn) : Nat → D → D → Bool
  | 0, x, y => flatD x && (flatD y && eqF x y)
  | n + 1, x, y => match x, y with
    | .lst l, .lst r => l.length == r.length && (l.zip r).all fun q => eqDD tbl p n q.1 q.2
    | .tup l, .tup r => l.length == r.length && (l.zip r).all fun q => eqDD tbl p n q.1 q.2
    | .obj c fs, .obj c' gs => decide (c' = c) && match tbl.lookup c with
      | some mf => match mf [.obj c fs, .obj c' gs] p with
        | some (.ok (.bl true), p1) => pnB p1 p
        | _ => false
      | none => false
    | x, y => flatD x && (flatD y && eqF x y)
section
variable {X : Cx} {m : Am} {j k : Nat} {tbl : OTab}
theorem eqDD_flat {A : Around} {pins : List (Addr × Obj)} {s : Shared} {σ : L2.St} {G H : Hp} {p : Pn} {x y : V} {u v : Value} {dx dy : D} (I : Inv X pins σ H s) (w : Wd m.S m.pen G H p) (r1 : Rep m.S G m.pen x dx) (r2 : Rep m.S G m.pen y dy) (rx : RelV x u) (ry : RelV y v) (h : (flatD dx && (flatD dy && eqF dx dy)) = true) :
    wpAny (model X.prog X.w) A (eqBool u v) (fun r s' => r = true ∧ ∃ G' H', Inv X pins σ H' s' ∧ Wd m.S m.pen G' H' p ∧ Ex m.pen G H G' H') X.xe s := by
  simp only [Bool.and_eq_true] at h
  have q := eqAt_V (A := A) (s := s) rx ry (r1.flat h.1) (r2.flat h.2.1)
  rw [r1.eqF r2 h.1 h.2.1, h.2.2] at q
  exact q X.prog X.w X.xe _ ⟨rfl, G, H, I, w, Ex.refl⟩
theorem eqB_same {A : Around} {E : Value → Shared → Prop} {s : Shared} {a : Addr} {Q : Bool → Shared → Prop} (h : Q true s) : wpAny (model X.prog X.w) A (eqBool (.ref a) (.ref a)) Q E s := by
  unfold eqBool
  refine wpAny_holding ?_
  exact wpAny_ite_split (fun _ => wpAny_bind (wpAny_rule (wpAny_pure h))) (fun hn => absurd (by simp) hn)
theorem zip_at {α β : Type} {l : List α} {r : List β} {f : α × β → Bool} (h : (l.zip r).all f = true) {i : Nat} {a : α} {b : β} (ha : l[i]? = some a) (hb : r[i]? = some b) : f (a, b) = true := by
  refine List.all_eq_true.mp h _ ?_
  refine List.mem_of_getElem? (i := i) ?_
  rw [List.getElem?_zip_eq_some]
  exact ⟨ha, hb⟩
/-- what is said of two equal things: by == inside a built-in, and by the rich comparisons -/
structure DQ (X : Cx) (m : Am) (A : Around) (pins : List (Addr × Obj)) (s : Shared) (σ : L2.St) (G H : Hp) (p : Pn) (u v : Value) : Prop where
  eb : wpAny (model X.prog X.w) A (eqBool u v) (fun r s' => r = true ∧ ∃ G' H', Inv X pins σ H' s' ∧ Wd m.S m.pen G' H' p ∧ Ex m.pen G H G' H') X.xe s
theorem seq_rc {A : Around} {pins : List (Addr × Obj)} {s : Shared} {σ : L2.St} {G H : Hp} {p : Pn} {a b : Addr} {vs us : List V} {l r : List D} {neg : Bool} (hu : A.units < cLine) (B : Bx X m j) (I : Inv X pins σ H s) (w : Wd m.S m.pen G H p)
    (ha : (G a = some (.lst vs) ∧ G b = some (.lst us)) ∨ (SqT m.S.K G a vs ∧ SqT m.S.K G b us)) (rra : Reps m.S G m.pen vs l) (rrb : Reps m.S G m.pen us r) (hl : l.length = r.length)
    (turn : ∀ (i : Nat) (u v : Value) (x y : V) (dx dy : D) (s' : Shared) (G' H' : Hp), l[i]? = some dx → r[i]? = some dy → Inv X pins σ H' s' → Wd m.S m.pen G' H' p → Ex m.pen G H G' H' → Rep m.S G' m.pen x dx → Rep m.S G' m.pen y dy → RelV x u → RelV y v →
      wpAny (model X.prog X.w) A.in1 (eqBool u v) (fun r s2 => r = true ∧ ∃ G2 H2, Inv X pins σ H2 s2 ∧ Wd m.S m.pen G2 H2 p ∧ Ex m.pen G' H' G2 H2) X.xe s') :
    wpAny (model X.prog X.w) A (richCompare (if neg then .NotEq else .Eq) (.ref a) (.ref b)) (fun z s' => z = .bool (!neg) ∧ ∃ G' H', Inv X pins σ H' s' ∧ Wd m.S m.pen G' H' p ∧ Ex m.pen G H G' H') X.xe s := by
  have l1 := rra.length
  have l2 := rrb.length
  let J : Shared → Prop := fun s' => ∃ G' H', Inv X pins σ H' s' ∧ Wd m.S m.pen G' H' p ∧ Ex m.pen G H G' H'
  have J0 : J s := ⟨G, H, I, w, Ex.refl⟩
  have go : ∀ (its its2 : List Value) (i : Nat) (s' : Shared) (G' H' : Hp), Inv X pins σ H' s' → Wd m.S m.pen G' H' p → Ex m.pen G H G' H' → Vals vs its → Vals us its2 → ∀ (h1 : i < its.toArray.size) (h2 : i < its2.toArray.size),
      wpAny (model X.prog X.w) A.in1 (eqBool its.toArray[i] its2.toArray[i]) (fun r s2 => r = true ∧ J s2) X.xe s' := by
    intro its its2 i s' G' H' I' w' x' q1 q2 h1 h2
    have e1 : its[i]? = some its.toArray[i] := by
      have h1' : i < its.length := by simpa using h1
      rw [List.getElem?_eq_getElem h1'] <;> simp
    have e2 : its2[i]? = some its2.toArray[i] := by
      have h2' : i < its2.length := by simpa using h2
      rw [List.getElem?_eq_getElem h2'] <;> simp
    have k1 : i < l.length := by rw [← l1, q1.length]; simpa using h1
    have k2 : i < r.length := by rw [← hl]; exact k1
    obtain ⟨x, f1, g1⟩ := rra.get (List.getElem?_eq_getElem k1)
    obtain ⟨y, f2, g2⟩ := rrb.get (List.getElem?_eq_getElem k2)
    obtain ⟨u, c1, d1⟩ := q1.get f1
    obtain ⟨v, c2, d2⟩ := q2.get f2
    have : its.toArray[i] = u := Option.some.inj (e1.symm.trans c1)
    rw [this]
    have : its2.toArray[i] = v := Option.some.inj (e2.symm.trans c2)
    rw [this]
    refine wpAny_mono (turn i u v x y _ _ s' G' H' (List.getElem?_eq_getElem k1) (List.getElem?_eq_getElem k2) I' w' x' (g1.mono x'.sub) (g2.mono x'.sub) d1 d2) (fun z s2 hz => ?_) fun _ _ z => z
    obtain ⟨h0, G2, H2, I2, w2, x2⟩ := hz
    exact ⟨h0, G2, H2, I2, w2, x'.trans x2⟩
  rcases ha with ⟨ha, hb⟩ | ⟨ha, hb⟩
  · have hL : GQ.ListI X.prog X.w A X.xe a b l.length (fun _ s' => J s') := by
      intro i s' q
      obtain ⟨G', H', I', w', x'⟩ := q
      obtain ⟨z, its, k, r1, e⟩ := I'.hok a _ (w'.sub _ _ (x'.sub _ _ ha))
      obtain ⟨z2, its2, k2, r2, e2⟩ := I'.hok b _ (w'.sub _ _ (x'.sub _ _ hb))
      exact ⟨its.toArray, its2.toArray, k, k2, e, e2, by rw [List.size_toArray, ← r1.length, l1], by rw [List.size_toArray, ← r2.length, l2, hl], fun h1 h2 => go its its2 i s' G' H' I' w' x' r1 r2 h1 h2⟩
    cases neg with
    | false => exact GQ.rc_listG hu _ hL (fun s' q => ⟨rfl, q⟩) J0
    | true => exact GQ.rc_listN hu _ hL (fun s' q => ⟨rfl, q⟩) J0
  · have ha' := w.sub.sqt ha
    have hb' := w.sub.sqt hb
    rw [← B.hK] at ha' hb'
    obtain ⟨its, q1, pl1, hz1⟩ := I.tuple ha'
    obtain ⟨its2, q2, pl2, hz2⟩ := I.tuple hb'
    have hsz : its.toArray.size = its2.toArray.size := by rw [List.size_toArray, List.size_toArray, ← q1.length, ← q2.length, l1, l2, hl]
    cases neg with
    | false => exact GQ.rc_tupG hsz hu (fun _ s' => J s') pl1 pl2 (fun i h1 h2 s' q => by obtain ⟨G', H', I', w', x'⟩ := q; exact go its its2 i s' G' H' I' w' x' q1 q2 h1 h2) (fun s' q => ⟨rfl, q⟩) J0
    | true => exact GQ.rc_tupN hsz hu (fun _ s' => J s') pl1 pl2 (fun i h1 h2 s' q => by obtain ⟨G', H', I', w', x'⟩ := q; exact go its its2 i s' G' H' I' w' x' q1 q2 h1 h2) (fun s' q => ⟨rfl, q⟩) J0
theorem eqDD_item (B : Bx X m j) (T : ∀ c mf, tbl.lookup c = some mf → OwnT X.prog X.w X.K X.mg X.base m.S k c "__eq__" 2 mf) (hnf : ∀ c mf, tbl.lookup c = some mf → PySem.W.notFirst m.S.K (m.S.ca c) (.ref (m.S.ca c)) = true) {pins : List (Addr × Obj)} {p : Pn} :
    ∀ (n : Nat) {A : Around} {s : Shared} {σ : L2.St} {G H : Hp} {x y : V} {u v : Value} {dx dy : D} (_hr : Room (k + n) A) (_hA : A.guards = some []) (_hfr : A.frames = X.A.frames) (_I : Inv X pins σ H s) (_w : Wd m.S m.pen G H p) (_r1 : Rep m.S G m.pen x dx) (_r2 : Rep m.S G m.pen y dy) (_rx : RelV x u) (_ry : RelV y v) (_h : eqDD tbl p n dx dy = true),
    wpAny (model X.prog X.w) A (eqBool u v) (fun r s' => r = true ∧ ∃ G' H', Inv X pins σ H' s' ∧ Wd m.S m.pen G' H' p ∧ Ex m.pen G H G' H') X.xe s := by
  intro n
  induction n with
  | zero =>
    intro A s σ H G x y u v dx dy hr hA hfr I w r1 r2 rx ry h
    exact eqDD_flat I w r1 r2 rx ry h
  | succ n ih =>
    intro A s σ G H x y u v dx dy hr hA hfr I w r1 r2 rx ry h
    have flat : (flatD dx && (flatD dy && eqF dx dy)) = true → wpAny (model X.prog X.w) A (eqBool u v) (fun r s' => r = true ∧ ∃ G' H', Inv X pins σ H' s' ∧ Wd m.S m.pen G' H' p ∧ Ex m.pen G H G' H') X.xe s := fun hf => eqDD_flat I w r1 r2 rx ry hf
    cases id r1 with
    | @lst a vs l ha rra =>
      cases id r2 with
      | @lst b us r hb rrb =>
        cases (show u = Value.ref a from rx)
        cases (show v = Value.ref b from ry)
        by_cases hab : a = b
        · subst hab
          exact eqB_same ⟨rfl, G, H, I, w, Ex.refl⟩
        · simp only [eqDD, Bool.and_eq_true, beq_iff_eq] at h
          refine PySem.MeDec.eqB_of (fun z => hab (by injection z)) (wpAny_mono (seq_rc (neg := false) hr.units0 B I w (.inl ⟨ha, hb⟩) rra rrb h.1 fun i u v x y dx dy s' G' H' e1 e2 I' w' x' g1 g2 d1 d2 => ih (A := A.in1) hr.in1 hA hfr I' w' g1 g2 d1 d2 (zip_at h.2 e1 e2)) (fun z s' q => ⟨true, q.1, rfl, q.2⟩) fun _ _ z => z)
      | _ => exact flat h
    | @tup a vs l ha rra =>
      cases id r2 with
      | @tup b us r hb rrb =>
        cases (show u = Value.ref a from rx)
        cases (show v = Value.ref b from ry)
        by_cases hab : a = b
        · subst hab
          exact eqB_same ⟨rfl, G, H, I, w, Ex.refl⟩
        · simp only [eqDD, Bool.and_eq_true, beq_iff_eq] at h
          refine PySem.MeDec.eqB_of (fun z => hab (by injection z)) (wpAny_mono (seq_rc (neg := false) hr.units0 B I w (.inr ⟨ha, hb⟩) rra rrb h.1 fun i u v x y dx dy s' G' H' e1 e2 I' w' x' g1 g2 d1 d2 => ih (A := A.in1) hr.in1 hA hfr I' w' g1 g2 d1 d2 (zip_at h.2 e1 e2)) (fun z s' q => ⟨true, q.1, rfl, q.2⟩) fun _ _ z => z)
      | _ => exact flat h
    | @obj a ax c vs fs ha hla rra =>
      cases id r2 with
      | @obj b bx c' us gs hb hlb rrb =>
        cases (show u = Value.ref a from rx)
        cases (show v = Value.ref b from ry)
        by_cases hab : a = b
        · subst hab
          exact eqB_same ⟨rfl, G, H, I, w, Ex.refl⟩
        · simp only [eqDD, Bool.and_eq_true, decide_eq_true_eq] at h
          obtain ⟨rfl, h⟩ := h
          cases e : tbl.lookup c' with
          | none => rw [e] at h; cases h
          | some mf =>
            rw [e] at h
            dsimp only at h
            rcases em : mf [.obj c' fs, .obj c' gs] p with _ | ⟨o, p1⟩
            · rw [em] at h; cases h
            · rw [em] at h
              match o, h, em with
              | .ok (.bl true), h, em =>
                have hp := pnB_eq h
                subst hp
                obtain ⟨f, fd, ps, F, hs, hf, hbd⟩ := T c' mf e
                obtain ⟨od, J⟩ := insInst I (w.sub _ _ ha)
                obtain ⟨od', J'⟩ := insInst I (w.sub _ _ hb)
                obtain ⟨m', hF⟩ := I.fr
                refine PySem.MeDec.eqB_of (fun z => hab (by injection z)) (PySem.W.cmp_K (op := .Eq) (tb := .ref (m.S.ca c')) hr.units0 hF I.ok.mod.kin J J'.type (by rw [B.hK]; exact hnf c' mf e) hs hf ?_)
                obtain ⟨its, vd, bd⟩ := hbd.ex
                cases vd
                have bt := bd s [.ref a, .ref b] [] I.kIn rfl rfl
                have sp : spM m.S mf [.ref a, .ref b] H (fun z H' => z = .bl true ∧ ∃ G', Wd m.S m.pen G' H' p1 ∧ Ex m.pen G H G' H') (fun _ _ _ => False) := by
                  refine ⟨m.pen, G, p1, _, w, .cons r1 (.cons r2 .nil), ?_⟩
                  rw [em]
                  intro z G' H' x' w' r
                  have r : Rep m.S G' m.pen z (.bl true) := r
                  cases r
                  exact ⟨rfl, G', w', x'⟩
                have e0 : Env0 X.prog X.w X.K X.mg X.base A X.stack s H := by
                  have e := I.env0
                  exact ⟨by rw [hfr]; exact e.frames, e.mod, e.bs, e.bsz, e.funs, e.frf, e.hok, e.bare⟩
                refine wpAny_call (codeAny_mono (F.run A X.stack s H ⟨[.ref a, .ref b], []⟩ [.ref a, .ref b] [.ref a, .ref b] _ (fun _ _ _ => False) hA (hr.mono (by omega)) e0 bt (.cons rfl (.cons rfl .nil)) sp) fun r s' hq => ?_)
                cases r with
                | error er => exact B.pf pins σ H s er s' I hq
                | ok fl =>
                  cases fl with
                  | ret z =>
                    obtain ⟨v', H', I', rv', eb, G', w', x'⟩ := I.after hq
                    subst eb
                    cases (show z = Value.bool true from rv')
                    exact ⟨true, rfl, rfl, G', H', I', w', x'⟩
                  | next => exact False.elim hq
                  | brk => exact False.elim hq
                  | cont => exact False.elim hq
      | _ => exact flat h
    | _ => exact flat h
/-- == or != where the two are surely equal; else as told by o -/
noncomputable def dDeq (neg : Bool) (tbl : OTab) (o : D → D → M D) : D → D → M D := fun x y p => match x, y with
  | .lst l, .lst r => if eqDD tbl p 4 (.lst l) (.lst r) then some (.ok (.bl (!neg)), p) else o (.lst l) (.lst r) p
  | .tup l, .tup r => if eqDD tbl p 4 (.tup l) (.tup r) then some (.ok (.bl (!neg)), p) else o (.tup l) (.tup r) p
  | x, y => o x y p
noncomputable def rDeq (m : Am) (neg : Bool) (tbl : OTab) : R2 := fun x y H Q => ∃ G p a b vs us l r, x = .ref a ∧ y = .ref b ∧ Wd m.S m.pen G H p ∧ ((G a = some (.lst vs) ∧ G b = some (.lst us)) ∨ (SqT m.S.K G a vs ∧ SqT m.S.K G b us)) ∧ Reps m.S G m.pen vs l ∧ Reps m.S G m.pen us r ∧ l.length = r.length ∧ (l.zip r).all (fun q => eqDD tbl p 3 q.1 q.2) = true ∧
  ∀ G' H', Ex m.pen G H G' H' → Wd m.S m.pen G' H' p → Q (.bl (!neg)) H'
theorem op_deq {neg : Bool} (B : Bx X m j) (T : ∀ c mf, tbl.lookup c = some mf → OwnT X.prog X.w X.K X.mg X.base m.S k c "__eq__" 2 mf) (hk : Nat.ble (k + 4) j = true)
    (hnf : ∀ c mf, tbl.lookup c = some mf → PySem.W.notFirst m.S.K (m.S.ca c) (.ref (m.S.ca c)) = true) : OpR X (compareOp (if neg then .NotEq else .Eq)) (rDeq m neg tbl) := by
  intro pins s σ H x y v u Q I rx ry h
  obtain ⟨G, p, a, b, vs, us, l, r, rfl, rfl, w, ha, rra, rrb, hl, hz, hQ⟩ := h
  have hr : Room (k + 4) X.A := B.hr.mono (Nat.le_of_ble_eq_true hk)
  cases (show v = Value.ref a from rx)
  cases (show u = Value.ref b from ry)
  have e : compareOp (if neg then .NotEq else .Eq) (.ref a) (.ref b) = richCompare (if neg then .NotEq else .Eq) (.ref a) (.ref b) := by cases neg <;> rfl
  rw [e]
  refine wpAny_mono (seq_rc (neg := neg) hr.units0 B I w ha rra rrb hl fun i u v x y dx dy s' G' H' e1 e2 I' w' x' g1 g2 d1 d2 => eqDD_item B T hnf 3 (A := X.A.in1) hr.in1 B.hq rfl I' w' g1 g2 d1 d2 (zip_at hz e1 e2)) (fun z s' q => ?_) fun _ _ z => z
  obtain ⟨rfl, G', H', I', w', x'⟩ := q
  exact ⟨.bl (!neg), H', I', rfl, hQ G' H' x' w'⟩
theorem r_deq {neg : Bool} {o : D → D → M D} {r : R2} (hr : R2Ok m r o) : R2Ok m (fun x y H Q => r x y H Q ∨ rDeq m neg tbl x y H Q) (dDeq neg tbl o) := by
  rintro σ x y H Q ⟨G, p, δ, ⟨⟨u, dx⟩, dy⟩, w, sl, ⟨⟨_, rx⟩, ry⟩, h⟩
  have rx : Rep m.S G m.pen x dx := rx
  have ry : Rep m.S G m.pen y dy := ry
  have old : Post m.S m.pen m.rE G H Q (fun c d H' => m.W c d σ H') (o dx dy p) → (r x y H Q ∨ rDeq m neg tbl x y H Q) := fun h => .inl (hr σ x y H Q ⟨G, p, δ, ⟨⟨u, dx⟩, dy⟩, w, sl, ⟨⟨trivial, rx⟩, ry⟩, h⟩)
  cases id rx with
  | @lst a vs l ha rra =>
    cases id ry with
    | @lst b us r hb rrb =>
      dsimp only [dDeq] at h
      split at h
      · rename_i hz
        simp only [eqDD, Bool.and_eq_true, beq_iff_eq] at hz
        exact .inr ⟨G, p, a, b, vs, us, l, r, rfl, rfl, w, .inl ⟨ha, hb⟩, rra, rrb, hz.1, hz.2, fun G' H' x' w' => h (.bl (!neg)) G' H' x' w' (.bl _)⟩
      · exact old h
    | _ => exact old h
  | @tup a vs l ha rra =>
    cases id ry with
    | @tup b us r hb rrb =>
      dsimp only [dDeq] at h
      split at h
      · rename_i hz
        simp only [eqDD, Bool.and_eq_true, beq_iff_eq] at hz
        exact .inr ⟨G, p, a, b, vs, us, l, r, rfl, rfl, w, .inr ⟨ha, hb⟩, rra, rrb, hz.1, hz.2, fun G' H' x' w' => h (.bl (!neg)) G' H' x' w' (.bl _)⟩
      · exact old h
    | _ => exact old h
  | _ => exact old h
theorem nf_own {cs os : List Nat} (hcs : cs = tbl.map (·.1)) (nf : nfB m.S.K m.S cs os = true) (ho : cs.all (fun c => os.contains c) = true) : ∀ c mf, tbl.lookup c = some mf → PySem.W.notFirst m.S.K (m.S.ca c) (.ref (m.S.ca c)) = true := fun c mf hc => by
  have hm : c ∈ cs := by rw [hcs]; exact List.mem_map.mpr ⟨(c, mf), mem_of_lookup hc, rfl⟩
  have hmo : c ∈ os := by simpa using List.all_eq_true.mp ho c hm
  unfold nfB at nf
  have q := List.all_eq_true.mp nf c hm
  simp only [Bool.and_eq_true, List.all_eq_true] at q
  exact q.2 c hmo
theorem c_deq {cs os : List Nat} {o : D → D → M D} (B : Bx X m j) (h : CmpT X m .Eq o) (T : ∀ c mf, tbl.lookup c = some mf → OwnT X.prog X.w X.K X.mg X.base m.S k c "__eq__" 2 mf) (hk : Nat.ble (k + 4) j = true) (hcs : cs = tbl.map (·.1)) (nf : nfB m.S.K m.S cs os = true) (ho : cs.all (fun c => os.contains c) = true) : CmpT X m .Eq (dDeq false tbl o) := by
  obtain ⟨r, h1, h2⟩ := h.ex
  exact ⟨_, OpR.or h1 (op_deq (neg := false) B T hk (nf_own hcs nf ho)), r_deq h2⟩
theorem c_dne {cs os : List Nat} {o : D → D → M D} (B : Bx X m j) (h : CmpT X m .NotEq o) (T : ∀ c mf, tbl.lookup c = some mf → OwnT X.prog X.w X.K X.mg X.base m.S k c "__eq__" 2 mf) (hk : Nat.ble (k + 4) j = true) (hcs : cs = tbl.map (·.1)) (nf : nfB m.S.K m.S cs os = true) (ho : cs.all (fun c => os.contains c) = true) : CmpT X m .NotEq (dDeq true tbl o) := by
  obtain ⟨r, h1, h2⟩ := h.ex
  exact ⟨_, OpR.or h1 (op_deq (neg := true) B T hk (nf_own hcs nf ho)), r_deq h2⟩
end
end ME

/-! x.pop(k), x a dict that is being made, as a statement. -/
namespace ME
open PySem PySem.Spec PyProof.Rows L2
noncomputable def dropD (kvs : List (Key × D)) (k : Key) : List (Key × D) := kvs.filter fun kv => !decide (kv.1 = k)
/-- x.pop(k) -/
noncomputable def sPopD (i : Nat) (ek : EX) : SX := fun δ p => match δ[i]? with
  | some (some (.md kvs)) => sBnd ek (fun k δ p => match dKey k with
    | some q => match valD kvs q with
      | some _ => some (.nx (δ.set i (some (.md (dropD kvs q)))), p)
      | none => none
    | none => none) δ p
  | _ => none
section
variable {X : Cx} {m : Am} {j i : Nat} {pos : Pos} {x : Str}
end
end ME

/-! x op y, x op= y, x <= y by own defs that may raise; the right operand may be of another own class with the same operator. -/
namespace PySem.MeBop
open PySem PySem.W PySem.Calls PyProof.Rows PySem.Spec
section
variable {prog : Program} {w : World} {M : Model} {A : Around} {E : Value → Shared → Prop} {s : Shared} {K : Frag} {x C C' f : Addr} {ox : Obj} {od : Option Obj} {nm : String}
structure RightPy (K : Frag) (C : Addr) (nm : String) (M : Model) (h : Heap) (tb : Value) : Prop where
  f : Looks M h (fillsNumberSlot tb nm) true
  ne : (Value.ref C == tb) = false
  s : Looks M h (isSubtype tb (.ref C)) false
  p : Looks M h (numberSlotInPython tb nm) true
end
end PySem.MeBop
namespace ME
open PySem PySem.Spec PyProof.Rows L2
/-- C' has the operator by its own def -/
noncomputable def pyNumB (K : PySem.W.Frag) (C C' : Addr) (nm : String) : Bool := (PySem.W.selfFirst K C' && (match PySem.W.findIn K (.ref C') (PySem.dunder nm) with | some (some (.ref _)) => true | _ => false)) && (refN (PySem.W.findIn K (.ref C') (dunderR nm)) && PySem.W.subIn K (.ref C') (.ref C) == some false)
noncomputable def bopWB (K : PySem.W.Frag) (S : Sg) (cs os : List Nat) (nm : String) : Bool := cs.all fun c => (PySem.W.selfFirst K (S.ca c) && refN (PySem.W.findIn K (.ref (S.ca c)) (dunderR nm))) && ((tyNames.all fun a => ((PySem.W.findIn K (.type a) (PySem.dunder nm)).isSome && (PySem.W.findIn K (.type a) (dunderR nm)).isSome) && PySem.W.subIn K (.type a) (.ref (S.ca c)) == some false) && os.all fun c' => (S.ca c' == S.ca c || noNumB K (S.ca c') nm) || pyNumB K (S.ca c) (S.ca c') nm)
/-- the right operand's class is known not to be in the way -/
noncomputable def rtB (K : PySem.W.Frag) (C : Addr) (nm : String) (tb : Value) : Bool := rightB K C nm tb || (match tb with | .ref C' => !(C' == C) && pyNumB K C C' nm | _ => false)
section
variable {X : Cx} {m : Am} {j k : Nat}
/-- what x op y wants, σ told -/
noncomputable def rOpX (m : Am) (K : PySem.W.Frag) (tbl : OTab) (nm : String) (σ : L2.St) : V → V → Hp → VK → Prop := fun x y H Q => ∃ c mf a dx fs G p ds dy tb, tbl.lookup c = some mf ∧ x = .ref a ∧ H a = some (.ins (m.S.ca c) dx fs) ∧ Wd m.S m.pen G H p ∧ Rep m.S G m.pen x (.obj c ds) ∧ Rep m.S G m.pen y dy ∧ tbOf m.S dy = some tb ∧ rtB K (m.S.ca c) nm tb = true ∧
  Post m.S m.pen (fun G v d => Rep m.S G m.pen v d) G H Q (fun c d H' => m.W c d σ H') (mf [.obj c ds, dy] p)
/-! ### x op= e -/
noncomputable def sAugX (i : Nat) (o : D → D → M D) (e : EX) : SX := fun δ p => match δ[i]? with
  | some (some (.d x)) => sBnd e (fun y δ p => match o x y p with
    | some (.ok d, p') => some (.nx (δ.set i (some (.d d))), p')
    | some (.ex c fs, p') => some (.er c fs δ, p')
    | none => none) δ p
  | _ => none
/-! ### x <= y that may raise -/
noncomputable def dCmpX (tbl : OTab) (os : List Nat) : D → D → M D
  | .obj c fs, y => match tbl.lookup c with
    | some mf => match y with
      | .obj c' gs => if os.contains c' then mf [.obj c fs, .obj c' gs] else M.stuck
      | y => match tyName y with
        | some _ => mf [.obj c fs, y]
        | none => M.stuck
    | none => M.stuck
  | _, _ => M.stuck
end
end ME

/-! x, y = a list. -/
namespace ME
open PySem PySem.Spec PyProof.Rows L2
noncomputable def gL (g : GXs) : GX := fun d δ => match d with
  | .lst ds => g ds δ
  | _ => none
section
variable {X : Cx} {m : Am} {js : List Nat} {pos : Pos}
end
end ME

/-! x <= y of texts. -/
namespace ME
open PySem PySem.Spec PyProof.Rows L2
noncomputable def dLeS : D → D → M D
  | .str a, .str b => M.ret (.bl (!decide (b.cps.toList < a.cps.toList)))
  | _, _ => M.stuck
section
variable {X : Cx} {m : Am}
end
end ME

/-! bool(o), o an object with its own __bool__. -/
namespace PySem
open PySem.Spec
end PySem
namespace ME
open PySem PySem.Spec PyProof.Rows L2
noncomputable def dBoolO (tbl : OTab) : List D → M D
  | [.obj c fs] => match tbl.lookup c with
    | some mf => fun p => match mf [.obj c fs] p with
      | some (.ok (.bl b), p') => some (.ok (.bl b), p')
      | _ => none
    | none => M.stuck
  | _ => M.stuck
section
variable {X : Cx} {m : Am} {j k : Nat}
noncomputable def rBoolO (m : Am) (tbl : OTab) : List V → Hp → VK → Prop := fun xs H Q => ∃ c mf a dx fs G p ds, tbl.lookup c = some mf ∧ xs = [.ref a] ∧ H a = some (.ins (m.S.ca c) dx fs) ∧ Wd m.S m.pen G H p ∧ Rep m.S G m.pen (.ref a) (.obj c ds) ∧
  Post m.S m.pen (fun G v d => Rep m.S G m.pen v d) G H (fun v H' => ∃ b, v = .bl b ∧ Q (.bl b) H') (fun _ _ _ => False) (mf [.obj c ds] p)
noncomputable def dBool1 : List D → M D
  | [.bl b] => M.ret (.bl b)
  | [.int i] => M.ret (.bl (i != 0))
  | _ => M.stuck
end
end ME

/-! int == o, o an object with its own __eq__: the class of o is asked. -/
namespace ME
open PySem PySem.Spec PyProof.Rows L2
noncomputable def dEqR (tbl : OTab) (o : D → D → M D) : D → D → M D
  | .int i, .obj c fs => match tbl.lookup c with
    | some mf => fun p => match mf [.obj c fs, .int i] p with
      | some (.ok (.bl b), p') => some (.ok (.bl b), p')
      | _ => none
    | none => M.stuck
  | x, y => o x y
section
variable {X : Cx} {m : Am} {j k : Nat}
noncomputable def rEqR (m : Am) (tbl : OTab) : R2 := fun x y H Q => ∃ i a c mf dx fs G p ds, x = .int i ∧ y = .ref a ∧ tbl.lookup c = some mf ∧ H a = some (.ins (m.S.ca c) dx fs) ∧ Wd m.S m.pen G H p ∧ Rep m.S G m.pen (.ref a) (.obj c ds) ∧
  Post m.S m.pen (fun G v d => Rep m.S G m.pen v d) G H (fun v H' => ∃ b, v = .bl b ∧ Q (.bl b) H') (fun _ _ _ => False) (mf [.obj c ds, .int i] p)
theorem r_eqR {tbl : OTab} {o : D → D → M D} {r : R2} (hr : R2Ok m r o) : R2Ok m (fun x y H Q => r x y H Q ∨ rEqR m tbl x y H Q) (dEqR tbl o) := by
  rintro σ x y H Q ⟨G, p, δ, ⟨⟨u, dx⟩, dy⟩, w, sl, ⟨⟨_, rx⟩, ry⟩, h⟩
  have rx : Rep m.S G m.pen x dx := rx
  have ry : Rep m.S G m.pen y dy := ry
  by_cases ho : ∃ i c fs, dx = .int i ∧ dy = .obj c fs
  · obtain ⟨i, c, fs, rfl, rfl⟩ := ho
    right
    cases rx
    cases id ry with
    | @obj a dx _ vs _ ha hl rr =>
      dsimp only [dEqR] at h
      cases e : tbl.lookup c with
      | none => rw [e] at h; exact h.elim
      | some mf =>
        rw [e] at h
        dsimp only at h
        refine ⟨i, a, c, mf, dx, _, G, p, fs, rfl, rfl, e, w.sub _ _ ha, w, ry, ?_⟩
        rcases he : mf [.obj c fs, .int i] p with _ | ⟨o', p1⟩
        · rw [he] at h; exact h
        · rw [he] at h
          cases o' with
          | ex c' gs => exact h.elim
          | ok d =>
            cases d with
            | bl b =>
              intro v G' H' x' w' rv
              have rv : Rep m.S G' m.pen v (.bl b) := rv
              cases rv
              exact ⟨b, rfl, h (.bl b) G' H' x' w' (.bl b)⟩
            | _ => exact h.elim
  · left
    refine hr σ x y H Q ⟨G, p, δ, ⟨⟨u, dx⟩, dy⟩, w, sl, ⟨⟨trivial, rx⟩, ry⟩, ?_⟩
    have e : dEqR tbl o dx dy = o dx dy := by
      cases dx <;> cases dy <;> first | rfl | exact absurd ⟨_, _, _, rfl, rfl⟩ ho
    dsimp only at h ⊢
    rw [e] at h
    exact h
end
end ME

/-! a dict != a text. -/
namespace PySem.MeNd
open PySem PySem.SeqAt PySem.Spec PySem.W
open MeetsSeq MeetsSeq2 MeetsSeq3
section
variable {prog : Program} {w : World} {A : Around} {E : Value → Shared → Prop} {s : Shared} {Q : Value → Shared → Prop}
end
end PySem.MeNd
namespace ME
open PySem PySem.Spec PyProof.Rows L2
noncomputable def dNeS : D → D → M D
  | .dct _, .str _ => M.ret (.bl true)
  | x, y => dEq true x y
section
variable {X : Cx} {m : Am} {j k : Nat}
end
end ME

/-! a + x, a - x by an own __radd__, __rsub__ of x (turned from MeRef by mkref.py). -/
namespace PySem.MeRefA
open PySem PySem.W PySem.Calls PyProof.Rows PySem.Spec
section
variable {prog : Program} {w : World} {M : Model} {A : Around} {E : Value → Shared → Prop} {s : Shared} {K : Frag} {x C f f0 : Addr} {ox : Obj} {od : Option Obj} {nm : String}
theorem meets_imul (a : Int) (t : Tok) (l : Addr) (ol : Obj) (hd : ∀ v, ol.data ≠ .prim v) : Meets (Builtin.«int.__add__» ⟨[.int a t, .ref l], []⟩) (fun _ R s => s.heap.get? l = some ol ∧ R (.ok (.ret Value.notImplemented)) s) :=
  .of_wp fun prog w A R s h => by
    obtain ⟨cls, dd, data, sl⟩ := ol
    obtain ⟨hl, h⟩ := h
    show wpAny _ _ (asInt? (.ref l) >>= _) _ _ s
    unfold asInt?
    refine wpAny_bind (wpAny_bind (wpAny_load hl ?_))
    cases data with
    | prim v => exact absurd rfl (hd v)
    | _ => exact wpAny_pure (wpAny_bind (wpAny_rule (wpAny_pure ⟨_, rfl, h⟩)))
theorem meets_bmul (b : Bool) (l : Addr) (ol : Obj) (hd : ∀ v, ol.data ≠ .prim v) : Meets (Builtin.«int.__add__» ⟨[.bool b, .ref l], []⟩) (fun _ R s => s.heap.get? l = some ol ∧ R (.ok (.ret Value.notImplemented)) s) :=
  .of_wp fun prog w A R s h => by
    obtain ⟨cls, dd, data, sl⟩ := ol
    obtain ⟨hl, h⟩ := h
    show wpAny _ _ (asInt? (.ref l) >>= _) _ _ s
    unfold asInt?
    refine wpAny_bind (wpAny_bind (wpAny_load hl ?_))
    cases data with
    | prim v => exact absurd rfl (hd v)
    | _ => exact wpAny_pure (wpAny_bind (wpAny_rule (wpAny_pure ⟨_, rfl, h⟩)))
theorem try_int {a : Int} {t : Tok} {Q : Option Value → Shared → Prop} (hx : s.heap.get? x = some ox) (hd : ∀ v, ox.data ≠ .prim v) (h : Q none s) : wpAny (model prog w) A (tryMethod (.int a t) (PySem.dunder "add") (.ref x)) Q E s := by
  unfold tryMethod
  refine wpAny_bind (wpAny_callSpecial?_slot (name := PySem.dunder "add") (typeIs_int s a t) PySem.F.slot_int_add (call_meets PySem.F.slot_int_add (typeIs_int s a t) PySem.F.entry_int_add (PySem.F.args_int_add_2 _ _) (meets_imul a t x ox hd) ⟨hx, ?_⟩))
  exact wpAny_pure h
theorem try_bool {a : Bool} {Q : Option Value → Shared → Prop} (hx : s.heap.get? x = some ox) (hd : ∀ v, ox.data ≠ .prim v) (h : Q none s) : wpAny (model prog w) A (tryMethod (.bool a) (PySem.dunder "add") (.ref x)) Q E s := by
  unfold tryMethod
  refine wpAny_bind (wpAny_callSpecial?_slot (name := PySem.dunder "add") (typeIs_bool s a) PySem.F.slot_bool_add (call_meets PySem.F.slot_bool_add (typeIs_bool s a) PySem.F.entry_int_add (PySem.F.args_int_add_2 _ _) (meets_bmul a x ox hd) ⟨hx, ?_⟩))
  exact wpAny_pure h
/-- a * x, x of an own class with __radd__ -/
theorem radd {a : Value} {T : String} {Q : Value → Shared → Prop} (X : K.In s.heap) (I : InstAt s.heap x ox C od) (ha : Looks (model prog w) s.heap (typeOf a) (.type T)) (hc : selfFirst K C = true)
    (hs : findIn K (.ref C) (PySem.dunder "add") = some (some (.ref f0))) (hr : findIn K (.ref C) (dunderR "add") = some (some (.ref f))) (hf : isFn K (.ref f) = true) (hsub : subIn K (.ref C) (.type T) = some false)
    (hl : ∃ l, Looks (model prog w) s.heap (fillsNumberSlot (.type T) "add") l ∧ (l = true → ∀ Q' : Option Value → Shared → Prop, Q' none s → wpAny (model prog w) A (tryMethod a (PySem.dunder "add") (.ref x)) Q' E s))
    (h : wpAny (model prog w) A (call (.ref f) [.ref x, a]) (PySem.W.CmpBack Q) E s) : wpAny (model prog w) A (binaryOp .Add a (.ref x)) Q E s := by
  obtain ⟨cd, rest, hcd, hm⟩ := ksp_first hc
  obtain ⟨l, hL, hT⟩ := hl
  have one := ksp_try X I hr hf h
  have Lf : Looks (model prog w) s.heap (fillsNumberSlot (.ref C) "add") true := fills_K X hcd hm hs
  have Lx : Looks (model prog w) s.heap (typeOf (.ref x)) (.ref C) := I.type
  have Ls : Looks (model prog w) s.heap (isSubtype (.ref C) (.type T)) false := looks_subIn X hsub
  have hne : (Value.type T == Value.ref C) = false := Bool.eq_false_iff.mpr fun q => by cases beq_iff_eq.mp q
  show wpAny (model prog w) A (holding [a, .ref x] _) Q E s
  refine wpAny_holding (wpAny_bind ?_)
  show wpAny (model prog w) A (binaryOp1 "add" a (.ref x)) _ E s
  unfold binaryOp1
  refine wpAny_bind (ha.here (wpAny_bind (Lx.here (wpAny_bind (hL.here ?_)))))
  simp only [hne, Bool.false_eq_true, if_false]
  refine wpAny_bind (Lf.here ?_)
  cases l with
  | false =>
    simp only [Bool.and_true, Bool.false_and, Bool.false_eq_true, if_false, Bool.true_and, Bool.not_false, if_true]
    refine wpAny_bind (wpAny_pure ?_)
    refine wpAny_bind (wpAny_mono one (fun r s' hr' => ?_) fun _ _ e => e)
    obtain ⟨v, rfl, hq⟩ := hr'
    exact wpAny_bind (wpAny_rule (wpAny_pure (wpAny_pure hq)))
  | true =>
    simp only [Bool.and_true, Bool.true_and, if_true, Bool.not_false]
    refine wpAny_bind (Ls.here ?_)
    simp only [Bool.false_eq_true, if_false, Bool.not_false, if_true]
    refine wpAny_bind (wpAny_pure ?_)
    simp only [Bool.false_eq_true, if_false]
    refine wpAny_bind (hT rfl _ ?_)
    dsimp only
    refine wpAny_bind (wpAny_mono one (fun r s' hr' => ?_) fun _ _ e => e)
    obtain ⟨v, rfl, hq⟩ := hr'
    exact wpAny_bind (wpAny_rule (wpAny_pure (wpAny_pure hq)))
end
end PySem.MeRefA
namespace ME
open PySem PySem.Spec PyProof.Rows L2
noncomputable def dAddO (tbl tblR : OTab) (os : List Nat) : D → D → M D
  | .obj c fs, y => dBop tbl os (.obj c fs) y
  | x, .obj c fs => match tyName x with
    | some _ => match tblR.lookup c with
      | some mf => mf [.obj c fs, x]
      | none => M.stuck
    | none => M.stuck
  | _, _ => M.stuck
noncomputable def fillBA (K : PySem.W.Frag) (a : String) : Option Bool := match PySem.W.findIn K (.type a) (PySem.dunder "add"), PySem.W.findIn K (.type a) (dunderR "add") with
  | some fo, some ro => some ((fo.isSome && !isSeqSlot fo) || (ro.isSome && !isSeqSlot ro))
  | _, _ => none
noncomputable def rmBA (K : PySem.W.Frag) (S : Sg) (cs : List Nat) : Bool := cs.all fun c => (PySem.W.selfFirst K (S.ca c) && (match PySem.W.findIn K (.ref (S.ca c)) (PySem.dunder "add") with | some (some (.ref _)) => true | _ => false)) && tyNames.all fun a => PySem.W.subIn K (.ref (S.ca c)) (.type a) == some false && (if a == "int" || a == "bool" then (fillBA K a).isSome else fillBA K a == some false)
section
variable {X : Cx} {m : Am} {j k k2 : Nat}
theorem radd_op {tblR : OTab} {cs : List Nat} {pins : List (Addr × Obj)} {s2 : Shared} {σ : L2.St} {G H2 : Hp} {p : Pn} {x y : V} {v u : Value} {c : Nat} {ds : List D} {dx : D} {t : String} {Q : VK} {mf : List D → M D} (B : Bx X m j) (T : ∀ c mf, tblR.lookup c = some mf → OwnT X.prog X.w X.K X.mg X.base m.S k2 c "__radd__" 2 mf) (hk : Nat.ble k2 j = true) (hcs : cs = tblR.map (·.1)) (hR : rmBA m.S.K m.S cs = true)
    (I2 : Inv X pins σ H2 s2) (rx : RelV x v) (ry : RelV y u) (w : Wd m.S m.pen G H2 p) (r1 : Rep m.S G m.pen x dx) (r2 : Rep m.S G m.pen y (.obj c ds)) (et : tyName dx = some t) (el : tblR.lookup c = some mf) (h6 : Post m.S m.pen m.rE G H2 Q (fun c d H' => m.W c d σ H') (mf [.obj c ds, dx] p)) : wpAny (model X.prog X.w) X.A (binaryOp .Add v u) (EP X pins σ Q) X.xe s2 := by
  have no : ∀ c' gs, dx ≠ .obj c' gs := fun c' gs z => by subst z; cases et
  cases id r2 with
  | @obj ad dxx _ vs _ had hl rr =>
    obtain ⟨f, fd, ps, F, hs, hf, hbd⟩ := T c mf el
    unfold rmBA at hR
    have hRc := List.all_eq_true.mp hR c (by rw [hcs]; exact List.mem_map.mpr ⟨_, mem_of_lookup el, rfl⟩)
    rw [← B.hK] at hRc
    simp only [Bool.and_eq_true, List.all_eq_true] at hRc
    obtain ⟨⟨hself, hmul⟩, hty⟩ := hRc
    obtain ⟨f0, hf0⟩ : ∃ f0, PySem.W.findIn X.K (.ref (m.S.ca c)) (PySem.dunder "add") = some (some (.ref f0)) := by
      revert hmul
      generalize PySem.W.findIn X.K (.ref (m.S.ca c)) (PySem.dunder "add") = z
      intro hz
      match z, hz with
      | some (some (.ref g)), _ => exact ⟨g, rfl⟩
    have ht := hty t (tyName_in et)
    have hn : ("__radd__" : Str) = dunderR "add" := by kernel_rfl
    rw [hn] at hs
    cases (show u = Value.ref ad from ry)
    obtain ⟨od, J⟩ := insInst I2 (w.sub _ _ had)
    have etb : tbOf m.S dx = some (.type t) := by
      cases dx <;> first | exact absurd rfl (no _ _) | (simp only [tbOf, et, Option.map_some])
    have fill : ∀ b, fillBA X.K t = some b → PySem.W.Looks (model X.prog X.w) s2.heap (fillsNumberSlot (.type t) "add") b := fun b hb => by
      unfold fillBA at hb
      split at hb
      · rename_i fo ro e1 e2
        cases hb
        exact PySem.W.ksp_fillsT I2.kIn e1 e2
      · cases hb
    have hd : ∀ z, (PySem.W.instObj (m.S.ca c) dxx).data ≠ .prim z := fun z q => by cases q
    refine PySem.MeRefA.radd (f0 := f0) I2.kIn J (looks_tb B.hK I2 w r1 rx etb) hself hf0 hs hf (beq_iff_eq.mp ht.1) ?_ ?_
    · by_cases hi : (t == "int" || t == "bool") = true
      · have h2 := ht.2
        rw [if_pos hi] at h2
        obtain ⟨b, hb⟩ := Option.isSome_iff_exists.mp h2
        refine ⟨b, fill b hb, fun _ Q' hq => ?_⟩
        cases dx with
        | int i =>
          cases r1
          obtain ⟨tk, rfl⟩ := (show ∃ tk, v = Value.int i tk from rx)
          exact PySem.MeRefA.try_int J.at_ hd hq
        | bl b =>
          cases r1
          cases (show v = Value.bool b from rx)
          exact PySem.MeRefA.try_bool J.at_ hd hq
        | obj c' gs => exact absurd rfl (no _ _)
        | non => cases et; exact absurd hi (by decide)
        | str s => cases et; exact absurd hi (by decide)
        | tup s => cases et; exact absurd hi (by decide)
        | lst s => cases et; exact absurd hi (by decide)
        | dct s => cases et; exact absurd hi (by decide)
        | _ => cases et
      · have h2 := ht.2
        rw [if_neg hi] at h2
        exact ⟨false, fill false (beq_iff_eq.mp h2), fun z => by cases z⟩
    · obtain ⟨its, vd, bd⟩ := hbd.ex
      cases vd
      have bt := bd s2 [.ref ad, v] [] I2.kIn rfl rfl
      have sp : spM m.S mf [.ref ad, x] H2 Q (WE m.W σ) := ⟨m.pen, G, p, _, w, .cons r2 (.cons r1 .nil), h6⟩
      refine wpAny_mono (wpAny_call (codeAny_mono ((F.mono (Nat.le_of_ble_eq_true hk)).run X.A X.stack s2 H2 ⟨[.ref ad, v], []⟩ [.ref ad, v] [.ref ad, x] Q (WE m.W σ) B.hq B.hr I2.env0 bt (.cons rfl (.cons rx .nil)) sp) (R' := fun r s' => match r with | .ok (.ret v) => EP X pins σ Q v s' | .ok _ => False | .error e => X.xe e s') fun r s' hq => ?_)) (fun w s' z => ?_) fun _ _ x => x
      · cases r with
        | error e => exact passAt B.tk σ pins H2 s2 e s' I2 hq
        | ok fl =>
          cases fl with
          | ret u => exact I2.after hq
          | next => exact False.elim hq
          | brk => exact False.elim hq
          | cont => exact False.elim hq
      · obtain ⟨z', H', I', rz, qz⟩ := z
        exact SlX.cmpback rz ⟨z', H', I', rz, qz⟩
theorem me_addO {nm : Str} {tbl tblR : OTab} {cs csR os : List Nat} {a b : Expr} {ea eb : EX} {pos : Pos} (hn : nm = PySem.dunder (Operator.Add).info.2) (B : Bx X m j) (T : ∀ c mf, tbl.lookup c = some mf → OwnT X.prog X.w X.K X.mg X.base m.S k c nm 2 mf) (hk : Nat.ble k j = true) (hcs : cs = tbl.map (·.1)) (hB : bopB m.S.K m.S cs os (Operator.Add).info.2 = true)
    (T2 : ∀ c mf, tblR.lookup c = some mf → OwnT X.prog X.w X.K X.mg X.base m.S k2 c "__radd__" 2 mf) (hk2 : Nat.ble k2 j = true) (hcs2 : csR = tblR.map (·.1)) (hR : rmBA m.S.K m.S csR = true) (ha : PE X a (tE m ea)) (hb : PE X b (tE m eb)) : PE X (.BinOp a .Add b pos) (tE m (mBin (dAddO tbl tblR os) ea eb)) := by
  subst hn
  refine ⟨fun pins s σ H Q I h => ?_⟩
  refine wpAny_BinOp (binT (R := fun x y H2 => tY m (rP (rP r0 m.rE) m.rE) m.rE (((), x), y) (fun z _ => dAddO tbl tblR os z.1.2 z.2) σ H2 Q) ha hb I ((tY_bind (R1 := m.rE) r0_mono h).imp fun x H1 h2 => (tY_bind (R1 := m.rE) (rP_mono r0_mono (rE_mono m)) h2).imp fun y H2 h4 => h4) fun v u s2 x y H2 I2 rx ry q => ?_)
  obtain ⟨G, p, δ, ⟨⟨_, dx⟩, dy⟩, w, sl, ⟨⟨_, r1⟩, r2⟩, h5⟩ := q
  have r1 : Rep m.S G m.pen x dx := r1
  have r2 : Rep m.S G m.pen y dy := r2
  by_cases hx : ∃ c fs, dx = .obj c fs
  · obtain ⟨c, fs, rfl⟩ := hx
    exact bop_op B T hk hcs hB I2 rx ry w r1 r2 h5
  · by_cases hy : ∃ c fs, dy = .obj c fs
    · obtain ⟨c, fs, rfl⟩ := hy
      have h' : Post m.S m.pen m.rE G H2 Q (fun c d H' => m.W c d σ H') ((match tyName dx with | some _ => (match tblR.lookup c with | some mf => mf [.obj c fs, dx] | none => M.stuck) | none => M.stuck) p) := by
        cases dx <;> first | exact h5 | exact absurd ⟨_, _, rfl⟩ hx
      cases et : tyName dx with
      | none => rw [et] at h'; exact h'.elim
      | some t =>
        rw [et] at h'
        dsimp only at h'
        cases el : tblR.lookup c with
        | none => rw [el] at h'; exact h'.elim
        | some mf =>
          rw [el] at h'
          exact radd_op B T2 hk2 hcs2 hR I2 rx ry w r1 r2 et el h'
    · exfalso
      cases dx <;> cases dy <;> first | exact h5 | exact hx ⟨_, _, rfl⟩ | exact hy ⟨_, _, rfl⟩
end
end ME
namespace PySem.MeRefS
open PySem PySem.W PySem.Calls PyProof.Rows PySem.Spec
section
variable {prog : Program} {w : World} {M : Model} {A : Around} {E : Value → Shared → Prop} {s : Shared} {K : Frag} {x C f f0 : Addr} {ox : Obj} {od : Option Obj} {nm : String}
theorem meets_imul (a : Int) (t : Tok) (l : Addr) (ol : Obj) (hd : ∀ v, ol.data ≠ .prim v) : Meets (Builtin.«int.__sub__» ⟨[.int a t, .ref l], []⟩) (fun _ R s => s.heap.get? l = some ol ∧ R (.ok (.ret Value.notImplemented)) s) :=
  .of_wp fun prog w A R s h => by
    obtain ⟨cls, dd, data, sl⟩ := ol
    obtain ⟨hl, h⟩ := h
    show wpAny _ _ (asInt? (.ref l) >>= _) _ _ s
    unfold asInt?
    refine wpAny_bind (wpAny_bind (wpAny_load hl ?_))
    cases data with
    | prim v => exact absurd rfl (hd v)
    | _ => exact wpAny_pure (wpAny_bind (wpAny_rule (wpAny_pure ⟨_, rfl, h⟩)))
theorem meets_bmul (b : Bool) (l : Addr) (ol : Obj) (hd : ∀ v, ol.data ≠ .prim v) : Meets (Builtin.«int.__sub__» ⟨[.bool b, .ref l], []⟩) (fun _ R s => s.heap.get? l = some ol ∧ R (.ok (.ret Value.notImplemented)) s) :=
  .of_wp fun prog w A R s h => by
    obtain ⟨cls, dd, data, sl⟩ := ol
    obtain ⟨hl, h⟩ := h
    show wpAny _ _ (asInt? (.ref l) >>= _) _ _ s
    unfold asInt?
    refine wpAny_bind (wpAny_bind (wpAny_load hl ?_))
    cases data with
    | prim v => exact absurd rfl (hd v)
    | _ => exact wpAny_pure (wpAny_bind (wpAny_rule (wpAny_pure ⟨_, rfl, h⟩)))
theorem try_int {a : Int} {t : Tok} {Q : Option Value → Shared → Prop} (hx : s.heap.get? x = some ox) (hd : ∀ v, ox.data ≠ .prim v) (h : Q none s) : wpAny (model prog w) A (tryMethod (.int a t) (PySem.dunder "sub") (.ref x)) Q E s := by
  unfold tryMethod
  refine wpAny_bind (wpAny_callSpecial?_slot (name := PySem.dunder "sub") (typeIs_int s a t) PySem.F.slot_int_sub (call_meets PySem.F.slot_int_sub (typeIs_int s a t) PySem.F.entry_int_sub (PySem.F.args_int_sub_2 _ _) (meets_imul a t x ox hd) ⟨hx, ?_⟩))
  exact wpAny_pure h
theorem try_bool {a : Bool} {Q : Option Value → Shared → Prop} (hx : s.heap.get? x = some ox) (hd : ∀ v, ox.data ≠ .prim v) (h : Q none s) : wpAny (model prog w) A (tryMethod (.bool a) (PySem.dunder "sub") (.ref x)) Q E s := by
  unfold tryMethod
  refine wpAny_bind (wpAny_callSpecial?_slot (name := PySem.dunder "sub") (typeIs_bool s a) PySem.F.slot_bool_sub (call_meets PySem.F.slot_bool_sub (typeIs_bool s a) PySem.F.entry_int_sub (PySem.F.args_int_sub_2 _ _) (meets_bmul a x ox hd) ⟨hx, ?_⟩))
  exact wpAny_pure h
/-- a * x, x of an own class with __rsub__ -/
theorem rsub {a : Value} {T : String} {Q : Value → Shared → Prop} (X : K.In s.heap) (I : InstAt s.heap x ox C od) (ha : Looks (model prog w) s.heap (typeOf a) (.type T)) (hc : selfFirst K C = true)
    (hs : findIn K (.ref C) (PySem.dunder "sub") = some (some (.ref f0))) (hr : findIn K (.ref C) (dunderR "sub") = some (some (.ref f))) (hf : isFn K (.ref f) = true) (hsub : subIn K (.ref C) (.type T) = some false)
    (hl : ∃ l, Looks (model prog w) s.heap (fillsNumberSlot (.type T) "sub") l ∧ (l = true → ∀ Q' : Option Value → Shared → Prop, Q' none s → wpAny (model prog w) A (tryMethod a (PySem.dunder "sub") (.ref x)) Q' E s))
    (h : wpAny (model prog w) A (call (.ref f) [.ref x, a]) (PySem.W.CmpBack Q) E s) : wpAny (model prog w) A (binaryOp .Sub a (.ref x)) Q E s := by
  obtain ⟨cd, rest, hcd, hm⟩ := ksp_first hc
  obtain ⟨l, hL, hT⟩ := hl
  have one := ksp_try X I hr hf h
  have Lf : Looks (model prog w) s.heap (fillsNumberSlot (.ref C) "sub") true := fills_K X hcd hm hs
  have Lx : Looks (model prog w) s.heap (typeOf (.ref x)) (.ref C) := I.type
  have Ls : Looks (model prog w) s.heap (isSubtype (.ref C) (.type T)) false := looks_subIn X hsub
  have hne : (Value.type T == Value.ref C) = false := Bool.eq_false_iff.mpr fun q => by cases beq_iff_eq.mp q
  show wpAny (model prog w) A (holding [a, .ref x] _) Q E s
  refine wpAny_holding (wpAny_bind ?_)
  show wpAny (model prog w) A (binaryOp1 "sub" a (.ref x)) _ E s
  unfold binaryOp1
  refine wpAny_bind (ha.here (wpAny_bind (Lx.here (wpAny_bind (hL.here ?_)))))
  simp only [hne, Bool.false_eq_true, if_false]
  refine wpAny_bind (Lf.here ?_)
  cases l with
  | false =>
    simp only [Bool.and_true, Bool.false_and, Bool.false_eq_true, if_false, Bool.true_and, Bool.not_false, if_true]
    refine wpAny_bind (wpAny_pure ?_)
    refine wpAny_bind (wpAny_mono one (fun r s' hr' => ?_) fun _ _ e => e)
    obtain ⟨v, rfl, hq⟩ := hr'
    exact wpAny_bind (wpAny_rule (wpAny_pure (wpAny_pure hq)))
  | true =>
    simp only [Bool.and_true, Bool.true_and, if_true, Bool.not_false]
    refine wpAny_bind (Ls.here ?_)
    simp only [Bool.false_eq_true, if_false, Bool.not_false, if_true]
    refine wpAny_bind (wpAny_pure ?_)
    simp only [Bool.false_eq_true, if_false]
    refine wpAny_bind (hT rfl _ ?_)
    dsimp only
    refine wpAny_bind (wpAny_mono one (fun r s' hr' => ?_) fun _ _ e => e)
    obtain ⟨v, rfl, hq⟩ := hr'
    exact wpAny_bind (wpAny_rule (wpAny_pure (wpAny_pure hq)))
end
end PySem.MeRefS
namespace ME
open PySem PySem.Spec PyProof.Rows L2
noncomputable def dSubO (tbl tblR : OTab) (os : List Nat) : D → D → M D
  | .obj c fs, y => dBop tbl os (.obj c fs) y
  | x, .obj c fs => match tyName x with
    | some _ => match tblR.lookup c with
      | some mf => mf [.obj c fs, x]
      | none => M.stuck
    | none => M.stuck
  | _, _ => M.stuck
noncomputable def fillBS (K : PySem.W.Frag) (a : String) : Option Bool := match PySem.W.findIn K (.type a) (PySem.dunder "sub"), PySem.W.findIn K (.type a) (dunderR "sub") with
  | some fo, some ro => some ((fo.isSome && !isSeqSlot fo) || (ro.isSome && !isSeqSlot ro))
  | _, _ => none
noncomputable def rmBS (K : PySem.W.Frag) (S : Sg) (cs : List Nat) : Bool := cs.all fun c => (PySem.W.selfFirst K (S.ca c) && (match PySem.W.findIn K (.ref (S.ca c)) (PySem.dunder "sub") with | some (some (.ref _)) => true | _ => false)) && tyNames.all fun a => PySem.W.subIn K (.ref (S.ca c)) (.type a) == some false && (if a == "int" || a == "bool" then (fillBS K a).isSome else fillBS K a == some false)
section
variable {X : Cx} {m : Am} {j k k2 : Nat}
theorem rsub_op {tblR : OTab} {cs : List Nat} {pins : List (Addr × Obj)} {s2 : Shared} {σ : L2.St} {G H2 : Hp} {p : Pn} {x y : V} {v u : Value} {c : Nat} {ds : List D} {dx : D} {t : String} {Q : VK} {mf : List D → M D} (B : Bx X m j) (T : ∀ c mf, tblR.lookup c = some mf → OwnT X.prog X.w X.K X.mg X.base m.S k2 c "__rsub__" 2 mf) (hk : Nat.ble k2 j = true) (hcs : cs = tblR.map (·.1)) (hR : rmBS m.S.K m.S cs = true)
    (I2 : Inv X pins σ H2 s2) (rx : RelV x v) (ry : RelV y u) (w : Wd m.S m.pen G H2 p) (r1 : Rep m.S G m.pen x dx) (r2 : Rep m.S G m.pen y (.obj c ds)) (et : tyName dx = some t) (el : tblR.lookup c = some mf) (h6 : Post m.S m.pen m.rE G H2 Q (fun c d H' => m.W c d σ H') (mf [.obj c ds, dx] p)) : wpAny (model X.prog X.w) X.A (binaryOp .Sub v u) (EP X pins σ Q) X.xe s2 := by
  have no : ∀ c' gs, dx ≠ .obj c' gs := fun c' gs z => by subst z; cases et
  cases id r2 with
  | @obj ad dxx _ vs _ had hl rr =>
    obtain ⟨f, fd, ps, F, hs, hf, hbd⟩ := T c mf el
    unfold rmBS at hR
    have hRc := List.all_eq_true.mp hR c (by rw [hcs]; exact List.mem_map.mpr ⟨_, mem_of_lookup el, rfl⟩)
    rw [← B.hK] at hRc
    simp only [Bool.and_eq_true, List.all_eq_true] at hRc
    obtain ⟨⟨hself, hmul⟩, hty⟩ := hRc
    obtain ⟨f0, hf0⟩ : ∃ f0, PySem.W.findIn X.K (.ref (m.S.ca c)) (PySem.dunder "sub") = some (some (.ref f0)) := by
      revert hmul
      generalize PySem.W.findIn X.K (.ref (m.S.ca c)) (PySem.dunder "sub") = z
      intro hz
      match z, hz with
      | some (some (.ref g)), _ => exact ⟨g, rfl⟩
    have ht := hty t (tyName_in et)
    have hn : ("__rsub__" : Str) = dunderR "sub" := by kernel_rfl
    rw [hn] at hs
    cases (show u = Value.ref ad from ry)
    obtain ⟨od, J⟩ := insInst I2 (w.sub _ _ had)
    have etb : tbOf m.S dx = some (.type t) := by
      cases dx <;> first | exact absurd rfl (no _ _) | (simp only [tbOf, et, Option.map_some])
    have fill : ∀ b, fillBS X.K t = some b → PySem.W.Looks (model X.prog X.w) s2.heap (fillsNumberSlot (.type t) "sub") b := fun b hb => by
      unfold fillBS at hb
      split at hb
      · rename_i fo ro e1 e2
        cases hb
        exact PySem.W.ksp_fillsT I2.kIn e1 e2
      · cases hb
    have hd : ∀ z, (PySem.W.instObj (m.S.ca c) dxx).data ≠ .prim z := fun z q => by cases q
    refine PySem.MeRefS.rsub (f0 := f0) I2.kIn J (looks_tb B.hK I2 w r1 rx etb) hself hf0 hs hf (beq_iff_eq.mp ht.1) ?_ ?_
    · by_cases hi : (t == "int" || t == "bool") = true
      · have h2 := ht.2
        rw [if_pos hi] at h2
        obtain ⟨b, hb⟩ := Option.isSome_iff_exists.mp h2
        refine ⟨b, fill b hb, fun _ Q' hq => ?_⟩
        cases dx with
        | int i =>
          cases r1
          obtain ⟨tk, rfl⟩ := (show ∃ tk, v = Value.int i tk from rx)
          exact PySem.MeRefS.try_int J.at_ hd hq
        | bl b =>
          cases r1
          cases (show v = Value.bool b from rx)
          exact PySem.MeRefS.try_bool J.at_ hd hq
        | obj c' gs => exact absurd rfl (no _ _)
        | non => cases et; exact absurd hi (by decide)
        | str s => cases et; exact absurd hi (by decide)
        | tup s => cases et; exact absurd hi (by decide)
        | lst s => cases et; exact absurd hi (by decide)
        | dct s => cases et; exact absurd hi (by decide)
        | _ => cases et
      · have h2 := ht.2
        rw [if_neg hi] at h2
        exact ⟨false, fill false (beq_iff_eq.mp h2), fun z => by cases z⟩
    · obtain ⟨its, vd, bd⟩ := hbd.ex
      cases vd
      have bt := bd s2 [.ref ad, v] [] I2.kIn rfl rfl
      have sp : spM m.S mf [.ref ad, x] H2 Q (WE m.W σ) := ⟨m.pen, G, p, _, w, .cons r2 (.cons r1 .nil), h6⟩
      refine wpAny_mono (wpAny_call (codeAny_mono ((F.mono (Nat.le_of_ble_eq_true hk)).run X.A X.stack s2 H2 ⟨[.ref ad, v], []⟩ [.ref ad, v] [.ref ad, x] Q (WE m.W σ) B.hq B.hr I2.env0 bt (.cons rfl (.cons rx .nil)) sp) (R' := fun r s' => match r with | .ok (.ret v) => EP X pins σ Q v s' | .ok _ => False | .error e => X.xe e s') fun r s' hq => ?_)) (fun w s' z => ?_) fun _ _ x => x
      · cases r with
        | error e => exact passAt B.tk σ pins H2 s2 e s' I2 hq
        | ok fl =>
          cases fl with
          | ret u => exact I2.after hq
          | next => exact False.elim hq
          | brk => exact False.elim hq
          | cont => exact False.elim hq
      · obtain ⟨z', H', I', rz, qz⟩ := z
        exact SlX.cmpback rz ⟨z', H', I', rz, qz⟩
theorem me_subO {nm : Str} {tbl tblR : OTab} {cs csR os : List Nat} {a b : Expr} {ea eb : EX} {pos : Pos} (hn : nm = PySem.dunder (Operator.Sub).info.2) (B : Bx X m j) (T : ∀ c mf, tbl.lookup c = some mf → OwnT X.prog X.w X.K X.mg X.base m.S k c nm 2 mf) (hk : Nat.ble k j = true) (hcs : cs = tbl.map (·.1)) (hB : bopB m.S.K m.S cs os (Operator.Sub).info.2 = true)
    (T2 : ∀ c mf, tblR.lookup c = some mf → OwnT X.prog X.w X.K X.mg X.base m.S k2 c "__rsub__" 2 mf) (hk2 : Nat.ble k2 j = true) (hcs2 : csR = tblR.map (·.1)) (hR : rmBS m.S.K m.S csR = true) (ha : PE X a (tE m ea)) (hb : PE X b (tE m eb)) : PE X (.BinOp a .Sub b pos) (tE m (mBin (dSubO tbl tblR os) ea eb)) := by
  subst hn
  refine ⟨fun pins s σ H Q I h => ?_⟩
  refine wpAny_BinOp (binT (R := fun x y H2 => tY m (rP (rP r0 m.rE) m.rE) m.rE (((), x), y) (fun z _ => dSubO tbl tblR os z.1.2 z.2) σ H2 Q) ha hb I ((tY_bind (R1 := m.rE) r0_mono h).imp fun x H1 h2 => (tY_bind (R1 := m.rE) (rP_mono r0_mono (rE_mono m)) h2).imp fun y H2 h4 => h4) fun v u s2 x y H2 I2 rx ry q => ?_)
  obtain ⟨G, p, δ, ⟨⟨_, dx⟩, dy⟩, w, sl, ⟨⟨_, r1⟩, r2⟩, h5⟩ := q
  have r1 : Rep m.S G m.pen x dx := r1
  have r2 : Rep m.S G m.pen y dy := r2
  by_cases hx : ∃ c fs, dx = .obj c fs
  · obtain ⟨c, fs, rfl⟩ := hx
    exact bop_op B T hk hcs hB I2 rx ry w r1 r2 h5
  · by_cases hy : ∃ c fs, dy = .obj c fs
    · obtain ⟨c, fs, rfl⟩ := hy
      have h' : Post m.S m.pen m.rE G H2 Q (fun c d H' => m.W c d σ H') ((match tyName dx with | some _ => (match tblR.lookup c with | some mf => mf [.obj c fs, dx] | none => M.stuck) | none => M.stuck) p) := by
        cases dx <;> first | exact h5 | exact absurd ⟨_, _, rfl⟩ hx
      cases et : tyName dx with
      | none => rw [et] at h'; exact h'.elim
      | some t =>
        rw [et] at h'
        dsimp only at h'
        cases el : tblR.lookup c with
        | none => rw [el] at h'; exact h'.elim
        | some mf =>
          rw [el] at h'
          exact rsub_op B T2 hk2 hcs2 hR I2 rx ry w r1 r2 et el h'
    · exfalso
      cases dx <;> cases dy <;> first | exact h5 | exact hx ⟨_, _, rfl⟩ | exact hy ⟨_, _, rfl⟩
end
end ME

/-! int < o and its kin, o an object with its own order: the turned-round def of o is asked. -/
namespace PySem
namespace MeCmR
open PySem.W PySem.Calls PySem.Spec
open AutoSeq1 (wpAny_loadPart')
open MeetsSeq
section
variable {prog : Program} {w : World} {A : Around} {E : Value → Shared → Prop} {s : Shared} {K : Frag} {C : Addr} {od : Option Obj}
theorem dec_lt (b : Int) (u : Tok) (l : Addr) (c : Value) (dd : Option Addr) (sl : Array (Option Value)) :
    Meets (Builtin.«int.__lt__» ⟨[.int b u, .ref l], []⟩) (fun _ R s => s.heap.get? l = some { cls := c, dict := dd, data := .plain, slots := sl } ∧ R (.ok (.ret .notImplemented)) s) :=
  .of_wp fun prog w A R s h => by obtain ⟨hp, g, d, tk, os⟩ := s; obtain ⟨hl, h⟩ := h; wp_walk using wpAny_loadPart' hl, wpAny_load hl; exact ⟨_, rfl, h⟩
theorem dec_le (b : Int) (u : Tok) (l : Addr) (c : Value) (dd : Option Addr) (sl : Array (Option Value)) :
    Meets (Builtin.«int.__le__» ⟨[.int b u, .ref l], []⟩) (fun _ R s => s.heap.get? l = some { cls := c, dict := dd, data := .plain, slots := sl } ∧ R (.ok (.ret .notImplemented)) s) :=
  .of_wp fun prog w A R s h => by obtain ⟨hp, g, d, tk, os⟩ := s; obtain ⟨hl, h⟩ := h; wp_walk using wpAny_loadPart' hl, wpAny_load hl; exact ⟨_, rfl, h⟩
theorem dec_gt (b : Int) (u : Tok) (l : Addr) (c : Value) (dd : Option Addr) (sl : Array (Option Value)) :
    Meets (Builtin.«int.__gt__» ⟨[.int b u, .ref l], []⟩) (fun _ R s => s.heap.get? l = some { cls := c, dict := dd, data := .plain, slots := sl } ∧ R (.ok (.ret .notImplemented)) s) :=
  .of_wp fun prog w A R s h => by obtain ⟨hp, g, d, tk, os⟩ := s; obtain ⟨hl, h⟩ := h; wp_walk using wpAny_loadPart' hl, wpAny_load hl; exact ⟨_, rfl, h⟩
theorem dec_ge (b : Int) (u : Tok) (l : Addr) (c : Value) (dd : Option Addr) (sl : Array (Option Value)) :
    Meets (Builtin.«int.__ge__» ⟨[.int b u, .ref l], []⟩) (fun _ R s => s.heap.get? l = some { cls := c, dict := dd, data := .plain, slots := sl } ∧ R (.ok (.ret .notImplemented)) s) :=
  .of_wp fun prog w A R s h => by obtain ⟨hp, g, d, tk, os⟩ := s; obtain ⟨hl, h⟩ := h; wp_walk using wpAny_loadPart' hl, wpAny_load hl; exact ⟨_, rfl, h⟩
theorem rc_swapG {op : CmpOp} {a : Value} {Ta id : String} {b f : Addr} {ob : Obj} {Q : Value → Shared → Prop} (ha : s.TypeIs a Ta) (X : K.In s.heap) (I : InstAt s.heap b ob C od) (hsub : subIn K (.ref C) (.type Ta) = some false) (slot : Slot Ta (cmpInfo op).2.1 id)
    (hdec : ∀ Q' : Value → Shared → Prop, Q' .notImplemented s → wpAny (model prog w) A (call (.builtin id) [a, .ref b]) Q' E s) (hs : findIn K (.ref C) (cmpInfo op).2.2 = some (some (.ref f))) (hf : isFn K (.ref f) = true) (hu : A.units < cLine)
    (h : wpAny (model prog w) A (call (.ref f) [.ref b, a]) (CmpBack Q) E s) : wpAny (model prog w) A (richCompare op a (.ref b)) Q E s := by
  rcases hi : cmpInfo op with ⟨sym, n1, n2⟩
  rw [hi] at slot hs
  dsimp only at slot hs
  simp only [richCompare, hi, ha.oneThing_none]
  apply wpAny_holding
  apply wpAny_bind
  apply wpAny_cRoomFor hu
  refine wpAny_bind (wpAny_typeOf ha (wpAny_bind (I.type.here ?_)))
  simp only [show (Value.type Ta != Value.ref C) = true from rfl, if_true]
  refine wpAny_bind ((looks_subIn X hsub).here ?_)
  simp only [Bool.false_eq_true, if_false, Bool.not_false, if_true]
  refine wpAny_bind (m := tryCompare a _ (.ref b)) (wpAny_tryCompare_declines ha slot (hdec _ ⟨rfl, ?_⟩))
  have two : wpAny (model prog w) A (tryCompare (.ref b) n2 a) (fun r s' => ∃ v, r = some v ∧ Q v s') E s := by
    unfold tryCompare
    refine wpAny_bind (ifBound_K X I hs hf (wpAny_mono h (fun v s' hv => ?_) fun _ _ e => e))
    cases v <;> first | exact hv.elim | exact wpAny_pure ⟨_, rfl, hv⟩
  refine wpAny_bind (wpAny_mono two (fun r s' hr => ?_) fun _ _ e => e)
  obtain ⟨v, rfl, q⟩ := hr
  exact wpAny_pure q
end
end MeCmR
end PySem
namespace ME
open PySem PySem.Spec PyProof.Rows L2
section
variable {X : Cx} {m : Am} {j k : Nat}
theorem op_cmR {op : CmpOp} {nm : Str} {id : String} {tbl : OTab} (hn : nm = (cmpInfo op).2.2) (hop : ∀ a b, compareOp op a b = richCompare op a b) (slot : Slot "int" (cmpInfo op).2.1 id)
    (hdec : ∀ (i : Int) (t : Tok) (a : Addr) (c : Value) (dd : Option Addr) (sl : Array (Option Value)) (s : Shared) (Q' : Value → Shared → Prop), s.heap.get? a = some { cls := c, dict := dd, data := .plain, slots := sl } → Q' .notImplemented s → wpAny (model X.prog X.w) X.A (call (.builtin id) [.int i t, .ref a]) Q' X.xe s)
    (B : Bx X m j) (T : ∀ c mf, tbl.lookup c = some mf → OwnT X.prog X.w X.K X.mg X.base m.S k c nm 2 mf) (hk : Nat.ble k j = true)
    (hcs : ∀ c mf, tbl.lookup c = some mf → sepB m.S.K m.S [c] = true) : OpR X (compareOp op) (rEqR m tbl) := by
  subst hn
  intro pins s σ H x y v u Q I rx ry h
  obtain ⟨i, a, c, mf, dx, fs, G, p, ds, rfl, rfl, el, ha, w, r1, h5⟩ := h
  obtain ⟨f, fd, ps, F, hs, hf, hb⟩ := T c mf el
  have hsep := hcs c mf el
  unfold sepB at hsep
  simp only [List.all_cons, List.all_nil, Bool.and_true, Bool.and_eq_true, beq_iff_eq] at hsep
  rw [← B.hK] at hsep
  obtain ⟨sN, sS, sI, sB, sT, sL⟩ := hsep
  cases (show u = Value.ref a from ry)
  obtain ⟨t, rfl⟩ := (show ∃ t, v = Value.int i t from rx)
  obtain ⟨od, J⟩ := insInst I ha
  rw [hop]
  refine PySem.MeCmR.rc_swapG (Ta := "int") (typeIs_int s i t) I.kIn J sI slot (fun _ hq => hdec i t a _ _ _ s _ J.at_ hq) hs hf B.hr.units0 ?_
  obtain ⟨its, vd, bd⟩ := hb.ex
  cases vd
  have bt := bd s [.ref a, .int i t] [] I.kIn rfl rfl
  have sp : spM m.S mf [.ref a, .int i] H (fun v H' => ∃ b, v = .bl b ∧ Q (.bl b) H') (fun _ _ _ => False) := ⟨m.pen, G, p, _, w, .cons r1 (.cons (.int i) .nil), h5⟩
  refine wpAny_call (codeAny_mono ((F.mono (Nat.le_of_ble_eq_true hk)).run X.A X.stack s H ⟨[.ref a, .int i t], []⟩ [.ref a, .int i t] [.ref a, .int i] _ (fun _ _ _ => False) B.hq B.hr I.env0 bt (.cons rfl (.cons ⟨t, rfl⟩ .nil)) sp) fun r s' hq => ?_)
  cases r with
  | error e => exact B.pf pins σ H s e s' I hq
  | ok fl =>
    cases fl with
    | ret z =>
      obtain ⟨v', H', I', rv', b, ey, q⟩ := I.after hq
      subst ey
      cases (show z = Value.bool b from rv')
      exact ⟨.bl b, H', I', rfl, q⟩
    | next => exact False.elim hq
    | brk => exact False.elim hq
    | cont => exact False.elim hq
theorem sep_one {K : PySem.W.Frag} {S : Sg} {cs : List Nat} {tbl : OTab} (hcs : cs = tbl.map (·.1)) (se : sepB K S cs = true) : ∀ c mf, tbl.lookup c = some mf → sepB K S [c] = true := fun c mf e => by
  unfold sepB at se ⊢
  have := List.all_eq_true.mp se c (by rw [hcs]; exact List.mem_map.mpr ⟨_, mem_of_lookup e, rfl⟩)
  simpa using this
theorem c_ltR {tbl : OTab} {cs : List Nat} {o : D → D → M D} (B : Bx X m j) (C : CmpT X m .Lt o) (T : ∀ c mf, tbl.lookup c = some mf → OwnT X.prog X.w X.K X.mg X.base m.S k c "__gt__" 2 mf) (hk : Nat.ble k j = true) (hcs : cs = tbl.map (·.1)) (se : sepB m.S.K m.S cs = true) : CmpT X m .Lt (dEqR tbl o) := by
  obtain ⟨r, h1, h2⟩ := C.ex
  exact ⟨_, OpR.or h1 (op_cmR rfl (fun _ _ => rfl) PySem.F.slot_int_lt (fun i t a c dd sl s Q' h hq => call_meets PySem.F.slot_int_lt (typeIs_int s i t) PySem.F.entry_int_lt (PySem.F.args_int_lt_2 _ _) (PySem.MeCmR.dec_lt i t a c dd sl) ⟨h, hq⟩) B T hk (sep_one hcs se)), r_eqR h2⟩
theorem c_leR {tbl : OTab} {cs : List Nat} {o : D → D → M D} (B : Bx X m j) (C : CmpT X m .LtE o) (T : ∀ c mf, tbl.lookup c = some mf → OwnT X.prog X.w X.K X.mg X.base m.S k c "__ge__" 2 mf) (hk : Nat.ble k j = true) (hcs : cs = tbl.map (·.1)) (se : sepB m.S.K m.S cs = true) : CmpT X m .LtE (dEqR tbl o) := by
  obtain ⟨r, h1, h2⟩ := C.ex
  exact ⟨_, OpR.or h1 (op_cmR rfl (fun _ _ => rfl) PySem.F.slot_int_le (fun i t a c dd sl s Q' h hq => call_meets PySem.F.slot_int_le (typeIs_int s i t) PySem.F.entry_int_le (PySem.F.args_int_le_2 _ _) (PySem.MeCmR.dec_le i t a c dd sl) ⟨h, hq⟩) B T hk (sep_one hcs se)), r_eqR h2⟩
theorem c_gtR {tbl : OTab} {cs : List Nat} {o : D → D → M D} (B : Bx X m j) (C : CmpT X m .Gt o) (T : ∀ c mf, tbl.lookup c = some mf → OwnT X.prog X.w X.K X.mg X.base m.S k c "__lt__" 2 mf) (hk : Nat.ble k j = true) (hcs : cs = tbl.map (·.1)) (se : sepB m.S.K m.S cs = true) : CmpT X m .Gt (dEqR tbl o) := by
  obtain ⟨r, h1, h2⟩ := C.ex
  exact ⟨_, OpR.or h1 (op_cmR rfl (fun _ _ => rfl) PySem.F.slot_int_gt (fun i t a c dd sl s Q' h hq => call_meets PySem.F.slot_int_gt (typeIs_int s i t) PySem.F.entry_int_gt (PySem.F.args_int_gt_2 _ _) (PySem.MeCmR.dec_gt i t a c dd sl) ⟨h, hq⟩) B T hk (sep_one hcs se)), r_eqR h2⟩
theorem c_geR {tbl : OTab} {cs : List Nat} {o : D → D → M D} (B : Bx X m j) (C : CmpT X m .GtE o) (T : ∀ c mf, tbl.lookup c = some mf → OwnT X.prog X.w X.K X.mg X.base m.S k c "__le__" 2 mf) (hk : Nat.ble k j = true) (hcs : cs = tbl.map (·.1)) (se : sepB m.S.K m.S cs = true) : CmpT X m .GtE (dEqR tbl o) := by
  obtain ⟨r, h1, h2⟩ := C.ex
  exact ⟨_, OpR.or h1 (op_cmR rfl (fun _ _ => rfl) PySem.F.slot_int_ge (fun i t a c dd sl s Q' h hq => call_meets PySem.F.slot_int_ge (typeIs_int s i t) PySem.F.entry_int_ge (PySem.F.args_int_ge_2 _ _) (PySem.MeCmR.dec_ge i t a c dd sl) ⟨h, hq⟩) B T hk (sep_one hcs se)), r_eqR h2⟩
/-! -x by an own __neg__ -/
theorem un_neg1 {tbl : OTab} (B : Bx X m j) (T : ∀ c mf, tbl.lookup c = some mf → OwnT X.prog X.w X.K X.mg X.base m.S k c "__neg__" 1 mf) (hk : Nat.ble k j = true) : UnR X (unaryOp .USub) (rOwn1 m tbl) := by
  intro pins s σ H x v Q I rx h
  obtain ⟨c, mf, a, dx, fs, G, p, ds, el, rfl, ha, w, r1, h5⟩ := h
  obtain ⟨f, fd, ps, F, hs, hf, hb⟩ := T c mf el
  cases (show v = Value.ref a from rx)
  obtain ⟨od, J⟩ := insInst I ha
  obtain ⟨m', hF⟩ := I.fr
  refine PySem.W.ksp_neg hF I.ok.mod.kin J hs hf ?_
  obtain ⟨its, vd, bd⟩ := hb.ex
  cases vd
  have bt := bd s [.ref a] [] I.kIn rfl rfl
  have sp : spM m.S mf [.ref a] H Q (fun _ _ _ => False) := ⟨m.pen, G, p, _, w, .cons r1 .nil, h5⟩
  refine wpAny_call (codeAny_mono ((F.mono (Nat.le_of_ble_eq_true hk)).run X.A X.stack s H ⟨[.ref a], []⟩ [.ref a] [.ref a] Q (fun _ _ _ => False) B.hq B.hr I.env0 bt (.cons rfl .nil) sp) fun r s' hq => ?_)
  cases r with
  | error e => exact B.pf pins σ H s e s' I hq
  | ok fl =>
    cases fl with
    | ret u => exact I.after hq
    | next => exact False.elim hq
    | brk => exact False.elim hq
    | cont => exact False.elim hq
theorem me_negO {tbl : OTab} {a : Expr} {ea : EX} {pos : Pos} (B : Bx X m j) (T : ∀ c mf, tbl.lookup c = some mf → OwnT X.prog X.w X.K X.mg X.base m.S k c "__neg__" 1 mf) (hk : Nat.ble k j = true) (ha : PE X a (tE m ea)) : PE X (.UnaryOp .USub a pos) (tE m (mUn (dOwn1 tbl) ea)) := me_un (un_neg1 B T hk) r_own1 ha
/-! a * b of great ints -/
noncomputable def dMulW : D → D → M D
  | .int i, .int j => if decide (i.natAbs.log2 + j.natAbs.log2 < 1000000) then M.ret (.int (i * j)) else M.stuck
  | _, _ => M.stuck
theorem r_mulW : R2Ok m (rI CMulW fun i j => .int (i * j)) dMulW := by
  rintro σ x y H Q ⟨G, p, δ, ⟨⟨_, dx⟩, dy⟩, w, sl, ⟨⟨_, rx⟩, ry⟩, h⟩
  have rx : Rep m.S G m.pen x dx := rx
  have ry : Rep m.S G m.pen y dy := ry
  cases rx with
  | int i => cases ry with
    | int j =>
      dsimp only [dMulW] at h
      split at h
      · rename_i hz
        have hz' : i.natAbs.log2 + j.natAbs.log2 < 1000000 := of_decide_eq_true hz
        exact ⟨i, j, rfl, rfl, hz', fin_same w (.int _) h⟩
      · exact h.elim
    | _ => exact h.elim
  | _ => exact h.elim
theorem me_mulW {a b : Expr} {ea eb : EX} {pos : Pos} (ha : PE X a (tE m ea)) (hb : PE X b (tE m eb)) : PE X (.BinOp a .Mult b pos) (tE m (mBin dMulW ea eb)) := me_op op_mulW r_mulW ha hb
end
end ME

/-! Mirrors run by rules: wm, ws say that a mirror ends, and that a claim holds at its end. -/
namespace ME
open PySem L2
noncomputable def wm {α : Type} (m : M α) (p : Pn) (Φ : Out α → Pn → Prop) : Prop := ∃ o p', m p = some (o, p') ∧ Φ o p'
noncomputable def ws (s : SX) (δ : DS) (p : Pn) (Ψ : Fl → Pn → Prop) : Prop := ∃ f p', s δ p = some (f, p') ∧ Ψ f p'
noncomputable def kk {α β : Type} (k : α → M β) (Φ : Out β → Pn → Prop) : Out α → Pn → Prop
  | .ok a, p => wm (k a) p Φ
  | .ex c fs, p => Φ (.ex c fs) p
noncomputable def kS {α : Type} (k : α → SX) (δ : DS) (Ψ : Fl → Pn → Prop) : Out α → Pn → Prop
  | .ok a, p => ws (k a) δ p Ψ
  | .ex c fs, p => Ψ (.er c fs δ) p
noncomputable def kQ (t : SX) (Ψ : Fl → Pn → Prop) : Fl → Pn → Prop
  | .nx δ, p => ws t δ p Ψ
  | f, p => Ψ f p
noncomputable def kF (Φ : Out D → Pn → Prop) : Fl → Pn → Prop
  | .nx _, p => Φ (.ok .non) p
  | .rt d, p => Φ (.ok d) p
  | .er c fs _, p => Φ (.ex c fs) p
  | _, _ => False
/-- how it must end, with the pen as it was -/
noncomputable def fin {α : Type} (r : α) (q : Pn) : α → Pn → Prop := fun o p => o = r ∧ p = q
/-- the slot i of δ -/
class inductive gE : DS → Nat → outParam Sl → Prop
  | z {s : Sl} {l : DS} : gE (some s :: l) 0 s
  | s {a : Option Sl} {l : DS} {i : Nat} {s : Sl} : gE l i s → gE (a :: l) (i + 1) s
class inductive sE : DS → Nat → Option Sl → outParam DS → Prop
  | z {a s : Option Sl} {l : DS} : sE (a :: l) 0 s (s :: l)
  | s {a s : Option Sl} {l l' : DS} {i : Nat} : sE l i s l' → sE (a :: l) (i + 1) s (a :: l')
theorem gE.get {δ : DS} {i : Nat} {s : Sl} (h : gE δ i s) : δ[i]? = some (some s) := by
  induction h with
  | z => rfl
  | s _ ih => simpa using ih
theorem sE.set {δ δ' : DS} {i : Nat} {s : Option Sl} (h : sE δ i s δ') : δ.set i s = δ' := by
  induction h with
  | z => rfl
  | s _ ih => simp [ih]
/-- the slots at the beginning of a def -/
class inductive dE : Nat → List D → outParam DS → Prop
  | z : dE 0 [] []
  | n {n : Nat} {l : DS} : dE n [] l → dE (n + 1) [] (none :: l)
  | c {n : Nat} {d : D} {ds : List D} {l : DS} : dE n ds l → dE (n + 1) (d :: ds) (some (.d d) :: l)
theorem dE.eq {n : Nat} {ds : List D} {δ : DS} (h : dE n ds δ) : dsOf n ds = δ := by
  unfold dsOf
  induction h with
  | z => rfl
  | n _ ih => simpa [List.replicate_succ] using ih
  | c _ ih => simpa using ih
/-- the i-th of some -/
class inductive nE : List D → Nat → outParam D → Prop
  | z {d : D} {l : List D} : nE (d :: l) 0 d
  | s {a d : D} {l : List D} {i : Nat} : nE l i d → nE (a :: l) (i + 1) d
theorem nE.get {l : List D} {i : Nat} {d : D} (h : nE l i d) : l[i]? = some d := by
  induction h with
  | z => rfl
  | s _ ih => simpa using ih
/-- the arguments in their places -/
class inductive pE : List D → List D → List D → List Src → outParam (List D) → Prop
  | z {a b c : List D} : pE a b c [] []
  | p {a b c r : List D} {l : List Src} {i : Nat} {d : D} : nE a i d → pE a b c l r → pE a b c (.p i :: l) (d :: r)
  | k {a b c r : List D} {l : List Src} {i : Nat} {d : D} : nE c i d → pE a b c l r → pE a b c (.k i :: l) (d :: r)
  | d {a b c r : List D} {l : List Src} {i : Nat} {d : D} : nE b i d → pE a b c l r → pE a b c (.d i :: l) (d :: r)
theorem pE.eq {a b c r : List D} {l : List Src} (h : pE a b c l r) : pick a b c l = r := by
  induction h with
  | z => rfl
  | p n _ ih => simp [pick, n.get, ih]
  | k n _ ih => simp [pick, n.get, ih]
  | d n _ ih => simp [pick, n.get, ih]
noncomputable def cK {α : Type} (f : List D → M α) (n k : Nat) (dd : List D) (l : List Src) (x y : List D) : M α := if x.length = n ∧ y.length = k then f (pick x dd y l) else M.stuck
noncomputable def nK (c : Nat) (f : List D → M (List D)) (r : List D) : M D := (f r).bnd fun fs => M.ret (.obj c fs)
noncomputable def sK (f : Str → List D → M D) (δ : DS) (ra : AX) (x : D) : M D := match x with
  | .str a => (ra δ).bnd fun xs => f a xs
  | _ => M.stuck
noncomputable def mK (tbl : MTab) (n k : Nat) (a b : AX) (δ : DS) (d : D) : M D := match d with
  | .obj c fs => match tbl.lookup c with
    | some q => (a δ).bnd fun x => (b δ).bnd fun y => if x.length = n ∧ y.length = k then q.2.2 (.obj c fs :: pick x q.1 y q.2.1) else M.stuck
    | none => M.stuck
  | _ => M.stuck
noncomputable def pI (d : D) : M (Option Int) := match d with
    | .int i => M.ret (some i)
    | _ => M.stuck
noncomputable def ixK (xs : List D) (d : D) : M D := match d with
    | .int k => M.opt (L2.atI xs k)
    | _ => M.stuck
noncomputable def lK (d : D) : M (List D) := match d with
  | .lst l => M.ret l
  | _ => M.stuck
noncomputable def tK (d : D) : M (List D) := match d with
  | .tup l => M.ret l
  | _ => M.stuck
noncomputable def xK (d : D) : M (List D) := match d with
  | .str x => M.ret (x.cps.toList.map fun c => D.str ⟨#[c]⟩)
  | _ => M.stuck
noncomputable def aK (tbl : List (Nat × Nat)) (d : D) : M (List D) := match d with
  | .lst l => M.ret l
  | .tup l => M.ret l
  | .obj c fs => match tbl.lookup c with
    | some kf => match fs[kf]? with
      | some (.tup l) => M.ret l
      | _ => M.stuck
    | none => M.stuck
  | _ => M.stuck
noncomputable def rK (d : List D) : M (List D) := match d with
  | [.int j] => if decide (-(2 ^ 62) ≤ j) && decide (j < 2 ^ 62) then M.ret ((List.range j.toNat).map fun (i : Nat) => D.int (i : Int)) else M.stuck
  | _ => M.stuck
noncomputable def eK (d : List D) : M (List D) := match d with
  | [.lst l] => M.ret (enumD 0 l)
  | _ => M.stuck
noncomputable def eKX (d : List D) : M (List D) := match d with
  | [.lst l] => M.ret (enumD 0 l)
  | [.tup l] => M.ret (enumD 0 l)
  | _ => M.stuck
noncomputable def zK (d : List D) : M (List D) := match d with
  | [.lst l, .lst r] => M.ret (zipD l r)
  | [.tup l, .tup r] => M.ret (zipD l r)
  | _ => M.stuck
noncomputable def uK (δ : DS) (ra : AX) (d : D) : M (List D) := match d with
  | .tup l => (ra δ).bnd fun ys => M.ret (l ++ ys)
  | .lst l => (ra δ).bnd fun ys => M.ret (l ++ ys)
  | _ => M.stuck
noncomputable instance {s : Sl} {l : DS} : gE (some s :: l) 0 s := .z
noncomputable instance {a : Option Sl} {l : DS} {i : Nat} {s : Sl} [h : gE l i s] : gE (a :: l) (i + 1) s := .s h
noncomputable instance {a s : Option Sl} {l : DS} : sE (a :: l) 0 s (s :: l) := .z
noncomputable instance {a s : Option Sl} {l l' : DS} {i : Nat} [h : sE l i s l'] : sE (a :: l) (i + 1) s (a :: l') := .s h
noncomputable instance {d : D} {l : List D} : nE (d :: l) 0 d := .z
noncomputable instance {a d : D} {l : List D} {i : Nat} [h : nE l i d] : nE (a :: l) (i + 1) d := .s h
noncomputable instance {a b c : List D} : pE a b c [] [] := .z
noncomputable instance {a b c r : List D} {l : List Src} {i : Nat} {d : D} [h : nE a i d] [k : pE a b c l r] : pE a b c (.p i :: l) (d :: r) := .p h k
noncomputable instance {a b c r : List D} {l : List Src} {i : Nat} {d : D} [h : nE c i d] [k : pE a b c l r] : pE a b c (.k i :: l) (d :: r) := .k h k
noncomputable instance {a b c r : List D} {l : List Src} {i : Nat} {d : D} [h : nE b i d] [k : pE a b c l r] : pE a b c (.d i :: l) (d :: r) := .d h k
noncomputable instance : dE 0 [] [] := .z
noncomputable instance {n : Nat} {l : DS} [h : dE n [] l] : dE (n + 1) [] (none :: l) := .n h
noncomputable instance {n : Nat} {d : D} {ds : List D} {l : DS} [h : dE n ds l] : dE (n + 1) (d :: ds) (some (.d d) :: l) := .c h
class inductive lenE : List D → Nat → Prop
  | z : lenE [] 0
  | s {d : D} {l : List D} {n : Nat} : lenE l n → lenE (d :: l) (n + 1)
noncomputable instance : lenE [] 0 := .z
noncomputable instance {d : D} {l : List D} {n : Nat} [h : lenE l n] : lenE (d :: l) (n + 1) := .s h
theorem lenE.eq {l : List D} {n : Nat} (h : lenE l n) : l.length = n := by
  induction h with
  | z => rfl
  | s _ ih => simp [ih]
/-- slots that are forgotten -/
class inductive wE : DS → List Nat → outParam DS → Prop
  | z {δ : DS} : wE δ [] δ
  | s {δ δ1 δ2 : DS} {v : Nat} {vs : List Nat} : wE δ vs δ1 → sE δ1 v none δ2 → wE δ (v :: vs) δ2
noncomputable instance {δ : DS} : wE δ [] δ := .z
noncomputable instance {δ δ1 δ2 : DS} {v : Nat} {vs : List Nat} [h : wE δ vs δ1] [k : sE δ1 v none δ2] : wE δ (v :: vs) δ2 := .s h k
theorem wE.eq {δ δ' : DS} {vs : List Nat} (h : wE δ vs δ') : wipeD δ vs = δ' := by
  induction h with
  | z => rfl
  | s _ k ih => unfold wipeD; rw [ih, k.set]
/-- targets that are bound -/
class gV (g : GX) (d : D) (δ : DS) (δ' : outParam DS) : Prop where
  eq : g d δ = some δ'
class gVs (g : GXs) (ds : List D) (δ : DS) (δ' : outParam DS) : Prop where
  eq : g ds δ = some δ'
noncomputable instance {i : Nat} {d : D} {δ δ' : DS} [e : sE δ i (some (.d d)) δ'] : gV (gN i) d δ δ' := ⟨congrArg some e.set⟩
noncomputable instance {g : GXs} {ds : List D} {δ δ' : DS} [e : gVs g ds δ δ'] : gV (gT g) (.tup ds) δ δ' := ⟨e.eq⟩
noncomputable instance {δ : DS} : gVs gs0 [] δ δ := ⟨rfl⟩
noncomputable instance {g : GX} {r : GXs} {d : D} {ds : List D} {δ δ1 δ2 : DS} [e : gV g d δ δ1] [e2 : gVs r ds δ1 δ2] : gVs (gs1 g r) (d :: ds) δ δ2 := ⟨by
  unfold gs1
  dsimp only
  rw [e.eq]
  exact e2.eq⟩
/-- one step of a run -/
class Step (G : Prop) (N : outParam Prop) : Prop where
  go : N → G
section
variable {α β : Type} {δ δ' δ1 δ2 : DS} {p q p1 p2 p' : Pn} {Φ : Out α → Pn → Prop} {Θ : Out β → Pn → Prop} {Ψ : Fl → Pn → Prop} {Λ : Out D → Pn → Prop}
theorem w_of {m : M α} {o : Out α} (h : m p = some (o, p')) (k : Φ o p') : wm m p Φ := ⟨o, p', h, k⟩
theorem s_of {s : SX} {f : Fl} (h : s δ p = some (f, p')) (k : Ψ f p') : ws s δ p Ψ := ⟨f, p', h, k⟩
theorem of_w {m : M α} {r : Out α} (h : wm m p (fin r q)) : m p = some (r, q) := by
  obtain ⟨o, p', h1, h2, h3⟩ := h
  rw [h1, h2, h3]
theorem wm.imp {m : M α} {Φ' : Out α → Pn → Prop} (h : wm m p Φ) (k : ∀ o p', Φ o p' → Φ' o p') : wm m p Φ' := by
  obtain ⟨o, p', h1, h2⟩ := h
  exact ⟨o, p', h1, k _ _ h2⟩
theorem fin_rfl {r : α} : fin r p r p := ⟨rfl, rfl⟩
@[simp] theorem fin_self {r : α} : fin r p r p := ⟨rfl, rfl⟩
theorem kk_ok {k : α → M β} {a : α} (h : wm (k a) p Θ) : kk k Θ (.ok a) p := h
theorem kS_ok {k : α → SX} {a : α} (h : ws (k a) δ p Ψ) : kS k δ Ψ (.ok a) p := h
theorem kQ_nx {t : SX} (h : ws t δ p Ψ) : kQ t Ψ (.nx δ) p := h
theorem kQ_rt {t : SX} {d : D} (h : Ψ (.rt d) p) : kQ t Ψ (.rt d) p := h
theorem kQ_er {t : SX} {c : Nat} {fs : List D} (h : Ψ (.er c fs δ) p) : kQ t Ψ (.er c fs δ) p := h
theorem kF_rt {d : D} (h : Λ (.ok d) p) : kF Λ (.rt d) p := h
theorem kF_er {c : Nat} {fs : List D} (h : Λ (.ex c fs) p) : kF Λ (.er c fs δ) p := h
/-! ### the monad -/
theorem w_bnd {m : M α} {k : α → M β} (h : wm m p (kk k Θ)) : wm (m.bnd k) p Θ := by
  obtain ⟨o, p', h1, h2⟩ := h
  cases o with
  | ok a =>
    obtain ⟨o2, p2, h3, h4⟩ := h2
    refine ⟨o2, p2, ?_, h4⟩
    unfold M.bnd
    rw [h1]
    exact h3
  | ex c fs =>
    refine ⟨_, _, ?_, h2⟩
    unfold M.bnd
    rw [h1]
theorem w_ret {a : α} (h : Φ (.ok a) p) : wm (M.ret a) p Φ := ⟨_, _, rfl, h⟩
theorem w_ite {c : Prop} [Decidable c] {m n : M α} (h1 : c → wm m p Φ) (h2 : ¬ c → wm n p Φ) : wm (if c then m else n) p Φ := by
  by_cases h : c
  · rw [if_pos h]; exact h1 h
  · rw [if_neg h]; exact h2 h
theorem w_yes {c : Prop} [Decidable c] {m n : M α} (h1 : c) (h : wm m p Φ) : wm (if c then m else n) p Φ := by rw [if_pos h1]; exact h
theorem w_no {c : Prop} [Decidable c] {m n : M α} (h1 : ¬ c) (h : wm n p Φ) : wm (if c then m else n) p Φ := by rw [if_neg h1]; exact h
theorem w_tt {m n : M α} {b : Bool} (h1 : b = true) (h : wm m p Φ) : wm (if b = true then m else n) p Φ := w_yes h1 h
theorem w_ff {m n : M α} {b : Bool} (h1 : b = false) (h : wm n p Φ) : wm (if b = true then m else n) p Φ := w_no (by simp [h1]) h
theorem w_case {m n : M α} {b : Bool} (h1 : b = true → wm m p Φ) (h2 : b = false → wm n p Φ) : wm (if b = true then m else n) p Φ := w_ite h1 fun h => h2 (by simpa using h)
theorem s_tt {s t : SX} {b : Bool} (h1 : b = true) (h : ws s δ p Ψ) : ws (if b = true then s else t) δ p Ψ := by rw [if_pos h1]; exact h
theorem s_ff {s t : SX} {b : Bool} (h1 : b = false) (h : ws t δ p Ψ) : ws (if b = true then s else t) δ p Ψ := by rw [if_neg (by simp [h1])]; exact h
/-! ### expressions -/
theorem w_var {i : Nat} {x : D} {Φ : Out D → Pn → Prop} (g : gE δ i (.d x)) (h : Φ (.ok x) p) : wm (mVar i δ) p Φ := ⟨_, _, by unfold mVar; rw [g.get], h⟩
theorem w_c {d : D} {Φ : Out D → Pn → Prop} (h : Φ (.ok d) p) : wm (mC d δ) p Φ := ⟨_, _, rfl, h⟩
theorem w_bin {o : D → D → M D} {a b : EX} (h : wm (a δ) p (kk (fun x => (b δ).bnd fun y => o x y) Λ)) : wm (mBin o a b δ) p Λ := w_bnd h
theorem w_un {o : D → M D} {a : EX} (h : wm (a δ) p (kk o Λ)) : wm (mUn o a δ) p Λ := w_bnd h
theorem w_if {c : TX} {a b : EX} (h : wm (c δ) p (kk (fun k => if k = true then a δ else b δ) Λ)) : wm (mIf c a b δ) p Λ := w_bnd h
theorem w_test {a : EX} {Φ : Out Bool → Pn → Prop} (h : wm (a δ) p (kk (fun x => M.opt (dB x)) Φ)) : wm (mTest a δ) p Φ := w_bnd h
theorem w_tru {a : EX} {Φ : Out Bool → Pn → Prop} (h : wm (a δ) p (kk (fun x => M.opt (dTru x)) Φ)) : wm (mTru a δ) p Φ := w_bnd h
theorem w_dB {b : Bool} {Φ : Out Bool → Pn → Prop} (h : Φ (.ok b) p) : wm (M.opt (dB (.bl b))) p Φ := ⟨_, _, rfl, h⟩
theorem w_tB {b : Bool} {Φ : Out Bool → Pn → Prop} (h : Φ (.ok b) p) : wm (M.opt (dTru (.bl b))) p Φ := ⟨_, _, rfl, h⟩
theorem w_not {a : TX} {Φ : Out Bool → Pn → Prop} (h : wm (a δ) p (kk (fun x => M.ret (!x)) Φ)) : wm (mNotT a δ) p Φ := w_bnd h
theorem w_and {a b : TX} {Φ : Out Bool → Pn → Prop} (h : wm (a δ) p (kk (fun x => if x = true then b δ else M.ret false) Φ)) : wm (mAndT a b δ) p Φ := w_bnd h
theorem w_or {a b : TX} {Φ : Out Bool → Pn → Prop} (h : wm (a δ) p (kk (fun x => if x = true then M.ret true else b δ) Φ)) : wm (mOrT a b δ) p Φ := w_bnd h
theorem w_andV {a b : EX} (h : wm (a δ) p (kk (fun x => (M.opt (dB x)).bnd fun k => if k = true then b δ else M.ret (.bl false)) Λ)) : wm (mAndV a b δ) p Λ := w_bnd h
theorem w_nil {Φ : Out (List D) → Pn → Prop} (h : Φ (.ok []) p) : wm (mNil δ) p Φ := ⟨_, _, rfl, h⟩
theorem w_cons {a : EX} {r : AX} {Φ : Out (List D) → Pn → Prop} (h : wm (a δ) p (kk (fun x => (r δ).bnd fun xs => M.ret (x :: xs)) Φ)) : wm (mCons a r δ) p Φ := w_bnd h
theorem w_cb {f : List D → M D} {a : AX} (h : wm (a δ) p (kk f Λ)) : wm (mCB f a δ) p Λ := w_bnd h
theorem w_cK {f : List D → M α} {n k : Nat} {dd x y r : List D} {l : List Src} (hx : lenE x n) (hy : lenE y k) (e : pE x dd y l r) (h : wm (f r) p Φ) : wm (cK f n k dd l x y) p Φ := by
  unfold cK
  rw [if_pos ⟨hx.eq, hy.eq⟩, e.eq]
  exact h
theorem w_len {m n : M α} {r : List D} {k : Nat} (hx : lenE r k) (h : wm m p Φ) : wm (if r.length = k then m else n) p Φ := w_yes hx.eq h
theorem w_nK {c : Nat} {f : List D → M (List D)} {r : List D} (h : wm (f r) p (kk (fun fs => M.ret (.obj c fs)) Λ)) : wm (nK c f r) p Λ := w_bnd h
theorem w_callK {f : List D → M D} {n k : Nat} {dd : List D} {l : List Src} {a b : AX} (h : wm (a δ) p (kk (fun x => (b δ).bnd fun y => cK f n k dd l x y) Λ)) : wm (mCallK f n k dd l a b δ) p Λ := w_bnd h
theorem w_new {c : Nat} {f : List D → M (List D)} {n k : Nat} {dd : List D} {l : List Src} {a b : AX} (h : wm (a δ) p (kk (fun x => (b δ).bnd fun y => cK (nK c f) n k dd l x y) Λ)) : wm (mNew c f n k dd l a b δ) p Λ := w_bnd h
theorem w_mth {tbl : MTab} {n k : Nat} {eo : EX} {a b : AX} (h : wm (eo δ) p (kk (mK tbl n k a b δ) Λ)) : wm (mMth tbl n k eo a b δ) p Λ := w_bnd h
theorem w_mK {tbl : MTab} {n k c : Nat} {a b : AX} {fs dd : List D} {l : List Src} {f : List D → M D} (e : tbl.lookup c = some (dd, l, f)) (h : wm (a δ) p (kk (fun x => (b δ).bnd fun y => cK (fun r => f (.obj c fs :: r)) n k dd l x y) Λ)) : wm (mK tbl n k a b δ (.obj c fs)) p Λ := by
  unfold mK
  dsimp only
  rw [e]
  exact w_bnd h
theorem sz_of {n : Nat} (h : n ≤ 16777216) : szOk n = true := decide_eq_true h
theorem w_lst {a : AX} (h : wm (a δ) p (kk (fun xs => if szOk xs.length then M.ret (.lst xs) else M.stuck) Λ)) : wm (mLst a δ) p Λ := w_bnd h
theorem w_tup {a : AX} (h : wm (a δ) p (kk (fun xs => if szOk xs.length then M.ret (.tup xs) else M.stuck) Λ)) : wm (mTup a δ) p Λ := w_bnd h
theorem w_excG {n k : Nat} {dd : List D} {l : List Src} {nf : Nat} {a b : AX} {Φ : Out (List D) → Pn → Prop} (h : wm (a δ) p (kk (fun x => (b δ).bnd fun y => cK (fun r => if r.length = nf then M.ret r else M.stuck) n k dd l x y) Φ)) : wm (mExcG n k dd l nf a b δ) p Φ := w_bnd h
theorem w_fn {np n : Nat} {s : SX} {ds : List D} (hl : ds.length = np) (e : dE n ds δ) (h : ws s δ p (kF Λ)) : wm (fnM np n s ds) p Λ := by
  have e := e.eq
  subst e
  obtain ⟨f, p', h1, h2⟩ := h
  cases f with
  | nx δ => exact ⟨_, _, fn_run hl h1, h2⟩
  | rt d => exact ⟨_, _, fn_run hl h1, h2⟩
  | er c fs δ => exact ⟨_, _, fn_run hl h1, h2⟩
  | bk δ => exact h2.elim
  | ct δ => exact h2.elim
theorem w_iAny {tbl : List (Nat × Nat)} {e : EX} {Φ : Out (List D) → Pn → Prop} (h : wm (e δ) p (kk (aK tbl) Φ)) : wm (iAny tbl e δ) p Φ := w_bnd h
theorem w_aKl {tbl : List (Nat × Nat)} {l : List D} {Φ : Out (List D) → Pn → Prop} (h : Φ (.ok l) p) : wm (aK tbl (.lst l)) p Φ := w_ret h
theorem w_aKt {tbl : List (Nat × Nat)} {l : List D} {Φ : Out (List D) → Pn → Prop} (h : Φ (.ok l) p) : wm (aK tbl (.tup l)) p Φ := w_ret h
theorem w_iRng {e : AX} {Φ : Out (List D) → Pn → Prop} (h : wm (e δ) p (kk rK Φ)) : wm (iRng e δ) p Φ := w_bnd h
theorem w_rK {j : Int} {Φ : Out (List D) → Pn → Prop} (h0 : -(2 ^ 62) ≤ j) (h1 : j < 2 ^ 62) (h : Φ (.ok ((List.range j.toNat).map fun (i : Nat) => D.int (i : Int))) p) : wm (rK [.int j]) p Φ := w_tt (by rw [decide_eq_true h0, decide_eq_true h1]; rfl) (w_ret h)
theorem w_comp {γ : Type} {xs : List γ} {a b : γ → D} {f : DS → M (List D)} {g : GX} {e : EX} {vs : List Nat} [hw : wE δ vs δ'] (h1 : wm (f δ) p (fin (.ok (xs.map a)) q)) (h2 : ∀ x ∈ xs, ∃ δ1, g (a x) δ' = some δ1 ∧ wm (e δ1) q (fin (.ok (b x)) q)) (hl : xs.length ≤ 16777216) (h : Λ (.ok (.lst (xs.map b))) q) : wm (mComp f g mYes e vs δ) p Λ := by
  rw [← hw.eq] at h2
  refine ⟨_, _, ?_, h⟩
  unfold mComp M.bnd
  rw [of_w h1]
  dsimp only
  have : ∀ (ys : List γ) (acc : List D), (∀ y ∈ ys, y ∈ xs) → acc.length + ys.length ≤ 16777216 → compGo g mYes e (wipeD δ vs) (ys.map a) acc q = some (.ok (.lst (acc ++ ys.map b)), q) := by
    intro ys
    induction ys with
    | nil =>
      intro acc _ hl
      show (if szOk acc.length then M.ret (D.lst acc) else M.stuck) q = _
      rw [if_pos (sz_of (by simpa using hl))]
      simp [M.ret]
    | cons y r ih =>
      intro acc hm hl
      simp only [List.length_cons] at hl
      obtain ⟨δ1, hg, he⟩ := h2 y (hm y List.mem_cons_self)
      rw [List.map_cons]
      unfold compGo
      rw [hg]
      dsimp only [M.bnd, M.calm, mYes, M.ret]
      rw [if_pos rfl]
      dsimp only [M.bnd, M.calm]
      rw [of_w he]
      dsimp only
      rw [if_pos (decide_eq_true (by omega)), ih (acc ++ [b y]) (fun z hz => hm z (List.mem_cons_of_mem _ hz)) (by simp; omega)]
      simp
  simpa using this xs [] (fun _ h => h) (by simpa using hl)
/-! ### statements -/
theorem s_bnd {e : DS → M α} {k : α → SX} (h : wm (e δ) p (kS k δ Ψ)) : ws (sBnd e k) δ p Ψ := by
  obtain ⟨o, p', h1, h2⟩ := h
  cases o with
  | ok a =>
    obtain ⟨f, p2, h3, h4⟩ := h2
    exact ⟨f, p2, by unfold sBnd; rw [h1]; exact h3, h4⟩
  | ex c fs => exact ⟨_, _, by unfold sBnd; rw [h1], h2⟩
theorem s_nx (h : Ψ (.nx δ) p) : ws sNx δ p Ψ := ⟨_, _, rfl, h⟩
theorem s_seq {s t : SX} (h : ws s δ p (kQ t Ψ)) : ws (sSeq s t) δ p Ψ := by
  obtain ⟨f, p', h1, h2⟩ := h
  cases f with
  | nx δ' =>
    obtain ⟨f, p2, h3, h4⟩ := h2
    exact ⟨f, p2, by unfold sSeq; rw [h1]; exact h3, h4⟩
  | rt d => exact ⟨_, _, by unfold sSeq; rw [h1], h2⟩
  | bk d => exact ⟨_, _, by unfold sSeq; rw [h1], h2⟩
  | ct d => exact ⟨_, _, by unfold sSeq; rw [h1], h2⟩
  | er c fs d => exact ⟨_, _, by unfold sSeq; rw [h1], h2⟩
/-- a value is returned -/
noncomputable def kR (Ψ : Fl → Pn → Prop) (δ : DS) : Out D → Pn → Prop
  | .ok d, p => Ψ (.rt d) p
  | .ex c fs, p => Ψ (.er c fs δ) p
theorem kR_ok {d : D} (h : Ψ (.rt d) p) : kR Ψ δ (.ok d) p := h
theorem s_ret {e : EX} (h : wm (e δ) p (kR Ψ δ)) : ws (sRet e) δ p Ψ := s_bnd (h.imp fun o p' k => by
  cases o with
  | ok d => exact ⟨_, _, rfl, k⟩
  | ex c fs => exact k)
theorem s_if {c : TX} {s t : SX} (h : wm (c δ) p (kS (fun b => if b = true then s else t) δ Ψ)) : ws (sIf c s t) δ p Ψ := s_bnd h
noncomputable def kV (i : Nat) (δ : DS) (Ψ : Fl → Pn → Prop) : Out D → Pn → Prop
  | .ok d, p => Ψ (.nx (δ.set i (some (.d d)))) p
  | .ex c fs, p => Ψ (.er c fs δ) p
theorem kV_ok {i : Nat} {d : D} (e : sE δ i (some (.d d)) δ') (h : Ψ (.nx δ') p) : kV i δ Ψ (.ok d) p := by
  show Ψ (.nx (δ.set i (some (.d d)))) p
  rw [e.set]; exact h
theorem s_set {i : Nat} {e : EX} (h : wm (e δ) p (kV i δ Ψ)) : ws (sSet i e) δ p Ψ := s_bnd (h.imp fun o p' k => by
  cases o with
  | ok d => exact ⟨_, _, rfl, k⟩
  | ex c fs => exact k)
noncomputable def kE (c : Nat) (δ : DS) (Ψ : Fl → Pn → Prop) : Out (List D) → Pn → Prop
  | .ok fs, p => Ψ (.er c fs δ) p
  | .ex c fs, p => Ψ (.er c fs δ) p
theorem kE_ok {c : Nat} {fs : List D} (h : Ψ (.er c fs δ) p) : kE c δ Ψ (.ok fs) p := h
theorem s_raise {c n k : Nat} {dd : List D} {l : List Src} {nf : Nat} {a b : AX} (h : wm (mExcG n k dd l nf a b δ) p (kE c δ Ψ)) : ws (sRaise c n k dd l nf a b) δ p Ψ := s_bnd (h.imp fun o p' k => by
  cases o with
  | ok d => exact ⟨_, _, rfl, k⟩
  | ex c fs => exact k)
/-- two values at one stroke -/
noncomputable def kP2 (i j : Nat) (δ : DS) (Ψ : Fl → Pn → Prop) : Out (List D) → Pn → Prop
  | .ok [a, b], p => Ψ (.nx ((δ.set i (some (.d a))).set j (some (.d b)))) p
  | .ok _, _ => False
  | .ex c fs, p => Ψ (.er c fs δ) p
theorem kP2_ok {i j : Nat} {a b : D} (e : sE δ i (some (.d a)) δ1) (e2 : sE δ1 j (some (.d b)) δ2) (h : Ψ (.nx δ2) p) : kP2 i j δ Ψ (.ok [a, b]) p := by
  show Ψ (.nx ((δ.set i (some (.d a))).set j (some (.d b)))) p
  rw [e.set, e2.set]; exact h
theorem s_par2 {i j : Nat} {ra : AX} (h : wm (ra δ) p (kP2 i j δ Ψ)) : ws (sPar2 i j ra) δ p Ψ := s_bnd (h.imp fun o p' k => by
  cases o with
  | ok ds =>
    match ds, k with
    | [a, b], k => exact ⟨_, _, rfl, k⟩
  | ex c fs => exact k)
noncomputable def kP3 (i j l : Nat) (δ : DS) (Ψ : Fl → Pn → Prop) : Out (List D) → Pn → Prop
  | .ok [a, b, c], p => Ψ (.nx (((δ.set i (some (.d a))).set j (some (.d b))).set l (some (.d c)))) p
  | .ok _, _ => False
  | .ex c fs, p => Ψ (.er c fs δ) p
/-- unpacking -/
noncomputable def kU (g : GX) (δ : DS) (Ψ : Fl → Pn → Prop) : Out D → Pn → Prop
  | .ok d, p => ∃ δ', g d δ = some δ' ∧ Ψ (.nx δ') p
  | .ex c fs, p => Ψ (.er c fs δ) p
theorem kU_v {g : GX} {d : D} (e : gV g d δ δ') (h : Ψ (.nx δ') p) : kU g δ Ψ (.ok d) p := ⟨_, e.eq, h⟩
theorem s_unp {g : GX} {e : EX} (h : wm (e δ) p (kU g δ Ψ)) : ws (sUnp g e) δ p Ψ := s_bnd (h.imp fun o p' k => by
  cases o with
  | ok d =>
    obtain ⟨δ', e, k⟩ := k
    exact ⟨_, _, by dsimp only; rw [e], k⟩
  | ex c fs => exact k)
/-- lists that are being made -/
noncomputable def kL (i : Nat) (δ : DS) (Ψ : Fl → Pn → Prop) : Out (List D) → Pn → Prop
  | .ok ds, p => szOk ds.length = true ∧ Ψ (.nx (δ.set i (some (.ml ds)))) p
  | .ex c fs, p => Ψ (.er c fs δ) p
theorem kL_ok {i : Nat} {ds : List D} (hz : szOk ds.length = true) (e : sE δ i (some (.ml ds)) δ') (h : Ψ (.nx δ') p) : kL i δ Ψ (.ok ds) p := by
  show szOk ds.length = true ∧ Ψ (.nx (δ.set i (some (.ml ds)))) p
  rw [e.set]; exact ⟨hz, h⟩
theorem s_newL {i : Nat} {ra : AX} (h : wm (ra δ) p (kL i δ Ψ)) : ws (sNewL i ra) δ p Ψ := s_bnd (h.imp fun o p' k => by
  cases o with
  | ok d => exact ⟨_, _, by dsimp only; rw [if_pos k.1], k.2⟩
  | ex c fs => exact k)
noncomputable def kA (i : Nat) (xs : List D) (δ : DS) (Ψ : Fl → Pn → Prop) : Out D → Pn → Prop
  | .ok d, p => xs.length < 16777216 ∧ Ψ (.nx (δ.set i (some (.ml (xs ++ [d]))))) p
  | .ex c fs, p => Ψ (.er c fs δ) p
theorem kA_ok {i : Nat} {xs : List D} {d : D} (hz : xs.length < 16777216) (e : sE δ i (some (.ml (xs ++ [d]))) δ') (h : Ψ (.nx δ') p) : kA i xs δ Ψ (.ok d) p := by
  show xs.length < 16777216 ∧ Ψ (.nx (δ.set i (some (.ml (xs ++ [d]))))) p
  rw [e.set]; exact ⟨hz, h⟩
theorem s_app {i : Nat} {e : EX} {xs : List D} (g : gE δ i (.ml xs)) (h : wm (e δ) p (kA i xs δ Ψ)) : ws (sApp i e) δ p Ψ := by
  have := s_bnd (e := e) (k := fun d δ p => if decide (xs.length < 16777216) then some (.nx (δ.set i (some (.ml (xs ++ [d])))), p) else none) (h.imp fun o p' k => by
    cases o with
    | ok d => exact ⟨_, _, by dsimp only; rw [if_pos (decide_eq_true k.1)], k.2⟩
    | ex c fs => exact k)
  obtain ⟨f, p', h1, h2⟩ := this
  exact ⟨f, p', by unfold sApp; rw [g.get]; exact h1, h2⟩
/-- parallel: values and lists that are made -/
noncomputable def kN1 (j : Nat) (δ' : DS) (Ψ : Fl → Pn → Prop) (δ : DS) : Out (List D) → Pn → Prop
  | .ok ds, p => szOk ds.length = true ∧ Ψ (.nx (δ'.set j (some (.ml ds)))) p
  | .ex c fs, p => Ψ (.er c fs δ) p
noncomputable def kEF (i j : Nat) (f : AX) (δ : DS) (Ψ : Fl → Pn → Prop) : Out D → Pn → Prop
  | .ok d, p => wm (f δ) p (kN1 j (δ.set i (some (.d d))) Ψ δ)
  | .ex c fs, p => Ψ (.er c fs δ) p
noncomputable def kFF (i j : Nat) (g : AX) (δ : DS) (Ψ : Fl → Pn → Prop) : Out (List D) → Pn → Prop
  | .ok ds, p => szOk ds.length = true ∧ wm (g δ) p (kN1 j (δ.set i (some (.ml ds))) Ψ δ)
  | .ex c fs, p => Ψ (.er c fs δ) p
noncomputable def kFE (i j : Nat) (g : EX) (δ : DS) (Ψ : Fl → Pn → Prop) : Out (List D) → Pn → Prop
  | .ok ds, p => szOk ds.length = true ∧ wm (g δ) p (fun o p => match o with
    | .ok d => Ψ (.nx ((δ.set i (some (.ml ds))).set j (some (.d d)))) p
    | .ex c fs => Ψ (.er c fs δ) p)
  | .ex c fs, p => Ψ (.er c fs δ) p
noncomputable def kV2 (j : Nat) (δ' : DS) (Ψ : Fl → Pn → Prop) (δ : DS) : Out D → Pn → Prop
  | .ok d, p => Ψ (.nx (δ'.set j (some (.d d)))) p
  | .ex c fs, p => Ψ (.er c fs δ) p
noncomputable def kEFF (i j l : Nat) (f g : AX) (δ : DS) (Ψ : Fl → Pn → Prop) : Out D → Pn → Prop
  | .ok d, p => wm (f δ) p (fun o p => match o with
    | .ok ds => szOk ds.length = true ∧ wm (g δ) p (kN1 l ((δ.set i (some (.d d))).set j (some (.ml ds))) Ψ δ)
    | .ex c fs => Ψ (.er c fs δ) p)
  | .ex c fs, p => Ψ (.er c fs δ) p
noncomputable def kG1 (j l : Nat) (δ' : DS) (g : AX) (δ : DS) (Ψ : Fl → Pn → Prop) : Out (List D) → Pn → Prop
  | .ok ds, p => szOk ds.length = true ∧ wm (g δ) p (kN1 l (δ'.set j (some (.ml ds))) Ψ δ)
  | .ex c fs, p => Ψ (.er c fs δ) p
noncomputable def kEEF (i j l : Nat) (f : EX) (g : AX) (δ : DS) (Ψ : Fl → Pn → Prop) : Out D → Pn → Prop
  | .ok d, p => wm (f δ) p (kEF2 j l g (δ.set i (some (.d d))) δ Ψ)
  | .ex c fs, p => Ψ (.er c fs δ) p
where kEF2 (j l : Nat) (g : AX) (δ' δ : DS) (Ψ : Fl → Pn → Prop) : Out D → Pn → Prop
  | .ok d, p => wm (g δ) p (kN1 l (δ'.set j (some (.d d))) Ψ δ)
  | .ex c fs, p => Ψ (.er c fs δ) p
/-- a comprehension with a test -/
theorem w_compF {γ : Type} {xs : List γ} {a b : γ → D} {T : γ → Bool} {f : DS → M (List D)} {g : GX} {t : TX} {e : EX} {vs : List Nat} [hw : wE δ vs δ'] (h1 : wm (f δ) p (fin (.ok (xs.map a)) q)) (h2 : ∀ x ∈ xs, ∃ δ1, g (a x) δ' = some δ1 ∧ wm (t δ1) q (fin (.ok (T x)) q) ∧ (T x = true → wm (e δ1) q (fin (.ok (b x)) q))) (hl : xs.length ≤ 16777216) (h : Λ (.ok (.lst ((xs.filter T).map b))) q) : wm (mComp f g t e vs δ) p Λ := by
  rw [← hw.eq] at h2
  refine ⟨_, _, ?_, h⟩
  unfold mComp M.bnd
  rw [of_w h1]
  dsimp only
  have : ∀ (ys : List γ) (acc : List D), (∀ y ∈ ys, y ∈ xs) → acc.length + ys.length ≤ 16777216 → compGo g t e (wipeD δ vs) (ys.map a) acc q = some (.ok (.lst (acc ++ (ys.filter T).map b)), q) := by
    intro ys
    induction ys with
    | nil =>
      intro acc _ hl
      show (if szOk acc.length then M.ret (D.lst acc) else M.stuck) q = _
      rw [if_pos (sz_of (by simpa using hl))]
      simp [M.ret]
    | cons y r ih =>
      intro acc hm hl
      simp only [List.length_cons] at hl
      obtain ⟨δ1, hg, ht, he⟩ := h2 y (hm y List.mem_cons_self)
      rw [List.map_cons]
      unfold compGo
      rw [hg]
      dsimp only [M.bnd, M.calm]
      rw [of_w ht]
      dsimp only
      cases hT : T y with
      | true =>
        rw [if_pos rfl]
        dsimp only [M.bnd, M.calm]
        rw [of_w (he hT)]
        dsimp only
        rw [if_pos (decide_eq_true (by omega)), ih (acc ++ [b y]) (fun z hz => hm z (List.mem_cons_of_mem _ hz)) (by simp; omega)]
        simp [hT]
      | false =>
        rw [if_neg (by simp), ih acc (fun z hz => hm z (List.mem_cons_of_mem _ hz)) (by omega)]
        simp [hT]
  simpa using this xs [] (fun _ h => h) (by simpa using hl)
/-- for: an invariant by what is left -/
noncomputable def kFor (Ψ : Fl → Pn → Prop) (I : DS → Pn → Prop) : Fl → Pn → Prop
  | .nx δ, p => I δ p
  | .ct δ, p => I δ p
  | .bk δ, p => Ψ (.nx δ) p
  | .rt d, p => Ψ (.rt d) p
  | .er c fs δ, p => Ψ (.er c fs δ) p
theorem kFor_nx {I : DS → Pn → Prop} (h : I δ p) : kFor Ψ I (.nx δ) p := h
theorem s_for {f : DS → M (List D)} {g : GX} {s : SX} (h : wm (f δ) p (kS (fun ds => forGo g s ds) δ Ψ)) : ws (sFor f g s) δ p Ψ := s_bnd h
theorem forGo_inv {g : GX} {s : SX} {γ : Type} {a : γ → D} {I : Nat → DS → Pn → Prop} : ∀ {xs : List γ} (k : Nat) (δ : DS) (p : Pn), I k δ p → (∀ (i : Nat) (x : γ) δ p, xs[i]? = some x → I (k + i) δ p → ∃ δ1, g (a x) δ = some δ1 ∧ ws s δ1 p (kFor Ψ (I (k + i + 1)))) → (∀ δ p, I (k + xs.length) δ p → Ψ (.nx δ) p) → ws (forGo g s (xs.map a)) δ p Ψ
  | [], k, δ, p, h0, _, h2 => ⟨_, _, rfl, h2 _ _ h0⟩
  | x :: xs, k, δ, p, h0, h1, h2 => by
    obtain ⟨δ1, hg, f, p', hs, hk⟩ := h1 0 x δ p rfl h0
    have cont : ∀ δ2, I (k + 1) δ2 p' → ws (forGo g s (xs.map a)) δ2 p' Ψ := fun δ2 hI => forGo_inv (k + 1) δ2 p' hI (fun i y δ p hy hi => by
        have := h1 (i + 1) y δ p (by simpa using hy) (by rw [show k + (i + 1) = k + 1 + i by omega]; exact hi)
        rw [show k + (i + 1) + 1 = k + 1 + i + 1 by omega] at this
        exact this) (fun δ p hi => h2 δ p (by rw [List.length_cons, show k + (xs.length + 1) = k + 1 + xs.length by omega]; exact hi))
    rw [List.map_cons]
    cases f with
    | nx δ2 =>
      obtain ⟨f2, p2, h3, h4⟩ := cont δ2 hk
      exact ⟨f2, p2, by unfold forGo; rw [hg]; dsimp only; rw [hs]; exact h3, h4⟩
    | ct δ2 =>
      obtain ⟨f2, p2, h3, h4⟩ := cont δ2 hk
      exact ⟨f2, p2, by unfold forGo; rw [hg]; dsimp only; rw [hs]; exact h3, h4⟩
    | bk δ2 => exact ⟨_, _, by unfold forGo; rw [hg]; dsimp only; rw [hs], hk⟩
    | rt d => exact ⟨_, _, by unfold forGo; rw [hg]; dsimp only; rw [hs], hk⟩
    | er c fs δ2 => exact ⟨_, _, by unfold forGo; rw [hg]; dsimp only; rw [hs], hk⟩
/-- for, over xs seen by a -/
theorem for_inv {γ : Type} (xs : List γ) (a : γ → D) (I : Nat → DS → Pn → Prop) {g : GX} {s : SX} {ds : List D} (e : ds = xs.map a) (h0 : I 0 δ p) (h1 : ∀ (i : Nat) (x : γ) δ p, xs[i]? = some x → I i δ p → ∃ δ1, g (a x) δ = some δ1 ∧ ws s δ1 p (kFor Ψ (I (i + 1)))) (h2 : ∀ δ p, I xs.length δ p → Ψ (.nx δ) p) : ws (forGo g s ds) δ p Ψ := by
  subst e
  exact forGo_inv 0 δ p h0 (fun i x δ p hx hi => by
    have := h1 i x δ p hx (by simpa using hi)
    simpa using this) (by simpa using h2)
/-- while: an invariant with a measure that falls -/
noncomputable def kT (s : SX) (δ : DS) (Ψ : Fl → Pn → Prop) (J : DS → Pn → Prop) : Out Bool → Pn → Prop
  | .ok b, p => if b = true then ws s δ p (kFor Ψ J) else Ψ (.nx δ) p
  | .ex c fs, p => Ψ (.er c fs δ) p
theorem kT_t {s : SX} {J : DS → Pn → Prop} {b : Bool} (hb : b = true) (h : ws s δ p (kFor Ψ J)) : kT s δ Ψ J (.ok b) p := by
  subst hb; exact h
theorem kT_f {s : SX} {J : DS → Pn → Prop} {b : Bool} (hb : b = false) (h : Ψ (.nx δ) p) : kT s δ Ψ J (.ok b) p := by
  subst hb; exact h
theorem whGo_inv {t : TX} {s : SX} {I : Nat → DS → Pn → Prop} (step : ∀ k δ p, I k δ p → wm (t δ) p (kT s δ Ψ fun δ' p' => ∃ k', k' < k ∧ I k' δ' p')) : ∀ (n k : Nat) (δ : DS) (p : Pn), k < n → I k δ p → ws (whGo t s n) δ p Ψ
  | 0, _, _, _, h, _ => absurd h (by omega)
  | n + 1, k, δ, p, hk, hI => by
    obtain ⟨o, p', h1, h2⟩ := step k δ p hI
    cases o with
    | ex c fs => exact ⟨_, _, by unfold whGo sBnd; rw [h1], h2⟩
    | ok b =>
      cases b with
      | false => exact ⟨_, _, by unfold whGo sBnd; rw [h1]; rfl, h2⟩
      | true =>
        obtain ⟨f, p2, h3, h4⟩ := h2
        have go : ∀ δ', (∃ k', k' < k ∧ I k' δ' p2) → ws (whGo t s n) δ' p2 Ψ := fun δ' ⟨k', hl, hi⟩ => whGo_inv step n k' δ' p2 (by omega) hi
        cases f with
        | nx δ' =>
          obtain ⟨f2, p3, h5, h6⟩ := go δ' h4
          exact ⟨f2, p3, by unfold whGo sBnd; rw [h1]; dsimp only; rw [h3]; exact h5, h6⟩
        | ct δ' =>
          obtain ⟨f2, p3, h5, h6⟩ := go δ' h4
          exact ⟨f2, p3, by unfold whGo sBnd; rw [h1]; dsimp only; rw [h3]; exact h5, h6⟩
        | bk δ' => exact ⟨_, _, by unfold whGo sBnd; rw [h1]; dsimp only; rw [h3], h4⟩
        | rt d => exact ⟨_, _, by unfold whGo sBnd; rw [h1]; dsimp only; rw [h3], h4⟩
        | er c fs δ' => exact ⟨_, _, by unfold whGo sBnd; rw [h1]; dsimp only; rw [h3], h4⟩
theorem s_while {t : TX} {s : SX} {n : Nat} (I : Nat → DS → Pn → Prop) (k : Nat) (hk : k < n) (h0 : I k δ p) (step : ∀ k δ p, I k δ p → wm (t δ) p (kT s δ Ψ fun δ' p' => ∃ k', k' < k ∧ I k' δ' p')) : ws (sWhile n t s) δ p Ψ := whGo_inv step n k δ p hk h0
theorem w_cmpM {neg : Bool} {i : Nat} {e : EX} {xs : List D} (g : gE δ i (.ml xs)) (h : wm (e δ) p (kk (fun y => dEq neg (.lst xs) y) Λ)) : wm (mCmpM neg i e δ) p Λ := by
  have : mCmpM neg i e δ = (e δ).bnd fun y => dEq neg (.lst xs) y := by unfold mCmpM; rw [g.get]
  rw [this]
  exact w_bnd h
/-- x.append(y.pop(e)) -/
noncomputable def kAP (i j : Nat) (xs ys : List D) (δ : DS) (Ψ : Fl → Pn → Prop) : Out D → Pn → Prop
  | .ok d, p => ∃ (k : Nat) (y : D), d = .int (k : Int) ∧ ys[k]? = some y ∧ k < 2 ^ 62 ∧ xs.length < 16777216 ∧ Ψ (.nx ((δ.set j (some (.ml (ys.eraseIdx k)))).set i (some (.ml (xs ++ [y]))))) p
  | .ex c fs, p => Ψ (.er c fs δ) p
/-! ### data -/
theorem d_add {i j : Int} (h : Λ (.ok (.int (i + j))) p) : wm (dAdd (.int i) (.int j)) p Λ := ⟨_, _, rfl, h⟩
theorem d_addl {x y : List D} (hz : x.length + y.length ≤ 16777216) (h : Λ (.ok (.lst (x ++ y))) p) : wm (dAdd (.lst x) (.lst y)) p Λ := w_tt (sz_of hz) (w_ret h)
theorem d_addt {x y : List D} (hz : x.length + y.length ≤ 16777216) (h : Λ (.ok (.tup (x ++ y))) p) : wm (dAdd (.tup x) (.tup y)) p Λ := w_tt (sz_of hz) (w_ret h)
theorem d_sub {i j : Int} (h : Λ (.ok (.int (i - j))) p) : wm (dSub (.int i) (.int j)) p Λ := ⟨_, _, rfl, h⟩
theorem d_mod {i j : Int} (hj : 0 < j) (h : Λ (.ok (.int (i % j))) p) : wm (dMod (.int i) (.int j)) p Λ := w_tt (decide_eq_true hj) (w_ret h)
theorem d_neg {i : Int} (h : Λ (.ok (.int (-i))) p) : wm (dNeg (.int i)) p Λ := ⟨_, _, rfl, h⟩
theorem d_cmp {f : Int → Int → Bool} {i j : Int} (h : Λ (.ok (.bl (f i j))) p) : wm (dCmpI f (.int i) (.int j)) p Λ := ⟨_, _, rfl, h⟩
theorem d_nes {x y : Str} (h : Λ (.ok (.bl (!(x == y)))) p) : wm (dEq true (.str x) (.str y)) p Λ := ⟨_, _, rfl, by simpa using h⟩
theorem d_eqi {x y : Int} (h : Λ (.ok (.bl (x == y))) p) : wm (dEq false (.int x) (.int y)) p Λ := ⟨_, _, by simp [dEq, toPy, SeqAt.shaped, PyData.canLay0, PyData.depth, PyData.eqv, M.ret], h⟩
theorem d_nei {x y : Int} (h : Λ (.ok (.bl (!(x == y)))) p) : wm (dEq true (.int x) (.int y)) p Λ := ⟨_, _, by simp [dEq, toPy, SeqAt.shaped, PyData.canLay0, PyData.depth, PyData.eqv, M.ret], h⟩
theorem d_isN {x : D} (h : Λ (.ok (.bl (isNon x))) p) : wm (dIsN false x .non) p Λ := ⟨.ok (.bl (isNon x)), p, by cases x <;> rfl, h⟩
theorem d_ixt {l : List D} {i : Int} {d : D} (e : L2.atI l i = some d) (h : Λ (.ok d) p) : wm (dIx (.tup l) (.int i)) p Λ := ⟨_, _, by show M.opt (L2.atI l i) p = _; rw [e]; rfl, h⟩
theorem d_prim {f : List D → M D} {l : List D} {o : Out D} (e : f l p = some (o, p')) (h : Λ o p') : wm (f l) p Λ := ⟨_, _, e, h⟩
theorem d_prim1 {f : D → M D} {l : D} {o : Out D} (e : f l p = some (o, p')) (h : Λ o p') : wm (f l) p Λ := ⟨_, _, e, h⟩
theorem d_ownF {tbl : OTab} {os : List Nat} {o : D → D → M D} {x y : D} (hx : ∀ c fs, x ≠ .obj c fs) (h : wm (o x y) p Λ) : wm (dOwnC tbl os o x y) p Λ := by
  have : dOwnC tbl os o x y = o x y := by
    cases x <;> first | rfl | exact absurd rfl (hx _ _)
  rw [this]; exact h
noncomputable def lmK (f : List D → D → M D) (δ : DS) (ea : EX) (x : D) : M D := match x with
  | .lst l => (ea δ).bnd fun y => f l y
  | _ => M.stuck
end
--STEPS
section
variable {α β : Type} {δ δ' δ1 δ2 : DS} {p q p1 p2 p' : Pn} {Φ : Out α → Pn → Prop} {Θ : Out β → Pn → Prop} {Ψ : Fl → Pn → Prop} {Λ : Out D → Pn → Prop}
noncomputable instance {k : α → M β} {a : α} : Step (kk k Θ (.ok a) p) (wm (k a) p Θ) := ⟨fun h => kk_ok  h⟩
noncomputable instance {d : D} : Step (kF Λ (.rt d) p) (Λ (.ok d) p) := ⟨fun h => kF_rt  h⟩

noncomputable instance {c : Nat} {fs : List D} : Step (kF Λ (.er c fs δ) p) (Λ (.ex c fs) p) := ⟨fun h => kF_er  h⟩
noncomputable instance {t : SX} : Step (kQ t Ψ (.nx δ) p) (ws t δ p Ψ) := ⟨fun h => kQ_nx  h⟩
noncomputable instance {t : SX} {d : D} : Step (kQ t Ψ (.rt d) p) (Ψ (.rt d) p) := ⟨fun h => kQ_rt  h⟩


noncomputable instance {t : SX} {c : Nat} {fs : List D} : Step (kQ t Ψ (.er c fs δ) p) (Ψ (.er c fs δ) p) := ⟨fun h => kQ_er  h⟩
noncomputable instance {d : D} : Step (kR Ψ δ (.ok d) p) (Ψ (.rt d) p) := ⟨fun h => kR_ok  h⟩
noncomputable instance {k : α → SX} {a : α} : Step (kS k δ Ψ (.ok a) p) (ws (k a) δ p Ψ) := ⟨fun h => kS_ok  h⟩




noncomputable instance {c : Nat} {fs : List D} : Step (kE c δ Ψ (.ok fs) p) (Ψ (.er c fs δ) p) := ⟨fun h => kE_ok  h⟩






noncomputable instance {I : DS → Pn → Prop} : Step (kFor Ψ I (.nx δ) p) (I δ p) := ⟨fun h => kFor_nx  h⟩




noncomputable instance {d : D} {Φ : Out D → Pn → Prop} : Step (wm (mC d δ) p Φ) (Φ (.ok d) p) := ⟨fun h => w_c  h⟩
noncomputable instance {a : EX} {r : AX} {Φ : Out (List D) → Pn → Prop} : Step (wm (mCons a r δ) p Φ) (wm (a δ) p (kk (fun x => (r δ).bnd fun xs => M.ret (x :: xs)) Φ)) := ⟨fun h => w_cons  h⟩
noncomputable instance {Φ : Out (List D) → Pn → Prop} : Step (wm (mNil δ) p Φ) (Φ (.ok []) p) := ⟨fun h => w_nil  h⟩
noncomputable instance {o : D → D → M D} {a b : EX} : Step (wm (mBin o a b δ) p Λ) (wm (a δ) p (kk (fun x => (b δ).bnd fun y => o x y) Λ)) := ⟨fun h => w_bin  h⟩
noncomputable instance {m : M α} {k : α → M β} : Step (wm (m.bnd k) p Θ) (wm m p (kk k Θ)) := ⟨fun h => w_bnd  h⟩
noncomputable instance {a : α} : Step (wm (M.ret a) p Φ) (Φ (.ok a) p) := ⟨fun h => w_ret  h⟩
noncomputable instance {f : List D → M D} {a : AX} : Step (wm (mCB f a δ) p Λ) (wm (a δ) p (kk f Λ)) := ⟨fun h => w_cb  h⟩
noncomputable instance {f : List D → M D} {n k : Nat} {dd : List D} {l : List Src} {a b : AX} : Step (wm (mCallK f n k dd l a b δ) p Λ) (wm (a δ) p (kk (fun x => (b δ).bnd fun y => cK f n k dd l x y) Λ)) := ⟨fun h => w_callK  h⟩
noncomputable instance {a : EX} {Φ : Out Bool → Pn → Prop} : Step (wm (mTest a δ) p Φ) (wm (a δ) p (kk (fun x => M.opt (dB x)) Φ)) := ⟨fun h => w_test  h⟩
noncomputable instance {b : Bool} {Φ : Out Bool → Pn → Prop} : Step (wm (M.opt (dB (.bl b))) p Φ) (Φ (.ok b) p) := ⟨fun h => w_dB  h⟩
noncomputable instance {a : EX} {Φ : Out Bool → Pn → Prop} : Step (wm (mTru a δ) p Φ) (wm (a δ) p (kk (fun x => M.opt (dTru x)) Φ)) := ⟨fun h => w_tru  h⟩
noncomputable instance {b : Bool} {Φ : Out Bool → Pn → Prop} : Step (wm (M.opt (dTru (.bl b))) p Φ) (Φ (.ok b) p) := ⟨fun h => w_tB  h⟩




noncomputable instance {o : D → M D} {a : EX} : Step (wm (mUn o a δ) p Λ) (wm (a δ) p (kk o Λ)) := ⟨fun h => w_un  h⟩
noncomputable instance {c : TX} {a b : EX} : Step (wm (mIf c a b δ) p Λ) (wm (c δ) p (kk (fun k => if k = true then a δ else b δ) Λ)) := ⟨fun h => w_if  h⟩
noncomputable instance {a : TX} {Φ : Out Bool → Pn → Prop} : Step (wm (mNotT a δ) p Φ) (wm (a δ) p (kk (fun x => M.ret (!x)) Φ)) := ⟨fun h => w_not  h⟩
noncomputable instance {a b : TX} {Φ : Out Bool → Pn → Prop} : Step (wm (mAndT a b δ) p Φ) (wm (a δ) p (kk (fun x => if x = true then b δ else M.ret false) Φ)) := ⟨fun h => w_and  h⟩
noncomputable instance {a b : TX} {Φ : Out Bool → Pn → Prop} : Step (wm (mOrT a b δ) p Φ) (wm (a δ) p (kk (fun x => if x = true then M.ret true else b δ) Φ)) := ⟨fun h => w_or  h⟩
noncomputable instance {a b : EX} : Step (wm (mAndV a b δ) p Λ) (wm (a δ) p (kk (fun x => (M.opt (dB x)).bnd fun k => if k = true then b δ else M.ret (.bl false)) Λ)) := ⟨fun h => w_andV  h⟩




noncomputable instance {a : AX} : Step (wm (mLst a δ) p Λ) (wm (a δ) p (kk (fun xs => if szOk xs.length then M.ret (.lst xs) else M.stuck) Λ)) := ⟨fun h => w_lst  h⟩
noncomputable instance {a : AX} : Step (wm (mTup a δ) p Λ) (wm (a δ) p (kk (fun xs => if szOk xs.length then M.ret (.tup xs) else M.stuck) Λ)) := ⟨fun h => w_tup  h⟩





noncomputable instance {tbl : MTab} {n k : Nat} {eo : EX} {a b : AX} : Step (wm (mMth tbl n k eo a b δ) p Λ) (wm (eo δ) p (kk (mK tbl n k a b δ) Λ)) := ⟨fun h => w_mth  h⟩



noncomputable instance {c : Nat} {f : List D → M (List D)} {n k : Nat} {dd : List D} {l : List Src} {a b : AX} : Step (wm (mNew c f n k dd l a b δ) p Λ) (wm (a δ) p (kk (fun x => (b δ).bnd fun y => cK (nK c f) n k dd l x y) Λ)) := ⟨fun h => w_new  h⟩




noncomputable instance {n k : Nat} {dd : List D} {l : List Src} {nf : Nat} {a b : AX} {Φ : Out (List D) → Pn → Prop} : Step (wm (mExcG n k dd l nf a b δ) p Φ) (wm (a δ) p (kk (fun x => (b δ).bnd fun y => cK (fun r => if r.length = nf then M.ret r else M.stuck) n k dd l x y) Φ)) := ⟨fun h => w_excG  h⟩





noncomputable instance {tbl : List (Nat × Nat)} {e : EX} {Φ : Out (List D) → Pn → Prop} : Step (wm (iAny tbl e δ) p Φ) (wm (e δ) p (kk (aK tbl) Φ)) := ⟨fun h => w_iAny  h⟩
noncomputable instance {tbl : List (Nat × Nat)} {l : List D} {Φ : Out (List D) → Pn → Prop} : Step (wm (aK tbl (.lst l)) p Φ) (Φ (.ok l) p) := ⟨fun h => w_aKl  h⟩
noncomputable instance {tbl : List (Nat × Nat)} {l : List D} {Φ : Out (List D) → Pn → Prop} : Step (wm (aK tbl (.tup l)) p Φ) (Φ (.ok l) p) := ⟨fun h => w_aKt  h⟩


noncomputable instance {e : AX} {Φ : Out (List D) → Pn → Prop} : Step (wm (iRng e δ) p Φ) (wm (e δ) p (kk rK Φ)) := ⟨fun h => w_iRng  h⟩














noncomputable instance {s t : SX} : Step (ws (sSeq s t) δ p Ψ) (ws s δ p (kQ t Ψ)) := ⟨fun h => s_seq  h⟩
noncomputable instance {i : Nat} {e : EX} : Step (ws (sSet i e) δ p Ψ) (wm (e δ) p (kV i δ Ψ)) := ⟨fun h => s_set  h⟩
noncomputable instance {e : EX} : Step (ws (sRet e) δ p Ψ) (wm (e δ) p (kR Ψ δ)) := ⟨fun h => s_ret  h⟩
noncomputable instance {c : TX} {s t : SX} : Step (ws (sIf c s t) δ p Ψ) (wm (c δ) p (kS (fun b => if b = true then s else t) δ Ψ)) := ⟨fun h => s_if  h⟩
noncomputable instance  : Step (ws sNx δ p Ψ) (Ψ (.nx δ) p) := ⟨fun h => s_nx  h⟩

noncomputable instance {c n k : Nat} {dd : List D} {l : List Src} {nf : Nat} {a b : AX} : Step (ws (sRaise c n k dd l nf a b) δ p Ψ) (wm (mExcG n k dd l nf a b δ) p (kE c δ Ψ)) := ⟨fun h => s_raise  h⟩
noncomputable instance {i j : Nat} {ra : AX} : Step (ws (sPar2 i j ra) δ p Ψ) (wm (ra δ) p (kP2 i j δ Ψ)) := ⟨fun h => s_par2  h⟩

noncomputable instance {g : GX} {e : EX} : Step (ws (sUnp g e) δ p Ψ) (wm (e δ) p (kU g δ Ψ)) := ⟨fun h => s_unp  h⟩
noncomputable instance {i : Nat} {ra : AX} : Step (ws (sNewL i ra) δ p Ψ) (wm (ra δ) p (kL i δ Ψ)) := ⟨fun h => s_newL  h⟩


noncomputable instance {f : DS → M (List D)} {g : GX} {s : SX} : Step (ws (sFor f g s) δ p Ψ) (wm (f δ) p (kS (fun ds => forGo g s ds) δ Ψ)) := ⟨fun h => s_for  h⟩


noncomputable instance {i j : Int} : Step (wm (dAdd (.int i) (.int j)) p Λ) (Λ (.ok (.int (i + j))) p) := ⟨fun h => d_add  h⟩
noncomputable instance {i j : Int} : Step (wm (dSub (.int i) (.int j)) p Λ) (Λ (.ok (.int (i - j))) p) := ⟨fun h => d_sub  h⟩
noncomputable instance {i : Int} : Step (wm (dNeg (.int i)) p Λ) (Λ (.ok (.int (-i))) p) := ⟨fun h => d_neg  h⟩
noncomputable instance {f : Int → Int → Bool} {i j : Int} : Step (wm (dCmpI f (.int i) (.int j)) p Λ) (Λ (.ok (.bl (f i j))) p) := ⟨fun h => d_cmp  h⟩


noncomputable instance {x y : Int} : Step (wm (dEq false (.int x) (.int y)) p Λ) (Λ (.ok (.bl (x == y))) p) := ⟨fun h => d_eqi  h⟩
noncomputable instance {x y : Int} : Step (wm (dEq true (.int x) (.int y)) p Λ) (Λ (.ok (.bl (!(x == y)))) p) := ⟨fun h => d_nei  h⟩
noncomputable instance {x : D} : Step (wm (dIsN false x .non) p Λ) (Λ (.ok (.bl (isNon x))) p) := ⟨fun h => d_isN  h⟩



































noncomputable instance {f : List D → M α} {n k : Nat} {dd x y r : List D} {l : List Src} [hx : lenE x n] [hy : lenE y k] [e : pE x dd y l r] : Step (wm (cK f n k dd l x y) p Φ) (wm (f r) p Φ) := ⟨fun h => w_cK hx hy e h⟩
noncomputable instance {m n : M α} {r : List D} {k : Nat} [hx : lenE r k] : Step (wm (if r.length = k then m else n) p Φ) (wm m p Φ) := ⟨fun h => w_len hx h⟩
noncomputable instance {g : GX} {d : D} [e : gV g d δ δ'] : Step (kU g δ Ψ (.ok d) p) (Ψ (.nx δ') p) := ⟨fun h => kU_v e h⟩
noncomputable instance {i : Nat} {x : D} {Φ : Out D → Pn → Prop} [g : gE δ i (.d x)] : Step (wm (mVar i δ) p Φ) (Φ (.ok x) p) := ⟨fun h => w_var g h⟩
noncomputable instance {i : Nat} {d : D} [e : sE δ i (some (.d d)) δ'] : Step (kV i δ Ψ (.ok d) p) (Ψ (.nx δ') p) := ⟨fun h => kV_ok e h⟩
noncomputable instance {i j : Nat} {a b : D} [e : sE δ i (some (.d a)) δ1] [e2 : sE δ1 j (some (.d b)) δ2] : Step (kP2 i j δ Ψ (.ok [a, b]) p) (Ψ (.nx δ2) p) := ⟨fun h => kP2_ok e e2 h⟩




noncomputable instance {i : Nat} {e : EX} {xs : List D} [g : gE δ i (.ml xs)] : Step (ws (sApp i e) δ p Ψ) (wm (e δ) p (kA i xs δ Ψ)) := ⟨fun h => s_app g h⟩


noncomputable instance {neg : Bool} {i : Nat} {e : EX} {xs : List D} [g : gE δ i (.ml xs)] : Step (wm (mCmpM neg i e δ) p Λ) (wm (e δ) p (kk (fun y => dEq neg (.lst xs) y) Λ)) := ⟨fun h => w_cmpM g h⟩





end
end ME

/-! The rules of MeWp for what MeMix .. MeBool bring. -/
namespace ME
open PySem
section
variable {α β : Type} {δ δ' δ1 δ2 : DS} {p q p1 p2 p' : Pn} {Φ : Out α → Pn → Prop} {Θ : Out β → Pn → Prop} {Ψ : Fl → Pn → Prop} {Λ : Out D → Pn → Prop}
/-! slots -/
noncomputable def kSl (i : Nat) (δ' : DS) (Ψ : Fl → Pn → Prop) (δ : DS) : Out Sl → Pn → Prop
  | .ok s, p => Ψ (.nx (δ'.set i (some s))) p
  | .ex c fs, p => Ψ (.er c fs δ) p
noncomputable def kS2 (i j : Nat) (g : DS → M Sl) (δ' : DS) (Ψ : Fl → Pn → Prop) (δ : DS) : Out Sl → Pn → Prop
  | .ok s, p => wm (g δ) p (kSl j (δ'.set i (some s)) Ψ δ)
  | .ex c fs, p => Ψ (.er c fs δ) p
noncomputable def kS3 (i j l : Nat) (g h' : DS → M Sl) (Ψ : Fl → Pn → Prop) (δ : DS) : Out Sl → Pn → Prop
  | .ok s, p => wm (g δ) p (kS2 j l h' (δ.set i (some s)) Ψ δ)
  | .ex c fs, p => Ψ (.er c fs δ) p
noncomputable def dpK (d : D) : M Sl := match d with
  | .lst l => match pairsD l with
    | some kvs => if decide (kvs.map (·.1)).Nodup then M.ret (.md kvs) else M.stuck
    | none => M.stuck
  | .dct l => M.ret (.md l)
  | _ => M.stuck
/-! dicts that are being made -/
noncomputable def kPe (i : Nat) (kvs : List (L2.Key × D)) (v : D) (δ : DS) (Ψ : Fl → Pn → Prop) : Out D → Pn → Prop
  | .ok k, p => ∃ q, dKey k = some q ∧ kvs.length < 16777216 ∧ Ψ (.nx (δ.set i (some (.md (putD kvs q v))))) p
  | .ex c fs, p => Ψ (.er c fs δ) p
noncomputable def kPd (i : Nat) (ek : EX) (kvs : List (L2.Key × D)) (δ : DS) (Ψ : Fl → Pn → Prop) : Out D → Pn → Prop
  | .ok v, p => wm (ek δ) p (kPe i kvs v δ Ψ)
  | .ex c fs, p => Ψ (.er c fs δ) p
/-! dicts that are read -/
noncomputable def gdK (ek ev : EX) (δ : DS) (x : D) : M D := match x with
  | .dct kvs => (ek δ).bnd fun k => (ev δ).bnd fun y => dGet2 (.dct kvs) [k, y]
  | _ => M.stuck
noncomputable def kyK (d : D) : M (List D) := match d with
  | .dct kvs => M.ret (kvs.map fun kv => keyD kv.1)
  | _ => M.stuck
noncomputable def itK (d : D) : M (List D) := match d with
  | .dct kvs => M.ret (kvs.map fun kv => .tup [keyD kv.1, kv.2])
  | _ => M.stuck
noncomputable def vlK (d : D) : M (List D) := match d with
  | .dct kvs => M.ret (kvs.map (·.2))
  | _ => M.stuck
/-! return [y.pop(e) for ..] -/
end
--STEPS
section
variable {α β : Type} {δ δ' δ1 δ2 : DS} {p q p1 p2 p' : Pn} {Φ : Out α → Pn → Prop} {Θ : Out β → Pn → Prop} {Ψ : Fl → Pn → Prop} {Λ : Out D → Pn → Prop}

































end
end ME

/-! Rules: makers of objects, own operators, own in, walks. -/
namespace ME
open PySem
/-- slots at the beginning of a maker -/
class inductive dI : Nat → Nat → List D → outParam DS → Prop
  | mk {c n : Nat} {ds : List D} {l : DS} : dE n ds l → dI c (n + 1) ds (some (.mo c []) :: l)
noncomputable instance {c n : Nat} {ds : List D} {l : DS} [h : dE n ds l] : dI c (n + 1) ds (some (.mo c []) :: l) := .mk h
theorem dI.eq {c n : Nat} {ds : List D} {δ : DS} (h : dI c n ds δ) : dsI c n ds = δ := by
  cases h with
  | mk h =>
    have := h.eq
    unfold dsOf at this
    unfold dsI
    simp only [Nat.add_sub_cancel]
    rw [this]
theorem lenE_snoc {d : D} : ∀ {l : List D} {n : Nat}, lenE l n → lenE (l ++ [d]) (n + 1)
  | _, _, .z => .s .z
  | _, _, .s h => .s (lenE_snoc h)
noncomputable instance {d : D} {l : List D} {n : Nat} [h : lenE l n] : lenE (l ++ [d]) (n + 1) := lenE_snoc h
section
variable {α β : Type} {δ δ' δ1 δ2 : DS} {p q p1 p2 p' : Pn} {Φ : Out α → Pn → Prop} {Θ : Out β → Pn → Prop} {Ψ : Fl → Pn → Prop} {Λ : Out D → Pn → Prop} {Ξ : Out (List D) → Pn → Prop}
/-! makers -/
noncomputable def kI (c nf : Nat) (Ξ : Out (List D) → Pn → Prop) : Fl → Pn → Prop
  | .nx δ, p => ∃ xs, δ[0]? = some (some (.mo c xs)) ∧ xs.length = nf ∧ Ξ (.ok xs) p
  | .er k fs _, p => Ξ (.ex k fs) p
  | _, _ => False
theorem kI_nx {c nf : Nat} {xs : List D} (g : gE δ 0 (.mo c xs)) (hl : lenE xs nf) (h : Ξ (.ok xs) p) : kI c nf Ξ (.nx δ) p := ⟨xs, g.get, hl.eq, h⟩
theorem w_in {c np n nf : Nat} {s : SX} {ds : List D} (hl : ds.length = np) (e : dI c n ds δ) (h : ws s δ p (kI c nf Ξ)) : wm (inM c np n nf s ds) p Ξ := by
  have e := e.eq
  subst e
  obtain ⟨f, p', h1, h2⟩ := h
  cases f with
  | nx δ =>
    obtain ⟨xs, e1, e2, e3⟩ := h2
    refine ⟨_, _, ?_, e3⟩
    unfold inM
    rw [if_pos hl, h1]
    unfold inOf
    dsimp only
    rw [e1]
    dsimp only
    rw [if_pos ⟨rfl, e2⟩]
  | er k fs δ =>
    refine ⟨_, _, ?_, h2⟩
    unfold inM
    rw [if_pos hl, h1]
    rfl
  | rt d => exact h2.elim
  | bk δ => exact h2.elim
  | ct δ => exact h2.elim
noncomputable def kPut (i c : Nat) (xs : List D) (δ : DS) (Ψ : Fl → Pn → Prop) : Out D → Pn → Prop
  | .ok d, p => Ψ (.nx (δ.set i (some (.mo c (xs ++ [d]))))) p
  | .ex k fs, p => Ψ (.er k fs δ) p
theorem kPut_ok {i c : Nat} {xs : List D} {d : D} (e : sE δ i (some (.mo c (xs ++ [d]))) δ') (h : Ψ (.nx δ') p) : kPut i c xs δ Ψ (.ok d) p := by
  show Ψ (.nx (δ.set i (some (.mo c (xs ++ [d]))))) p
  rw [e.set]; exact h
theorem s_put {i c k : Nat} {e : EX} {xs : List D} (g : gE δ i (.mo c xs)) (hl : lenE xs k) (h : wm (e δ) p (kPut i c xs δ Ψ)) : ws (sPut i c k e) δ p Ψ := by
  have := s_bnd (e := e) (k := fun d δ p => some (.nx (δ.set i (some (.mo c (xs ++ [d])))), p)) (h.imp fun o p' k => by
    cases o with
    | ok d => exact ⟨_, _, rfl, k⟩
    | ex c fs => exact k)
  obtain ⟨f, p', h1, h2⟩ := this
  refine ⟨f, p', ?_, h2⟩
  unfold sPut
  rw [g.get]
  dsimp only
  rw [if_pos ⟨rfl, hl.eq⟩]
  exact h1
/-! own operators -/
noncomputable def kC {α : Type} (Φ : Out α → Pn → Prop) : Out α → Pn → Prop
  | .ok a, p => Φ (.ok a) p
  | .ex _ _, _ => False
theorem kC_ok {a : α} (h : Φ (.ok a) p) : kC Φ (.ok a) p := h
theorem w_calmC {m : M α} (h : wm m p (kC Φ)) : wm m.calm p Φ := by
  obtain ⟨o, p', h1, h2⟩ := h
  cases o with
  | ok a => exact ⟨_, _, by unfold M.calm; rw [h1], h2⟩
  | ex c fs => exact h2.elim
theorem d_bop {tbl : OTab} {os : List Nat} {c c' : Nat} {fs gs : List D} {mf : List D → M D} (e : tbl.lookup c = some mf) (ho : os.contains c' = true) (h : wm (mf [.obj c fs, .obj c' gs]) p Λ) : wm (dBop tbl os (.obj c fs) (.obj c' gs)) p Λ := by
  unfold dBop
  dsimp only
  rw [e]
  dsimp only
  rw [if_pos ho]
  exact h
theorem d_bopV {tbl : OTab} {os : List Nat} {c : Nat} {fs : List D} {y : D} {t : String} {mf : List D → M D} (e : tbl.lookup c = some mf) (ho : tyName y = some t) (hn : ∀ c fs, y ≠ .obj c fs) (h : wm (mf [.obj c fs, y]) p Λ) : wm (dBop tbl os (.obj c fs) y) p Λ := by
  have : dBop tbl os (.obj c fs) y = mf [.obj c fs, y] := by
    unfold dBop
    dsimp only
    rw [e]
    cases y <;> first | exact absurd rfl (hn _ _) | (dsimp only; rw [ho])
  rw [this]
  exact h
theorem d_own {tbl : OTab} {os : List Nat} {c c' : Nat} {fs gs : List D} {o : D → D → M D} {mf : List D → M D} (e : tbl.lookup c = some mf) (ho : os.contains c' = true) (h : wm (mf [.obj c fs, .obj c' gs]) p (kC Λ)) : wm (dOwnC tbl os o (.obj c fs) (.obj c' gs)) p Λ := by
  unfold dOwnC
  dsimp only
  rw [e]
  dsimp only
  rw [if_pos ho]
  exact w_calmC h
theorem d_ownV {tbl : OTab} {os : List Nat} {c : Nat} {fs : List D} {y : D} {t : String} {o : D → D → M D} {mf : List D → M D} (e : tbl.lookup c = some mf) (ho : tyName y = some t) (hn : ∀ c fs, y ≠ .obj c fs) (h : wm (mf [.obj c fs, y]) p (kC Λ)) : wm (dOwnC tbl os o (.obj c fs) y) p Λ := by
  have : dOwnC tbl os o (.obj c fs) y = (mf [.obj c fs, y]).calm := by
    unfold dOwnC
    dsimp only
    rw [e]
    cases y <;> first | exact absurd rfl (hn _ _) | (dsimp only; rw [ho])
  rw [this]
  exact w_calmC h
theorem d_own1C {tbl : OTab} {c : Nat} {fs : List D} {mf : List D → M D} (e : tbl.lookup c = some mf) (h : wm (mf [.obj c fs]) p (kC Λ)) : wm (dOwn1 tbl (.obj c fs)) p Λ := by
  unfold dOwn1
  dsimp only
  rw [e]
  exact w_calmC h
noncomputable def kHas (neg : Bool) (Λ : Out D → Pn → Prop) : Out D → Pn → Prop
  | .ok (.bl b), p => Λ (.ok (.bl (neg ^^ b))) p
  | _, _ => False
noncomputable def kLn (Λ : Out D → Pn → Prop) : Out D → Pn → Prop
  | .ok (.int n), p => 0 ≤ n ∧ n < 2 ^ 63 ∧ Λ (.ok (.int n)) p
  | _, _ => False
noncomputable def kSt (Λ : Out D → Pn → Prop) : Out D → Pn → Prop
  | .ok (.str n), p => Λ (.ok (.str n)) p
  | _, _ => False
noncomputable def notK (k : D) : M D := match k with
  | .bl b => M.ret (.bl (!b))
  | _ => M.stuck
theorem w_notM {f : List D → M D} {ds : List D} (h : wm (f ds) p (kk notK Λ)) : wm (notM f ds) p Λ := by
  have : notM f ds = (f ds).bnd notK := rfl
  rw [this]
  exact w_bnd h
theorem w_notK {b : Bool} (h : Λ (.ok (.bl (!b))) p) : wm (notK (.bl b)) p Λ := w_ret h
/-! walks -/
noncomputable def aKD (tbl tbd : List (Nat × Nat)) (d : D) : M (List D) := match d with
  | .lst l => M.ret l
  | .tup l => M.ret l
  | .dct kvs => M.ret (kvs.map fun kv => keyD kv.1)
  | .obj c fs => match tbl.lookup c with
    | some kf => match fs[kf]? with
      | some (.tup l) => M.ret l
      | _ => M.stuck
    | none => match tbd.lookup c with
      | some kf => match fs[kf]? with
        | some (.dct kvs) => M.ret (kvs.map fun kv => keyD kv.1)
        | _ => M.stuck
      | none => M.stuck
  | _ => M.stuck
end
--STEPS
section
variable {α β : Type} {δ δ' δ1 δ2 : DS} {p q p1 p2 p' : Pn} {Φ : Out α → Pn → Prop} {Θ : Out β → Pn → Prop} {Ψ : Fl → Pn → Prop} {Λ : Out D → Pn → Prop} {Ξ : Out (List D) → Pn → Prop}
noncomputable instance {c nf : Nat} {xs : List D} [g : gE δ 0 (.mo c xs)] [hl : lenE xs nf] : Step (kI c nf Ξ (.nx δ) p) (Ξ (.ok xs) p) := ⟨fun h => kI_nx g hl h⟩

noncomputable instance {i c : Nat} {xs : List D} {d : D} [e : sE δ i (some (.mo c (xs ++ [d]))) δ'] : Step (kPut i c xs δ Ψ (.ok d) p) (Ψ (.nx δ') p) := ⟨fun h => kPut_ok e h⟩

noncomputable instance {i c k : Nat} {e : EX} {xs : List D} [g : gE δ i (.mo c xs)] [hl : lenE xs k] : Step (ws (sPut i c k e) δ p Ψ) (wm (e δ) p (kPut i c xs δ Ψ)) := ⟨fun h => s_put g hl h⟩
noncomputable instance {a : α} : Step (kC Φ (.ok a) p) (Φ (.ok a) p) := ⟨fun h => kC_ok  h⟩


noncomputable instance {f : List D → M D} {ds : List D} : Step (wm (notM f ds) p Λ) (wm (f ds) p (kk notK Λ)) := ⟨fun h => w_notM  h⟩
noncomputable instance {b : Bool} : Step (wm (notK (.bl b)) p Λ) (Λ (.ok (.bl (!b))) p) := ⟨fun h => w_notK  h⟩




end
end ME

/-! Dicts from texts to numbers: values, walks, changes. -/
namespace ME
open PySem
/-! ### numbers by yards -/
noncomputable abbrev Nums := List (Str × Int)
noncomputable def dctS (l : Nums) : List (L2.Key × D) := l.map fun e => ((Sum.inr e.1 : L2.Key), D.int e.2)
noncomputable def vOf : Nums → Str → Int
  | [], _ => 0
  | e :: r, x => if e.1 = x then e.2 else vOf r x
noncomputable def stL (l : Nums) : Nums := ((srtU (l.map (·.1))).filter fun x => decide (0 < vOf l x)).map fun x => (x, vOf l x)
/-! ### changes -/
noncomputable def putN (l : Nums) (x : Str) (v : Int) : Nums := if x ∈ l.map (·.1) then l.map (fun e => if e.1 = x then (e.1, v) else e) else l ++ [(x, v)]
/-! ### rules -/
section
variable {α β : Type} {δ δ' δ1 δ2 : DS} {p q p1 p2 p' : Pn} {Φ : Out α → Pn → Prop} {Θ : Out β → Pn → Prop} {Ψ : Fl → Pn → Prop} {Λ : Out D → Pn → Prop} {Ξ : Out (List D) → Pn → Prop} {l : Nums} {x : Str} {v : Int} {i : Nat}
end
--STEPS
section
variable {α β : Type} {δ δ' δ1 δ2 : DS} {p q p1 p2 p' : Pn} {Φ : Out α → Pn → Prop} {Θ : Out β → Pn → Prop} {Ψ : Fl → Pn → Prop} {Λ : Out D → Pn → Prop} {Ξ : Out (List D) → Pn → Prop} {l : Nums} {x : Str} {v : Int} {i : Nat}







end
end ME

/-! Rules: [*o, ..] of an own object that walks over a dict. -/
namespace ME
open PySem
section
variable {α β : Type} {δ δ' δ1 δ2 : DS} {p q p1 p2 p' : Pn} {Φ : Out α → Pn → Prop} {Θ : Out β → Pn → Prop} {Ψ : Fl → Pn → Prop} {Λ : Out D → Pn → Prop} {Ξ : Out (List D) → Pn → Prop} {l : Nums} {x : Str} {v : Int} {i : Nat}
noncomputable def uKD (tblD : List (Nat × Nat)) (tbl : OTab) (δ : DS) (ra : AX) (d : D) : M (List D) := match d with
  | .tup l => (ra δ).bnd fun ys => M.ret (l ++ ys)
  | .lst l => (ra δ).bnd fun ys => M.ret (l ++ ys)
  | .obj c fs => match tblD.lookup c, tbl.lookup c with
    | some kf, some mf => match fs[kf]? with
      | some (.dct kvs) => ((mf [.obj c fs]).calm).bnd fun d => match d with
        | .int n => if decide (0 ≤ n) && decide (n ≤ 1000) && decide (kvs.length ≤ 1000) then (ra δ).bnd fun ys => M.ret ((kvs.map fun kv => keyD kv.1) ++ ys) else M.stuck
        | _ => M.stuck
      | _ => M.stuck
    | _, _ => M.stuck
  | _ => M.stuck
noncomputable def kSD (δ : DS) (ra : AX) (l : List D) (Ξ : Out (List D) → Pn → Prop) : Out D → Pn → Prop
  | .ok (.int n), p => 0 ≤ n ∧ n ≤ 1000 ∧ wm (ra δ) p (kk (fun ys => M.ret (l ++ ys)) Ξ)
  | _, _ => False
end

section
variable {α β : Type} {δ δ' δ1 δ2 : DS} {p q p1 p2 p' : Pn} {Φ : Out α → Pn → Prop} {Θ : Out β → Pn → Prop} {Ψ : Fl → Pn → Prop} {Λ : Out D → Pn → Prop} {Ξ : Out (List D) → Pn → Prop} {l : Nums} {x : Str} {v : Int} {i : Nat}
/-! x[k] += e -/
noncomputable def kAg (f : Int → Int → Int) (i : Nat) (l : Nums) (x : Str) (δ : DS) (Ψ : Fl → Pn → Prop) : Out D → Pn → Prop
  | .ok (.int b), p => (dctS l).length < 16777216 ∧ Ψ (.nx (δ.set i (some (.md (dctS (putN l x (f (vOf l x) b))))))) p
  | .ok _, _ => False
  | .ex c fs, p => Ψ (.er c fs δ) p
noncomputable def kAk (f : Int → Int → Int) (i : Nat) (l : Nums) (ev : EX) (δ : DS) (Ψ : Fl → Pn → Prop) : Out D → Pn → Prop
  | .ok (.str x), p => x ∈ l.map (·.1) ∧ wm (ev δ) p (kAg f i l x δ Ψ)
  | .ok _, _ => False
  | .ex c fs, p => Ψ (.er c fs δ) p
/-! a dict comprehension whose keys may be told twice -/
noncomputable def foldP (f : Str → Int) : List Str → Nums → Nums
  | [], l => l
  | x :: r, l => foldP f r (putN l x (f x))
end
--STEPS
section
variable {α β : Type} {δ δ' δ1 δ2 : DS} {p q p1 p2 p' : Pn} {Φ : Out α → Pn → Prop} {Θ : Out β → Pn → Prop} {Ψ : Fl → Pn → Prop} {Λ : Out D → Pn → Prop} {Ξ : Out (List D) → Pn → Prop} {l : Nums} {x : Str} {v : Int} {i : Nat}






end
end ME

/-! Rules: == of sequences that are surely equal, x.pop(k) of a dict, x op= e and x <= y that may raise. -/
namespace ME
open PySem
section
variable {α β : Type} {δ δ' δ1 δ2 : DS} {p q p1 p2 p' : Pn} {Φ : Out α → Pn → Prop} {Θ : Out β → Pn → Prop} {Ψ : Fl → Pn → Prop} {Λ : Out D → Pn → Prop} {Ξ : Out (List D) → Pn → Prop} {l : Nums} {x : Str} {v : Int} {i : Nat}
theorem d_deqL {neg : Bool} {tbl : OTab} {o : D → D → M D} {l r : List D} (e : eqDD tbl p 4 (.lst l) (.lst r) = true) (h : Λ (.ok (.bl (!neg))) p) : wm (dDeq neg tbl o (.lst l) (.lst r)) p Λ := ⟨_, _, by unfold dDeq; dsimp only; rw [e, if_pos rfl], h⟩
noncomputable instance {g : GXs} {ds : List D} {δ δ' : DS} [e : gVs g ds δ δ'] : gV (gL g) (.lst ds) δ δ' := ⟨e.eq⟩
/-! x.pop(k) -/
noncomputable def kPo (i : Nat) (l : Nums) (δ : DS) (Ψ : Fl → Pn → Prop) : Out D → Pn → Prop
  | .ok (.str x), p => x ∈ l.map (·.1) ∧ Ψ (.nx (δ.set i (some (.md (dctS (l.filter fun e => !decide (e.1 = x))))))) p
  | .ok _, _ => False
  | .ex c fs, p => Ψ (.er c fs δ) p
/-! x op= e -/
noncomputable def kAx (i : Nat) (δ : DS) (Ψ : Fl → Pn → Prop) : Out D → Pn → Prop
  | .ok d, p => Ψ (.nx (δ.set i (some (.d d)))) p
  | .ex c fs, p => Ψ (.er c fs δ) p
noncomputable def kAy (i : Nat) (o : D → D → M D) (x : D) (δ : DS) (Ψ : Fl → Pn → Prop) : Out D → Pn → Prop
  | .ok y, p => wm (o x y) p (kAx i δ Ψ)
  | .ex c fs, p => Ψ (.er c fs δ) p
/-! x <= y -/
/-! a comprehension that draws -/
noncomputable def kI1 (I : D → Pn → Prop) : Out D → Pn → Prop := fun o p => ∃ d, o = .ok d ∧ I d p
end
--STEPS
section
variable {α β : Type} {δ δ' δ1 δ2 : DS} {p q p1 p2 p' : Pn} {Φ : Out α → Pn → Prop} {Θ : Out β → Pn → Prop} {Ψ : Fl → Pn → Prop} {Λ : Out D → Pn → Prop} {Ξ : Out (List D) → Pn → Prop} {l : Nums} {x : Str} {v : Int} {i : Nat}





end
end ME

/-! Rules: try, x <= y of texts, a sign in a text, int of a text, x[i] of a text. -/
namespace ME
open PySem
section
variable {α β : Type} {δ δ' δ1 δ2 : DS} {p q p1 p2 p' : Pn} {Ψ : Fl → Pn → Prop} {Λ : Out D → Pn → Prop} {i j : Nat}
noncomputable def kTry (T : IsT) (ci i j : Nat) (Ψ : Fl → Pn → Prop) : Fl → Pn → Prop
  | .er c fs δ', p => T.xs.contains c = true ∧ i < δ'.length ∧ (if T.sub c ci = true then Ψ (.nx ((δ'.set j (some (.d (.exc c fs)))).set i none)) p else Ψ (.er c fs δ') p)
  | .nx δ, p => Ψ (.nx δ) p
  | .rt d, p => Ψ (.rt d) p
  | .bk δ, p => Ψ (.bk δ) p
  | .ct δ, p => Ψ (.ct δ) p
theorem s_try {T : IsT} {ci : Nat} {b : SX} (h : ws b δ p (kTry T ci i j Ψ)) : ws (sTry T ci i j b) δ p Ψ := by
  obtain ⟨f, p', h1, h2⟩ := h
  unfold ws sTry
  rw [h1]
  cases f with
  | er c fs δ' =>
    obtain ⟨a, b, c⟩ := h2
    dsimp only
    rw [a, decide_eq_true b]
    simp only [Bool.and_self, if_true]
    split at c
    · rename_i hs
      rw [if_pos hs]
      exact ⟨_, _, rfl, c⟩
    · rename_i hs
      rw [if_neg hs]
      exact ⟨_, _, rfl, c⟩
  | _ => exact ⟨_, _, rfl, h2⟩
noncomputable instance {T : IsT} {ci : Nat} {b : SX} : Step (ws (sTry T ci i j b) δ p Ψ) (ws b δ p (kTry T ci i j Ψ)) := ⟨s_try⟩
noncomputable instance {T : IsT} {ci : Nat} {d : D} : Step (kTry T ci i j Ψ (.rt d) p) (Ψ (.rt d) p) := ⟨fun h => h⟩
noncomputable instance {T : IsT} {ci : Nat} : Step (kTry T ci i j Ψ (.nx δ) p) (Ψ (.nx δ) p) := ⟨fun h => h⟩
theorem d_leS {a b : Str} (h : Λ (.ok (.bl (!ltS b a))) p) : wm (dLeS (.str a) (.str b)) p Λ := by
  refine ⟨_, _, rfl, ?_⟩
  have e : ltS b a = decide (b.cps.toList < a.cps.toList) := by rw [Bool.eq_iff_iff, ltS_iff]; simp
  rw [← e]
  exact h
theorem d_inSS {neg : Bool} {c : Nat} {w : Str} (h : Λ (.ok (.bl (neg ^^ decide (c ∈ w.cps.toList)))) p) : wm (dInS neg (.str ⟨#[c]⟩) (.str w)) p Λ := by
  refine ⟨.ok (.bl (neg ^^ !(Builtin.Str.occurrences w ⟨#[c]⟩ 0 w.length 1).isEmpty)), _, rfl, ?_⟩
  rw [PySem.StrLaws.found_one w c]
  exact h
noncomputable instance {a b : Str} : Step (wm (dLeS (.str a) (.str b)) p Λ) (Λ (.ok (.bl (!ltS b a))) p) := ⟨d_leS⟩
noncomputable instance {neg : Bool} {c : Nat} {w : Str} : Step (wm (dInS neg (.str ⟨#[c]⟩) (.str w)) p Λ) (Λ (.ok (.bl (neg ^^ decide (c ∈ w.cps.toList)))) p) := ⟨d_inSS⟩
end
end ME

namespace Lw
open PySem PySem.Spec PyProof.Rows L2 ME

noncomputable def top (i : Nat) : Stmt := PySem.Challenge.pw_emptypulls_k03_whole_rates_reckoned_and.main.body.getD i (.Pass ⟨0, 0, 0, 0⟩)
/-! ### the classes -/
noncomputable def clsN : List Str := ["PullError", "BadInput", "BadRate", "BadText", "Rate"]
noncomputable def nmL : List (List Str) := [[], [], ["part"], ["line", "word"], ["parts"]]
noncomputable def lamQ : List Str := [(("_law_two_right" : Str) ++ ".<locals>.") ++ "<lambda>"]
noncomputable def sg (K : PySem.W.Frag) (cs : List Addr) (tb : List (Addr × Addr)) : Sg := ⟨K, fun c => nmL.getD c [], fun c => cs.getD c 0, (tb.map (·.2)).zip lamQ⟩
noncomputable def upL : List (List Nat) := [[0], [1, 0], [2, 1, 0], [3, 1, 0], [4]]
noncomputable def isT : IsT := ⟨[4], [0, 1, 2, 3], ["int", "bool"], fun c d => (upL.getD c []).contains d, fun c n => if ([4] : List Nat).contains c then n == "object" else (["ValueError", "Exception", "BaseException", "object"] : List String).contains n⟩
noncomputable def blts : List Str := ["abs", "bool", "int", "isinstance", "len", "list", "range", "repr", "str", "tuple"]
noncomputable def ex0 : List Nat := [0, 1]
noncomputable def cnL : List (Str × Cn) := []
/-! ### what is known of the top -/
structure Tp (K : PySem.W.Frag) (mg : Str → Option Value) (cs : List Addr) (tb : List (Addr × Addr)) : Prop where
  bn : ∀ x, blts.contains x = true → mg x = none
  cm : ∀ (c : Nat) (x : Str), ixB clsN c x = true → mg x = some (.ref (cs.getD c 0))
  cn : ∀ (i : Nat) (x : Str) (c : Cn), cnL[i]? = some (x, c) → CnAt mg x c
  xc : ∀ c, isT.xs.contains c = true → xcB K (cs.getD c 0) = true
  ex0 : ∀ c, ex0.contains c = true → PySem.W.excIn K (cs.getD c 0) [.type "ValueError", .type "Exception", .type "BaseException", .type "object"] "ValueError.__new__" = true
  noa : ∀ c, isT.xs.contains c = true → noAt K (cs.getD c 0) (nmL.getD c []) = true
  isf : IsF (sg K cs tb) isT
  tbs : tbsB tb lamQ = true
  b0 : (putB K (sg K cs tb) 4 0 "parts") = true
  b1 : ((PySem.W.makesIn K (cs.getD 4 0) && PySem.W.keepIn K (.ref (cs.getD 4 0)))) = true
  b2 : (fldO K (sg K cs tb) "parts" [(4, 0)]) = true
  b3 : (nfB K (sg K cs tb) [4] [4]) = true
  b4 : (neB K (sg K cs tb) [4]) = true
  b5 : (bopB K (sg K cs tb) [4] [4] "add") = true
  b6 : (bopB K (sg K cs tb) [4] [4] "sub") = true
  b7 : (bopB K (sg K cs tb) [4] [4] "mul") = true
  b8 : (augB K (sg K cs tb) [4] "add") = true
  b9 : (augB K (sg K cs tb) [4] "sub") = true
  b10 : (augB K (sg K cs tb) [4] "mul") = true
  b11 : (exmB K (sg K cs tb).ca isT 0) = true
  b12 : (fldB K (sg K cs tb) "part" [(2, 0)]) = true
  b13 : (clsB K (cs.getD 4 0)) = true
  b14 : (rmBA K (sg K cs tb) [4]) = true
  b15 : (rmBS K (sg K cs tb) [4]) = true
  b16 : (rmB K (sg K cs tb) [4]) = true
  b17 : (sepB K (sg K cs tb) [4]) = true
  xi2 : XinAt K (cs.getD 2 0) "BadRate.__init__" (inClass (top 8) 0)
  d_law_pen : DefW K mg "_law_pen" (top 16) []
  d_law_draw : DefW K mg "_law_draw" (top 17) []
  d_law_pick : DefW K mg "_law_pick" (top 18) []
  d_law_pair : DefW K mg "_law_pair" (top 19) []
  dis_integer : DefW K mg "is_integer" (top 2) []
  dcommon_divisor : DefW K mg "common_divisor" (top 4) []
  dlowest : DefW K mg "lowest" (top 11) []
  wRate___init__ : MemW K (cs.getD 4 0) "__init__" "Rate.__init__" (inClass (top 13) 0) [.int 1]
  wRate_bottom : PrW K (cs.getD 4 0) "bottom" "Rate.bottom" (inClass (top 13) 2)
  wRate_top : PrW K (cs.getD 4 0) "top" "Rate.top" (inClass (top 13) 1)
  dparts_of : DefW K mg "parts_of" (top 12) []
  wRate___eq__ : MemW K (cs.getD 4 0) "__eq__" "Rate.__eq__" (inClass (top 13) 15) []
  d_law_is : DefW K mg "_law_is" (top 20) []
  wRate___add__ : MemW K (cs.getD 4 0) "__add__" "Rate.__add__" (inClass (top 13) 7) []
  wRate___neg__ : MemW K (cs.getD 4 0) "__neg__" "Rate.__neg__" (inClass (top 13) 13) []
  wRate___sub__ : MemW K (cs.getD 4 0) "__sub__" "Rate.__sub__" (inClass (top 13) 9) []
  wRate___mul__ : MemW K (cs.getD 4 0) "__mul__" "Rate.__mul__" (inClass (top 13) 11) []
  d_law_bound : DefW K mg "_law_bound" (top 22) []
  wRate___ge__ : MemW K (cs.getD 4 0) "__ge__" "Rate.__ge__" (inClass (top 13) 19) []
  wRate___gt__ : MemW K (cs.getD 4 0) "__gt__" "Rate.__gt__" (inClass (top 13) 18) []
  wRate___le__ : MemW K (cs.getD 4 0) "__le__" "Rate.__le__" (inClass (top 13) 17) []
  wRate___lt__ : MemW K (cs.getD 4 0) "__lt__" "Rate.__lt__" (inClass (top 13) 16) []
  d_law_heard : DefW K mg "_law_heard" (top 21) []
  wRate_over : MemW K (cs.getD 4 0) "over" "Rate.over" (inClass (top 13) 6) []
  d_law_two_right : DefC K mg "_law_two_right" (top 23) [] (tb.getD 0 (0, 0)).1
  wRate___radd__ : MemW K (cs.getD 4 0) "__radd__" "Rate.__radd__" (inClass (top 13) 8) []
  wRate___rsub__ : MemW K (cs.getD 4 0) "__rsub__" "Rate.__rsub__" (inClass (top 13) 10) []
  wRate___rmul__ : MemW K (cs.getD 4 0) "__rmul__" "Rate.__rmul__" (inClass (top 13) 12) []
  d_law_integers_right : DefW K mg "_law_integers_right" (top 24) []
  wRate_total : SmW K (cs.getD 4 0) "total" "Rate.total" (inClass (top 13) 4) []
  d_law_are_rates : DefW K mg "_law_are_rates" (top 25) []
  d_law_three_right : DefW K mg "_law_three_right" (top 26) []
  wRate___str__ : MemW K (cs.getD 4 0) "__str__" "Rate.__str__" (inClass (top 13) 20) []
  dlaw : DefW K mg "law" (top 27) []
section
variable {P : Program} {w : World} {K : PySem.W.Frag} {mg : Str → Option Value} {base : Heap} {cs : List Addr} {tb : List (Addr × Addr)}
noncomputable def itL : List (Nat × Nat) := []
theorem itab (T : Tp K mg cs tb) : ∀ c kf, itL.lookup c = some kf → IterT P w K mg base (sg K cs tb) 1 c kf := by
  intro c kf h; cases h
noncomputable def itD : List (Nat × Nat) := []
theorem itabD (T : Tp K mg cs tb) : ∀ c kf, itD.lookup c = some kf → IterD P w K mg base (sg K cs tb) 1 c kf := by
  intro c kf h; cases h
theorem xt_2_1 (T : Tp K mg cs tb) : XT P w K mg base (sg K cs tb) 2 "BadRate" 1 [] [] [.p 0] :=
  xt1 T.xi2 (T.xc 2 (by kernel_rfl)) (T.noa 2 (by kernel_rfl)) (T.cm 2 _ (by kernel_rfl)) rfl (by kernel_rfl) rfl (by kernel_rfl) (fun _ => rfl) (fun s kV doc pm an cdv ct us ws h1 h2 => match us, ws, h1, h2 with | [_, _], [], _, _ => .of_eq (by kernel_rfl)) (by kernel_rfl)
/-! ### _law_draw -/
noncomputable def N_law_draw : List Str := ["_law_pen_here", "_law_many", "_law_digit", "_law_at", "_law_cell", "_law_great", "_law_mixed"]
noncomputable def b_law_draw : SX := (sSeq (sIf (mTest (mBin (dCmpI fun i j => decide (j < i)) (mBin dIxP (mVar 0) (mC (.int 2))) (mC (.int 0)))) (sSeq (sSet 2 (mBin dMod (mCB dInt1 (mCons (mBin dIxP (mVar 0) (mC (.int 2))) mNil)) (mVar 1))) (sSeq (sPen 0 2 (mBin dDivW (mCB dInt1 (mCons (mBin dIxP (mVar 0) (mC (.int 2))) mNil)) (mVar 1))) (sRet (mVar 2)))) sNx) (sSeq (sSet 3 (mBin dIxP (mVar 0) (mC (.int 1)))) (sSeq (sPen 0 1 (mBin dAdd (mVar 3) (mC (.int 1)))) (sSeq (sSet 4 (mBin dAdd (mBin dMulT (mC (.int 34457)) (mVar 3)) (mC (.int 1721)))) (sSeq (sIf (mTest (mBin (dEq true) (mBin dIxP (mVar 0) (mC (.int 0))) (mLst mNil))) (sSet 4 (mBin dIx (mBin dIxP (mVar 0) (mC (.int 0))) (mBin dMod (mCB dInt1 (mCons (mVar 3) mNil)) (mCB dLen (mCons (mBin dIxP (mVar 0) (mC (.int 0))) mNil))))) sNx) (sSeq (sIf (mAndT (mTest (mBin (dCmpI fun i j => decide (i < j)) (mVar 3) (mCB dLen (mCons (mBin dIxP (mVar 0) (mC (.int 0))) mNil)))) (mTest (mBin (dCmpI fun i j => decide (j ≤ i)) (mCB dAbs (mCons (mVar 4) mNil)) (mBin dPow (mC (.int 10)) (mC (.int 18)))))) (sSeq (sSet 5 (mBin dAdd (mBin dMulT (mC (.int 2)) (mBin dSub (mCB dAbs (mCons (mVar 4) mNil)) (mBin dPow (mC (.int 10)) (mC (.int 18))))) (mCB dInt1 (mCons (mBin (dCmpI fun i j => decide (i < j)) (mVar 4) (mC (.int 0))) mNil)))) (sSeq (sPen 0 2 (mBin dDivW (mCB dInt1 (mCons (mVar 5) mNil)) (mVar 1))) (sRet (mBin dMod (mCB dInt1 (mCons (mVar 5) mNil)) (mVar 1))))) sNx) (sSeq (sSet 6 (mBin dMod (mCB dInt1 (mCons (mBin dPow (mBin dAdd (mBin dAdd (mBin dMod (mCB dInt1 (mCons (mVar 4) mNil)) (mC (.int 2147483549))) (mBin dMulT (mC (.int 47903)) (mVar 3))) (mC (.int 491))) (mC (.int 5))) mNil)) (mC (.int 2147483629)))) (sSeq (sSet 6 (mBin dMod (mCB dInt1 (mCons (mBin dPow (mBin dAdd (mBin dAdd (mBin dMulT (mVar 6) (mBin dAdd (mBin dMulT (mC (.int 2)) (mVar 3)) (mC (.int 179)))) (mBin dMulT (mBin dMulT (mC (.int 56099)) (mVar 3)) (mVar 3))) (mC (.int 97))) (mC (.int 3))) mNil)) (mC (.int 2147483587)))) (sRet (mBin dMod (mCB dInt1 (mCons (mBin dDivW (mVar 6) (mC (.int 32))) mNil)) (mVar 1)))))))))))
noncomputable def m_law_draw : List D → M D := fnM 2 7 b_law_draw
theorem ok_law_draw (hS : ∃ o, base.get? sysModules = some o) (hTB : ∀ p ∈ tb, LamX.TabB base mg p.1 p.2) (T : Tp K mg cs tb) : FnW P w K mg base (sg K cs tb) 1 "_law_draw" (top 17) [] ["_law_pen_here", "_law_many"] m_law_draw := by
  obtain ⟨f, fd, F, hm, hk⟩ := T.d_law_draw
  refine ⟨f, fd, fn_okM (k := 0) (N := N_law_draw) (S := sg K cs tb) (body := b_law_draw) F.g (scpB_of (by kernel_rfl)) fun cdv A outer s pen G0 H E hcv hg hr => ?_, F, hm, hk⟩
  have B := @Bx.def P w K mg base N_law_draw "_law_draw" (defScope (top 17)) f cdv A outer s H E (sg K cs tb) pen G0 H 0 hg hr rfl hS
  exact (mss_cons (ms_if (mt_cm c_gt (me_ixP (me_v (i := 0) (by kernel_rfl)) me_int fun _ _ => rfl) me_int) (mss_cons (ms_st (i := 2) (by kernel_rfl) (by kernel_rfl) (me_mod (me_b b_int (T.bn _ (by kernel_rfl)) (by kernel_rfl) (by kernel_rfl) (ma_cons (me_ixP (me_v (i := 0) (by kernel_rfl)) me_int fun _ _ => rfl) ma_nil)) (me_v (i := 1) (by kernel_rfl)))) (mss_cons (ms_pen (i := 0) (ixB_of (by kernel_rfl)) (visB_of (by kernel_rfl)) (me_fdv (me_b b_int (T.bn _ (by kernel_rfl)) (by kernel_rfl) (by kernel_rfl) (ma_cons (me_ixP (me_v (i := 0) (by kernel_rfl)) me_int fun _ _ => rfl) ma_nil)) (me_v (i := 1) (by kernel_rfl)))) (mss_one (ms_ret (me_v (i := 2) (by kernel_rfl)))))) mss_nil) (mss_cons (ms_st (i := 3) (by kernel_rfl) (by kernel_rfl) (me_ixP (me_v (i := 0) (by kernel_rfl)) me_int fun _ _ => rfl)) (mss_cons (ms_pen (i := 0) (ixB_of (by kernel_rfl)) (visB_of (by kernel_rfl)) (me_add B (me_v (i := 3) (by kernel_rfl)) me_int)) (mss_cons (ms_st (i := 4) (by kernel_rfl) (by kernel_rfl) (me_add B (me_mul me_int (me_v (i := 3) (by kernel_rfl))) me_int)) (mss_cons (ms_if (mt_cm (c_ne B) (me_ixP (me_v (i := 0) (by kernel_rfl)) me_int fun _ _ => rfl) (me_lst ma_nil)) (mss_one (ms_st (i := 4) (by kernel_rfl) (by kernel_rfl) (me_ix B.hK (me_ixP (me_v (i := 0) (by kernel_rfl)) me_int fun _ _ => rfl) (me_mod (me_b b_int (T.bn _ (by kernel_rfl)) (by kernel_rfl) (by kernel_rfl) (ma_cons (me_v (i := 3) (by kernel_rfl)) ma_nil)) (me_b (b_len B) (T.bn _ (by kernel_rfl)) (by kernel_rfl) (by kernel_rfl) (ma_cons (me_ixP (me_v (i := 0) (by kernel_rfl)) me_int fun _ _ => rfl) ma_nil))) fun _ _ => rfl))) mss_nil) (mss_cons (ms_if (PW.pt (mw_and (mt_cm c_lt (me_v (i := 3) (by kernel_rfl)) (me_b (b_len B) (T.bn _ (by kernel_rfl)) (by kernel_rfl) (by kernel_rfl) (ma_cons (me_ixP (me_v (i := 0) (by kernel_rfl)) me_int fun _ _ => rfl) ma_nil))) (mw_and1 (mt_cm c_ge (me_b b_abs (T.bn _ (by kernel_rfl)) (by kernel_rfl) (by kernel_rfl) (ma_cons (me_v (i := 4) (by kernel_rfl)) ma_nil)) (me_pow me_int me_int))))) (mss_cons (ms_st (i := 5) (by kernel_rfl) (by kernel_rfl) (me_add B (me_mul me_int (me_sub (me_b b_abs (T.bn _ (by kernel_rfl)) (by kernel_rfl) (by kernel_rfl) (ma_cons (me_v (i := 4) (by kernel_rfl)) ma_nil)) (me_pow me_int me_int))) (me_b b_int (T.bn _ (by kernel_rfl)) (by kernel_rfl) (by kernel_rfl) (ma_cons (me_cm c_lt (me_v (i := 4) (by kernel_rfl)) me_int) ma_nil)))) (mss_cons (ms_pen (i := 0) (ixB_of (by kernel_rfl)) (visB_of (by kernel_rfl)) (me_fdv (me_b b_int (T.bn _ (by kernel_rfl)) (by kernel_rfl) (by kernel_rfl) (ma_cons (me_v (i := 5) (by kernel_rfl)) ma_nil)) (me_v (i := 1) (by kernel_rfl)))) (mss_one (ms_ret (me_mod (me_b b_int (T.bn _ (by kernel_rfl)) (by kernel_rfl) (by kernel_rfl) (ma_cons (me_v (i := 5) (by kernel_rfl)) ma_nil)) (me_v (i := 1) (by kernel_rfl))))))) mss_nil) (mss_cons (ms_st (i := 6) (by kernel_rfl) (by kernel_rfl) (me_mod (me_b b_int (T.bn _ (by kernel_rfl)) (by kernel_rfl) (by kernel_rfl) (ma_cons (me_pow (me_add B (me_add B (me_mod (me_b b_int (T.bn _ (by kernel_rfl)) (by kernel_rfl) (by kernel_rfl) (ma_cons (me_v (i := 4) (by kernel_rfl)) ma_nil)) me_int) (me_mul me_int (me_v (i := 3) (by kernel_rfl)))) me_int) me_int) ma_nil)) me_int)) (mss_cons (ms_st (i := 6) (by kernel_rfl) (by kernel_rfl) (me_mod (me_b b_int (T.bn _ (by kernel_rfl)) (by kernel_rfl) (by kernel_rfl) (ma_cons (me_pow (me_add B (me_add B (me_mul (me_v (i := 6) (by kernel_rfl)) (me_add B (me_mul me_int (me_v (i := 3) (by kernel_rfl))) me_int)) (me_mul (me_mul me_int (me_v (i := 3) (by kernel_rfl))) (me_v (i := 3) (by kernel_rfl)))) me_int) me_int) ma_nil)) me_int)) (mss_one (ms_ret (me_mod (me_b b_int (T.bn _ (by kernel_rfl)) (by kernel_rfl) (by kernel_rfl) (ma_cons (me_fdv (me_v (i := 6) (by kernel_rfl)) me_int) ma_nil)) (me_v (i := 1) (by kernel_rfl)))))))))))))
/-! ### _law_pick -/
noncomputable def N_law_pick : List Str := ["_law_pen_here", "_law_row_so"]
noncomputable def b_law_pick : SX := (sRet (mBin dIx (mVar 1) (mCallK m_law_draw 2 0 [] [.p 0, .p 1] (mCons (mVar 0) (mCons (mCB dLen (mCons (mVar 1) mNil)) mNil)) mNil)))
noncomputable def m_law_pick : List D → M D := fnM 2 2 b_law_pick
theorem ok_law_pick (hS : ∃ o, base.get? sysModules = some o) (hTB : ∀ p ∈ tb, LamX.TabB base mg p.1 p.2) (T : Tp K mg cs tb) : FnW P w K mg base (sg K cs tb) 2 "_law_pick" (top 18) [] ["_law_pen_here", "_law_row_so"] m_law_pick := by
  obtain ⟨f, fd, F, hm, hk⟩ := T.d_law_pick
  have ok_law_draw := ok_law_draw (P := P) (w := w) (base := base) hS hTB T
  refine ⟨f, fd, fn_okM (k := 1) (N := N_law_pick) (S := sg K cs tb) (body := b_law_pick) F.g (scpB_of (by kernel_rfl)) fun cdv A outer s pen G0 H E hcv hg hr => ?_, F, hm, hk⟩
  have B := @Bx.def P w K mg base N_law_pick "_law_pick" (defScope (top 18)) f cdv A outer s H E (sg K cs tb) pen G0 H 1 hg hr rfl hS
  exact (mss_one (ms_ret (me_ix B.hK (me_v (i := 1) (by kernel_rfl)) (me_call B (k := 1) (ks := []) (l := [.p 0, .p 1]) (FnW.t (ks := []) (dvs := []) (l := [.p 0, .p 1]) ok_law_draw (fun f fd F => bdW0 F (fun s kV doc pm an cdv ct us ws h1 h2 => match us, ws, h1, h2 with | [_, _], [], _, _ => .of_eq (by kernel_rfl))) (by kernel_rfl)) (by kernel_rfl) (by kernel_rfl) (by kernel_rfl) (pak_pos (ma_cons (me_v (i := 0) (by kernel_rfl)) (ma_cons (me_b (b_len B) (T.bn _ (by kernel_rfl)) (by kernel_rfl) (by kernel_rfl) (ma_cons (me_v (i := 1) (by kernel_rfl)) ma_nil)) ma_nil)))) fun _ _ => rfl)))
/-! ### _law_pair -/
noncomputable def N_law_pair : List Str := ["_law_pen_here", "_law_high", "_law_low"]
noncomputable def b_law_pair : SX := (sSeq (sSet 1 (mCallK m_law_draw 2 0 [] [.p 0, .p 1] (mCons (mVar 0) (mCons (mCallK m_law_pick 2 0 [] [.p 0, .p 1] (mCons (mVar 0) (mCons (mLst (mCons (mC (.int 4)) (mCons (mC (.int 30)) (mCons (mBin dPow (mC (.int 10)) (mC (.int 6))) (mCons (mBin dPow (mC (.int 10)) (mC (.int 18))) mNil))))) mNil)) mNil) mNil)) mNil)) (sSeq (sSet 2 (mBin dAdd (mC (.int 1)) (mCallK m_law_draw 2 0 [] [.p 0, .p 1] (mCons (mVar 0) (mCons (mCallK m_law_pick 2 0 [] [.p 0, .p 1] (mCons (mVar 0) (mCons (mLst (mCons (mC (.int 1)) (mCons (mC (.int 6)) (mCons (mC (.int 99)) (mCons (mBin dPow (mC (.int 10)) (mC (.int 12))) mNil))))) mNil)) mNil) mNil)) mNil))) (sRet (mTup (mCons (mIf (mTest (mBin (dEq false) (mCallK m_law_draw 2 0 [] [.p 0, .p 1] (mCons (mVar 0) (mCons (mC (.int 2)) mNil)) mNil) (mC (.int 0)))) (mVar 1) (mBin dSub (mC (.int 0)) (mVar 1))) (mCons (mVar 2) mNil))))))
noncomputable def m_law_pair : List D → M D := fnM 1 3 b_law_pair
theorem ok_law_pair (hS : ∃ o, base.get? sysModules = some o) (hTB : ∀ p ∈ tb, LamX.TabB base mg p.1 p.2) (T : Tp K mg cs tb) : FnW P w K mg base (sg K cs tb) 3 "_law_pair" (top 19) [] ["_law_pen_here"] m_law_pair := by
  obtain ⟨f, fd, F, hm, hk⟩ := T.d_law_pair
  have ok_law_draw := ok_law_draw (P := P) (w := w) (base := base) hS hTB T
  have ok_law_pick := ok_law_pick (P := P) (w := w) (base := base) hS hTB T
  refine ⟨f, fd, fn_okM (k := 2) (N := N_law_pair) (S := sg K cs tb) (body := b_law_pair) F.g (scpB_of (by kernel_rfl)) fun cdv A outer s pen G0 H E hcv hg hr => ?_, F, hm, hk⟩
  have B := @Bx.def P w K mg base N_law_pair "_law_pair" (defScope (top 19)) f cdv A outer s H E (sg K cs tb) pen G0 H 2 hg hr rfl hS
  exact (mss_cons (ms_st (i := 1) (by kernel_rfl) (by kernel_rfl) (me_call B (k := 1) (ks := []) (l := [.p 0, .p 1]) (FnW.t (ks := []) (dvs := []) (l := [.p 0, .p 1]) ok_law_draw (fun f fd F => bdW0 F (fun s kV doc pm an cdv ct us ws h1 h2 => match us, ws, h1, h2 with | [_, _], [], _, _ => .of_eq (by kernel_rfl))) (by kernel_rfl)) (by kernel_rfl) (by kernel_rfl) (by kernel_rfl) (pak_pos (ma_cons (me_v (i := 0) (by kernel_rfl)) (ma_cons (me_call B (k := 2) (ks := []) (l := [.p 0, .p 1]) (FnW.t (ks := []) (dvs := []) (l := [.p 0, .p 1]) ok_law_pick (fun f fd F => bdW0 F (fun s kV doc pm an cdv ct us ws h1 h2 => match us, ws, h1, h2 with | [_, _], [], _, _ => .of_eq (by kernel_rfl))) (by kernel_rfl)) (by kernel_rfl) (by kernel_rfl) (by kernel_rfl) (pak_pos (ma_cons (me_v (i := 0) (by kernel_rfl)) (ma_cons (me_lst (ma_cons me_int (ma_cons me_int (ma_cons (me_pow me_int me_int) (ma_cons (me_pow me_int me_int) ma_nil))))) ma_nil)))) ma_nil))))) (mss_cons (ms_st (i := 2) (by kernel_rfl) (by kernel_rfl) (me_add B me_int (me_call B (k := 1) (ks := []) (l := [.p 0, .p 1]) (FnW.t (ks := []) (dvs := []) (l := [.p 0, .p 1]) ok_law_draw (fun f fd F => bdW0 F (fun s kV doc pm an cdv ct us ws h1 h2 => match us, ws, h1, h2 with | [_, _], [], _, _ => .of_eq (by kernel_rfl))) (by kernel_rfl)) (by kernel_rfl) (by kernel_rfl) (by kernel_rfl) (pak_pos (ma_cons (me_v (i := 0) (by kernel_rfl)) (ma_cons (me_call B (k := 2) (ks := []) (l := [.p 0, .p 1]) (FnW.t (ks := []) (dvs := []) (l := [.p 0, .p 1]) ok_law_pick (fun f fd F => bdW0 F (fun s kV doc pm an cdv ct us ws h1 h2 => match us, ws, h1, h2 with | [_, _], [], _, _ => .of_eq (by kernel_rfl))) (by kernel_rfl)) (by kernel_rfl) (by kernel_rfl) (by kernel_rfl) (pak_pos (ma_cons (me_v (i := 0) (by kernel_rfl)) (ma_cons (me_lst (ma_cons me_int (ma_cons me_int (ma_cons me_int (ma_cons (me_pow me_int me_int) ma_nil))))) ma_nil)))) ma_nil)))))) (mss_one (ms_ret (me_tup (ma_cons (me_if (mt_cm (c_eq B) (me_call B (k := 1) (ks := []) (l := [.p 0, .p 1]) (FnW.t (ks := []) (dvs := []) (l := [.p 0, .p 1]) ok_law_draw (fun f fd F => bdW0 F (fun s kV doc pm an cdv ct us ws h1 h2 => match us, ws, h1, h2 with | [_, _], [], _, _ => .of_eq (by kernel_rfl))) (by kernel_rfl)) (by kernel_rfl) (by kernel_rfl) (by kernel_rfl) (pak_pos (ma_cons (me_v (i := 0) (by kernel_rfl)) (ma_cons me_int ma_nil)))) me_int) (me_v (i := 1) (by kernel_rfl)) (me_sub me_int (me_v (i := 1) (by kernel_rfl)))) (ma_cons (me_v (i := 2) (by kernel_rfl)) ma_nil)))))))
/-! ### is_integer -/
noncomputable def Nis_integer : List Str := ["value"]
noncomputable def bis_integer : SX := (sRet (mAndV (mCB (dIsi isT) (mCons (mVar 0) (mCons (mC (.ty "int")) mNil))) (mNotV (mCB (dIsi isT) (mCons (mVar 0) (mCons (mC (.ty "bool")) mNil))))))
noncomputable def mis_integer : List D → M D := fnM 1 1 bis_integer
theorem okis_integer (hS : ∃ o, base.get? sysModules = some o) (hTB : ∀ p ∈ tb, LamX.TabB base mg p.1 p.2) (T : Tp K mg cs tb) : FnW P w K mg base (sg K cs tb) 1 "is_integer" (top 2) [] ["value"] mis_integer := by
  obtain ⟨f, fd, F, hm, hk⟩ := T.dis_integer
  refine ⟨f, fd, fn_okM (k := 0) (N := Nis_integer) (S := sg K cs tb) (body := bis_integer) F.g (scpB_of (by kernel_rfl)) fun cdv A outer s pen G0 H E hcv hg hr => ?_, F, hm, hk⟩
  have B := @Bx.def P w K mg base Nis_integer "is_integer" (defScope (top 2)) f cdv A outer s H E (sg K cs tb) pen G0 H 0 hg hr rfl hS
  exact (mss_one (ms_ret (me_and (me_b (b_isi B T.isf) (T.bn _ (by kernel_rfl)) (by kernel_rfl) (by kernel_rfl) (ma_cons (me_v (i := 0) (by kernel_rfl)) (ma_cons (me_tyn (t := "int") (T.bn _ (by kernel_rfl)) (by kernel_rfl) (by kernel_rfl) (by kernel_rfl)) ma_nil))) (me_one (me_not (me_b (b_isi B T.isf) (T.bn _ (by kernel_rfl)) (by kernel_rfl) (by kernel_rfl) (ma_cons (me_v (i := 0) (by kernel_rfl)) (ma_cons (me_tyn (t := "bool") (T.bn _ (by kernel_rfl)) (by kernel_rfl) (by kernel_rfl) (by kernel_rfl)) ma_nil))))))))
/-! ### common_divisor -/
noncomputable def Ncommon_divisor : List Str := ["one", "other", "high", "low"]
noncomputable def bcommon_divisor : SX := (sSeq (sPar2 2 3 (mCons (mVar 0) (mCons (mVar 1) mNil))) (sSeq (sWhile 1000 (mTest (mBin (dEq true) (mVar 3) (mC (.int 0)))) (sPar2 2 3 (mCons (mVar 3) (mCons (mBin dMod (mVar 2) (mVar 3)) mNil)))) (sRet (mVar 2))))
noncomputable def mcommon_divisor : List D → M D := fnM 2 4 bcommon_divisor
theorem okcommon_divisor (hS : ∃ o, base.get? sysModules = some o) (hTB : ∀ p ∈ tb, LamX.TabB base mg p.1 p.2) (T : Tp K mg cs tb) : FnW P w K mg base (sg K cs tb) 1 "common_divisor" (top 4) [] ["one", "other"] mcommon_divisor := by
  obtain ⟨f, fd, F, hm, hk⟩ := T.dcommon_divisor
  refine ⟨f, fd, fn_okM (k := 0) (N := Ncommon_divisor) (S := sg K cs tb) (body := bcommon_divisor) F.g (scpB_of (by kernel_rfl)) fun cdv A outer s pen G0 H E hcv hg hr => ?_, F, hm, hk⟩
  have B := @Bx.def P w K mg base Ncommon_divisor "common_divisor" (defScope (top 4)) f cdv A outer s H E (sg K cs tb) pen G0 H 0 hg hr rfl hS
  exact (mss_cons (ms_par2 (i := 2) (j := 3) B.calm (nodB_of (by kernel_rfl)) (ixB_of (by kernel_rfl)) (ixB_of (by kernel_rfl)) (by decide) (lclB_of (by kernel_rfl)) (lclB_of (by kernel_rfl)) (ma_cons (me_v (i := 0) (by kernel_rfl)) (ma_cons (me_v (i := 1) (by kernel_rfl)) ma_nil)) rfl) (mss_cons (ms_while (passes_of rfl) (mt_cm (c_ne B) (me_v (i := 3) (by kernel_rfl)) me_int) (mss_one (ms_par2 (i := 2) (j := 3) B.calm (nodB_of (by kernel_rfl)) (ixB_of (by kernel_rfl)) (ixB_of (by kernel_rfl)) (by decide) (lclB_of (by kernel_rfl)) (lclB_of (by kernel_rfl)) (ma_cons (me_v (i := 3) (by kernel_rfl)) (ma_cons (me_mod (me_v (i := 2) (by kernel_rfl)) (me_v (i := 3) (by kernel_rfl))) ma_nil)) rfl))) (mss_one (ms_ret (me_v (i := 2) (by kernel_rfl))))))
/-! ### lowest -/
noncomputable def Nlowest : List Str := ["top", "bottom", "size"]
noncomputable def blowest : SX := (sSeq (sSet 2 (mCallK mcommon_divisor 2 0 [] [.p 0, .p 1] (mCons (mCB dAbs (mCons (mVar 0) mNil)) (mCons (mCB dAbs (mCons (mVar 1) mNil)) mNil)) mNil)) (sSeq (sIf (mTest (mBin (dCmpI fun i j => decide (i < j)) (mVar 1) (mC (.int 0)))) (sRet (mTup (mCons (mBin dDivW (mUn dNeg (mVar 0)) (mVar 2)) (mCons (mBin dDivW (mUn dNeg (mVar 1)) (mVar 2)) mNil)))) sNx) (sRet (mTup (mCons (mBin dDivW (mVar 0) (mVar 2)) (mCons (mBin dDivW (mVar 1) (mVar 2)) mNil))))))
noncomputable def mlowest : List D → M D := fnM 2 3 blowest
theorem oklowest (hS : ∃ o, base.get? sysModules = some o) (hTB : ∀ p ∈ tb, LamX.TabB base mg p.1 p.2) (T : Tp K mg cs tb) : FnW P w K mg base (sg K cs tb) 2 "lowest" (top 11) [] ["top", "bottom"] mlowest := by
  obtain ⟨f, fd, F, hm, hk⟩ := T.dlowest
  have okcommon_divisor := okcommon_divisor (P := P) (w := w) (base := base) hS hTB T
  refine ⟨f, fd, fn_okM (k := 1) (N := Nlowest) (S := sg K cs tb) (body := blowest) F.g (scpB_of (by kernel_rfl)) fun cdv A outer s pen G0 H E hcv hg hr => ?_, F, hm, hk⟩
  have B := @Bx.def P w K mg base Nlowest "lowest" (defScope (top 11)) f cdv A outer s H E (sg K cs tb) pen G0 H 1 hg hr rfl hS
  exact (mss_cons (ms_st (i := 2) (by kernel_rfl) (by kernel_rfl) (me_call B (k := 1) (ks := []) (l := [.p 0, .p 1]) (FnW.t (ks := []) (dvs := []) (l := [.p 0, .p 1]) okcommon_divisor (fun f fd F => bdW0 F (fun s kV doc pm an cdv ct us ws h1 h2 => match us, ws, h1, h2 with | [_, _], [], _, _ => .of_eq (by kernel_rfl))) (by kernel_rfl)) (by kernel_rfl) (by kernel_rfl) (by kernel_rfl) (pak_pos (ma_cons (me_b b_abs (T.bn _ (by kernel_rfl)) (by kernel_rfl) (by kernel_rfl) (ma_cons (me_v (i := 0) (by kernel_rfl)) ma_nil)) (ma_cons (me_b b_abs (T.bn _ (by kernel_rfl)) (by kernel_rfl) (by kernel_rfl) (ma_cons (me_v (i := 1) (by kernel_rfl)) ma_nil)) ma_nil))))) (mss_cons (ms_if (mt_cm c_lt (me_v (i := 1) (by kernel_rfl)) me_int) (mss_one (ms_ret (me_tup (ma_cons (me_fdv (me_neg (me_v (i := 0) (by kernel_rfl))) (me_v (i := 2) (by kernel_rfl))) (ma_cons (me_fdv (me_neg (me_v (i := 1) (by kernel_rfl))) (me_v (i := 2) (by kernel_rfl))) ma_nil))))) mss_nil) (mss_one (ms_ret (me_tup (ma_cons (me_fdv (me_v (i := 0) (by kernel_rfl)) (me_v (i := 2) (by kernel_rfl))) (ma_cons (me_fdv (me_v (i := 1) (by kernel_rfl)) (me_v (i := 2) (by kernel_rfl))) ma_nil)))))))
/-! ### Rate___init__ -/
noncomputable def NRate___init__ : List Str := ["self", "top", "bottom"]
noncomputable def bRate___init__ : SX := (sSeq (sIf (mNotT (mTru (mCallK mis_integer 1 0 [] [.p 0] (mCons (mVar 1) mNil) mNil))) (sRaise 2 1 0 [] [.p 0] 1 (mCons (mC (.str "top")) mNil) mNil) sNx) (sSeq (sIf (mOrT (mNotT (mTru (mCallK mis_integer 1 0 [] [.p 0] (mCons (mVar 2) mNil) mNil))) (mTest (mBin (dEq false) (mVar 2) (mC (.int 0))))) (sRaise 2 1 0 [] [.p 0] 1 (mCons (mC (.str "bottom")) mNil) mNil) sNx) (sPut 0 4 0 (mCallK mlowest 2 0 [] [.p 0, .p 1] (mCons (mVar 1) (mCons (mVar 2) mNil)) mNil))))
noncomputable def iRate : List D → M (List D) := inM 4 2 3 1 bRate___init__
theorem okRate___init__ (hS : ∃ o, base.get? sysModules = some o) (hTB : ∀ p ∈ tb, LamX.TabB base mg p.1 p.2) (T : Tp K mg cs tb) : InW P w K mg base (sg K cs tb) 3 4 "Rate.__init__" (inClass (top 13) 0) [.int 1] ["top", "bottom"] iRate := by
  obtain ⟨f, fd, F, h1, h2, h3⟩ := T.wRate___init__
  have okis_integer := okis_integer (P := P) (w := w) (base := base) hS hTB T
  have oklowest := oklowest (P := P) (w := w) (base := base) hS hTB T
  refine ⟨f, fd, fn_okO (k := 2) (c := 4) (N := NRate___init__) (ps := ["top", "bottom"]) (S := sg K cs tb) (body := bRate___init__) F.g (scpB_of (by kernel_rfl)) (by kernel_rfl) fun cdv A outer s pen G0 B0 H E hg hr => ?_, F, h1, h2⟩
  have B := @Bx.def P w K mg base NRate___init__ "Rate.__init__" (defScope (inClass (top 13) 0)) f cdv A outer s H E (sg K cs tb) pen G0 B0 2 hg hr rfl hS
  exact (mss_cons (ms_if (mt_not (mt_tru B.hK (me_call B (k := 1) (ks := []) (l := [.p 0]) (FnW.t (ks := []) (dvs := []) (l := [.p 0]) okis_integer (fun f fd F => bdW0 F (fun s kV doc pm an cdv ct us ws h1 h2 => match us, ws, h1, h2 with | [_], [], _, _ => .of_eq (by kernel_rfl))) (by kernel_rfl)) (by kernel_rfl) (by kernel_rfl) (by kernel_rfl) (pak_pos (ma_cons (me_v (i := 1) (by kernel_rfl)) ma_nil))))) (mss_one (ms_thr (c := 2) B (xt_2_1 T) (by kernel_rfl) (by kernel_rfl) (by kernel_rfl) (pak_pos (ma_cons me_str ma_nil)))) mss_nil) (mss_cons (ms_if (PW.pt (mw_or (mt_not (mt_tru B.hK (me_call B (k := 1) (ks := []) (l := [.p 0]) (FnW.t (ks := []) (dvs := []) (l := [.p 0]) okis_integer (fun f fd F => bdW0 F (fun s kV doc pm an cdv ct us ws h1 h2 => match us, ws, h1, h2 with | [_], [], _, _ => .of_eq (by kernel_rfl))) (by kernel_rfl)) (by kernel_rfl) (by kernel_rfl) (by kernel_rfl) (pak_pos (ma_cons (me_v (i := 2) (by kernel_rfl)) ma_nil))))) (mw_or1 (mt_cm (c_eq B) (me_v (i := 2) (by kernel_rfl)) me_int)))) (mss_one (ms_thr (c := 2) B (xt_2_1 T) (by kernel_rfl) (by kernel_rfl) (by kernel_rfl) (pak_pos (ma_cons me_str ma_nil)))) mss_nil) (mss_one (ms_put (i := 0) (c := 4) (k := 0) B (by kernel_rfl) T.b0 (me_call B (k := 2) (ks := []) (l := [.p 0, .p 1]) (FnW.t (ks := []) (dvs := []) (l := [.p 0, .p 1]) oklowest (fun f fd F => bdW0 F (fun s kV doc pm an cdv ct us ws h1 h2 => match us, ws, h1, h2 with | [_, _], [], _, _ => .of_eq (by kernel_rfl))) (by kernel_rfl)) (by kernel_rfl) (by kernel_rfl) (by kernel_rfl) (pak_pos (ma_cons (me_v (i := 1) (by kernel_rfl)) (ma_cons (me_v (i := 2) (by kernel_rfl)) ma_nil))))))))
/-! ### Rate_bottom -/
noncomputable def NRate_bottom : List Str := ["self"]
noncomputable def bRate_bottom : SX := (sRet (mBin dIx (mUn (dFld [(4, 0)] []) (mVar 0)) (mC (.int 1))))
noncomputable def mRate_bottom : List D → M D := fnM 1 1 bRate_bottom
theorem okRate_bottom (hS : ∃ o, base.get? sysModules = some o) (hTB : ∀ p ∈ tb, LamX.TabB base mg p.1 p.2) (T : Tp K mg cs tb) : PropT P w K mg base (sg K cs tb) 1 4 "bottom" mRate_bottom := by
  obtain ⟨pr, f, fd, F, h1, h2⟩ := T.wRate_bottom
  refine ⟨pr, f, fd, _, fn_okM (k := 0) (ps := ["self"]) (N := NRate_bottom) (S := sg K cs tb) (body := bRate_bottom) F.g (scpB_of (by kernel_rfl)) (fun cdv A outer s pen G0 H E hcv hg hr => ?_), h1, h2, bdW0 F (fun s kV doc pm an cdv ct us ws h1 h2 => match us, ws, h1, h2 with | [_], [], _, _ => .of_eq (by kernel_rfl))⟩
  have B := @Bx.def P w K mg base NRate_bottom "Rate.bottom" (defScope (inClass (top 13) 2)) f cdv A outer s H E (sg K cs tb) pen G0 H 0 hg hr rfl hS
  exact (mss_one (ms_ret (me_ix B.hK (me_f B T.b2 (by rfl) (me_v (i := 0) (by kernel_rfl))) me_int fun _ _ => rfl)))
/-! ### Rate_top -/
noncomputable def NRate_top : List Str := ["self"]
noncomputable def bRate_top : SX := (sRet (mBin dIx (mUn (dFld [(4, 0)] []) (mVar 0)) (mC (.int 0))))
noncomputable def mRate_top : List D → M D := fnM 1 1 bRate_top
theorem okRate_top (hS : ∃ o, base.get? sysModules = some o) (hTB : ∀ p ∈ tb, LamX.TabB base mg p.1 p.2) (T : Tp K mg cs tb) : PropT P w K mg base (sg K cs tb) 1 4 "top" mRate_top := by
  obtain ⟨pr, f, fd, F, h1, h2⟩ := T.wRate_top
  refine ⟨pr, f, fd, _, fn_okM (k := 0) (ps := ["self"]) (N := NRate_top) (S := sg K cs tb) (body := bRate_top) F.g (scpB_of (by kernel_rfl)) (fun cdv A outer s pen G0 H E hcv hg hr => ?_), h1, h2, bdW0 F (fun s kV doc pm an cdv ct us ws h1 h2 => match us, ws, h1, h2 with | [_], [], _, _ => .of_eq (by kernel_rfl))⟩
  have B := @Bx.def P w K mg base NRate_top "Rate.top" (defScope (inClass (top 13) 1)) f cdv A outer s H E (sg K cs tb) pen G0 H 0 hg hr rfl hS
  exact (mss_one (ms_ret (me_ix B.hK (me_f B T.b2 (by rfl) (me_v (i := 0) (by kernel_rfl))) me_int fun _ _ => rfl)))
/-! ### parts_of -/
noncomputable def Nparts_of : List Str := ["value"]
noncomputable def bparts_of : SX := (sSeq (sIf (mTru (mCB (dIsi isT) (mCons (mVar 0) (mCons (mC (.cls 4)) mNil)))) (sRet (mUn (dFld [(4, 0)] []) (mVar 0))) sNx) (sRet (mIf (mTru (mCallK mis_integer 1 0 [] [.p 0] (mCons (mVar 0) mNil) mNil)) (mTup (mCons (mVar 0) (mCons (mC (.int 1)) mNil))) (mC .non))))
noncomputable def mparts_of : List D → M D := fnM 1 1 bparts_of
theorem okparts_of (hS : ∃ o, base.get? sysModules = some o) (hTB : ∀ p ∈ tb, LamX.TabB base mg p.1 p.2) (T : Tp K mg cs tb) : FnW P w K mg base (sg K cs tb) 2 "parts_of" (top 12) [] ["value"] mparts_of := by
  obtain ⟨f, fd, F, hm, hk⟩ := T.dparts_of
  have okis_integer := okis_integer (P := P) (w := w) (base := base) hS hTB T
  refine ⟨f, fd, fn_okM (k := 1) (N := Nparts_of) (S := sg K cs tb) (body := bparts_of) F.g (scpB_of (by kernel_rfl)) fun cdv A outer s pen G0 H E hcv hg hr => ?_, F, hm, hk⟩
  have B := @Bx.def P w K mg base Nparts_of "parts_of" (defScope (top 12)) f cdv A outer s H E (sg K cs tb) pen G0 H 1 hg hr rfl hS
  exact (mss_cons (ms_if (mt_tru B.hK (me_b (b_isi B T.isf) (T.bn _ (by kernel_rfl)) (by kernel_rfl) (by kernel_rfl) (ma_cons (me_v (i := 0) (by kernel_rfl)) (ma_cons (me_cls (c := 4) (T.cm 4 _ (by kernel_rfl)) (by kernel_rfl) (by kernel_rfl)) ma_nil)))) (mss_one (ms_ret (me_f B T.b2 (by rfl) (me_v (i := 0) (by kernel_rfl))))) mss_nil) (mss_one (ms_ret (me_if (mt_tru B.hK (me_call B (k := 1) (ks := []) (l := [.p 0]) (FnW.t (ks := []) (dvs := []) (l := [.p 0]) okis_integer (fun f fd F => bdW0 F (fun s kV doc pm an cdv ct us ws h1 h2 => match us, ws, h1, h2 with | [_], [], _, _ => .of_eq (by kernel_rfl))) (by kernel_rfl)) (by kernel_rfl) (by kernel_rfl) (by kernel_rfl) (pak_pos (ma_cons (me_v (i := 0) (by kernel_rfl)) ma_nil)))) (me_tup (ma_cons (me_v (i := 0) (by kernel_rfl)) (ma_cons me_int ma_nil))) me_non))))
/-! ### Rate___eq__ -/
noncomputable def NRate___eq__ : List Str := ["self", "other"]
noncomputable def bRate___eq__ : SX := (sRet (mBin (dEq false) (mCallK mparts_of 1 0 [] [.p 0] (mCons (mVar 1) mNil) mNil) (mUn (dFld [(4, 0)] []) (mVar 0))))
noncomputable def mRate___eq__ : List D → M D := fnM 2 2 bRate___eq__
theorem okRate___eq__ (hS : ∃ o, base.get? sysModules = some o) (hTB : ∀ p ∈ tb, LamX.TabB base mg p.1 p.2) (T : Tp K mg cs tb) : MfW P w K mg base (sg K cs tb) 3 4 "__eq__" "Rate.__eq__" (inClass (top 13) 15) [] ["self", "other"] mRate___eq__ := by
  obtain ⟨f, fd, F, h1, h2, h3⟩ := T.wRate___eq__
  have okparts_of := okparts_of (P := P) (w := w) (base := base) hS hTB T
  refine ⟨f, fd, fn_okM (k := 2) (N := NRate___eq__) (S := sg K cs tb) (body := bRate___eq__) F.g (scpB_of (by kernel_rfl)) fun cdv A outer s pen G0 H E hcv hg hr => ?_, F, h1, h2, h3⟩
  have B := @Bx.def P w K mg base NRate___eq__ "Rate.__eq__" (defScope (inClass (top 13) 15)) f cdv A outer s H E (sg K cs tb) pen G0 H 2 hg hr rfl hS
  exact (mss_one (ms_ret (me_cm (c_eq B) (me_call B (k := 2) (ks := []) (l := [.p 0]) (FnW.t (ks := []) (dvs := []) (l := [.p 0]) okparts_of (fun f fd F => bdW0 F (fun s kV doc pm an cdv ct us ws h1 h2 => match us, ws, h1, h2 with | [_], [], _, _ => .of_eq (by kernel_rfl))) (by kernel_rfl)) (by kernel_rfl) (by kernel_rfl) (by kernel_rfl) (pak_pos (ma_cons (me_v (i := 1) (by kernel_rfl)) ma_nil))) (me_f B T.b2 (by rfl) (me_v (i := 0) (by kernel_rfl))))))
/-! ### _law_is -/
noncomputable def N_law_is : List Str := ["_law_value", "_law_high", "_law_low", "_law_one", "_law_two"]
noncomputable def b_law_is : SX := (sSeq (sIf (mOrT (mNotT (mTru (mCB (dIsi isT) (mCons (mVar 0) (mCons (mC (.cls 4)) mNil))))) (mOrT (mTest (mBin (dCmpI fun i j => decide (i < j)) (mUn (dOwn1 [(4, mRate_bottom)]) (mVar 0)) (mC (.int 1)))) (mTest (mBin (dOwnC ([(4, mRate___eq__)].map fun q => (q.1, notM q.2)) [4] (dEq true)) (mBin dMulW (mUn (dOwn1 [(4, mRate_top)]) (mVar 0)) (mVar 2)) (mBin dMulW (mVar 1) (mUn (dOwn1 [(4, mRate_bottom)]) (mVar 0))))))) (sRet (mC (.bl false))) sNx) (sSeq (sPar2 3 4 (mCons (mCB dAbs (mCons (mUn (dOwn1 [(4, mRate_top)]) (mVar 0)) mNil)) (mCons (mUn (dOwn1 [(4, mRate_bottom)]) (mVar 0)) mNil))) (sSeq (sWhile 1000 (mTest (mBin (dEq true) (mVar 4) (mC (.int 0)))) (sPar2 3 4 (mCons (mVar 4) (mCons (mBin dMod (mCB dInt1 (mCons (mVar 3) mNil)) (mVar 4)) mNil)))) (sRet (mBin (dEq false) (mVar 3) (mC (.int 1)))))))
noncomputable def m_law_is : List D → M D := fnM 3 5 b_law_is
theorem ok_law_is (hS : ∃ o, base.get? sysModules = some o) (hTB : ∀ p ∈ tb, LamX.TabB base mg p.1 p.2) (T : Tp K mg cs tb) : FnW P w K mg base (sg K cs tb) 5 "_law_is" (top 20) [] ["_law_value", "_law_high", "_law_low"] m_law_is := by
  obtain ⟨f, fd, F, hm, hk⟩ := T.d_law_is
  have okRate_bottom := okRate_bottom (P := P) (w := w) (base := base) hS hTB T
  have okRate_top := okRate_top (P := P) (w := w) (base := base) hS hTB T
  have okRate___eq__ := okRate___eq__ (P := P) (w := w) (base := base) hS hTB T
  refine ⟨f, fd, fn_okM (k := 4) (N := N_law_is) (S := sg K cs tb) (body := b_law_is) F.g (scpB_of (by kernel_rfl)) fun cdv A outer s pen G0 H E hcv hg hr => ?_, F, hm, hk⟩
  have B := @Bx.def P w K mg base N_law_is "_law_is" (defScope (top 20)) f cdv A outer s H E (sg K cs tb) pen G0 H 4 hg hr rfl hS
  exact (mss_cons (ms_if (PW.pt (mw_or (mt_not (mt_tru B.hK (me_b (b_isi B T.isf) (T.bn _ (by kernel_rfl)) (by kernel_rfl) (by kernel_rfl) (ma_cons (me_v (i := 0) (by kernel_rfl)) (ma_cons (me_cls (c := 4) (T.cm 4 _ (by kernel_rfl)) (by kernel_rfl) (by kernel_rfl)) ma_nil))))) (mw_or (mt_cm c_lt (me_prop (k := 1) B (tab1 (PropT.mono (k := 1) okRate_bottom (by kernel_rfl))) (by kernel_rfl) (me_v (i := 0) (by kernel_rfl))) me_int) (mw_or1 (mt_cm (c_neO (k := 3) (cs := [4]) B (tab1 (OwnT.mono (k := 3) (MfW.o okRate___eq__ (fun f fd F => bdW0 F (fun s kV doc pm an cdv ct us ws h1 h2 => match us, ws, h1, h2 with | [_, _], [], _, _ => .of_eq (by kernel_rfl)))) (by kernel_rfl))) (by kernel_rfl) rfl T.b3 T.b4) (me_mulW (me_prop (k := 1) B (tab1 (PropT.mono (k := 1) okRate_top (by kernel_rfl))) (by kernel_rfl) (me_v (i := 0) (by kernel_rfl))) (me_v (i := 2) (by kernel_rfl))) (me_mulW (me_v (i := 1) (by kernel_rfl)) (me_prop (k := 1) B (tab1 (PropT.mono (k := 1) okRate_bottom (by kernel_rfl))) (by kernel_rfl) (me_v (i := 0) (by kernel_rfl))))))))) (mss_one (ms_ret me_bl)) mss_nil) (mss_cons (ms_par2 (i := 3) (j := 4) B.calm (nodB_of (by kernel_rfl)) (ixB_of (by kernel_rfl)) (ixB_of (by kernel_rfl)) (by decide) (lclB_of (by kernel_rfl)) (lclB_of (by kernel_rfl)) (ma_cons (me_b b_abs (T.bn _ (by kernel_rfl)) (by kernel_rfl) (by kernel_rfl) (ma_cons (me_prop (k := 1) B (tab1 (PropT.mono (k := 1) okRate_top (by kernel_rfl))) (by kernel_rfl) (me_v (i := 0) (by kernel_rfl))) ma_nil)) (ma_cons (me_prop (k := 1) B (tab1 (PropT.mono (k := 1) okRate_bottom (by kernel_rfl))) (by kernel_rfl) (me_v (i := 0) (by kernel_rfl))) ma_nil)) rfl) (mss_cons (ms_while (passes_of rfl) (mt_cm (c_ne B) (me_v (i := 4) (by kernel_rfl)) me_int) (mss_one (ms_par2 (i := 3) (j := 4) B.calm (nodB_of (by kernel_rfl)) (ixB_of (by kernel_rfl)) (ixB_of (by kernel_rfl)) (by decide) (lclB_of (by kernel_rfl)) (lclB_of (by kernel_rfl)) (ma_cons (me_v (i := 4) (by kernel_rfl)) (ma_cons (me_mod (me_b b_int (T.bn _ (by kernel_rfl)) (by kernel_rfl) (by kernel_rfl) (ma_cons (me_v (i := 3) (by kernel_rfl)) ma_nil)) (me_v (i := 4) (by kernel_rfl))) ma_nil)) rfl))) (mss_one (ms_ret (me_cm (c_eq B) (me_v (i := 3) (by kernel_rfl)) me_int))))))
/-! ### Rate___add__ -/
noncomputable def NRate___add__ : List Str := ["self", "other", "parts"]
noncomputable def bRate___add__ : SX := (sSeq (sSet 2 (mCallK mparts_of 1 0 [] [.p 0] (mCons (mVar 1) mNil) mNil)) (sSeq (sIf (mTest (mBin (dIsN false) (mVar 2) (mC .non))) (sRet mStk) sNx) (sRet (mNew 4 iRate 2 0 [.int 1] [.p 0, .p 1] (mCons (mBin dAdd (mBin dMulW (mBin dIx (mUn (dFld [(4, 0)] []) (mVar 0)) (mC (.int 0))) (mBin dIx (mVar 2) (mC (.int 1)))) (mBin dMulW (mBin dIx (mVar 2) (mC (.int 0))) (mBin dIx (mUn (dFld [(4, 0)] []) (mVar 0)) (mC (.int 1))))) (mCons (mBin dMulW (mBin dIx (mUn (dFld [(4, 0)] []) (mVar 0)) (mC (.int 1))) (mBin dIx (mVar 2) (mC (.int 1)))) mNil)) mNil))))
noncomputable def mRate___add__ : List D → M D := fnM 2 3 bRate___add__
theorem okRate___add__ (hS : ∃ o, base.get? sysModules = some o) (hTB : ∀ p ∈ tb, LamX.TabB base mg p.1 p.2) (T : Tp K mg cs tb) : MfW P w K mg base (sg K cs tb) 5 4 "__add__" "Rate.__add__" (inClass (top 13) 7) [] ["self", "other"] mRate___add__ := by
  obtain ⟨f, fd, F, h1, h2, h3⟩ := T.wRate___add__
  have okRate___init__ := okRate___init__ (P := P) (w := w) (base := base) hS hTB T
  have okparts_of := okparts_of (P := P) (w := w) (base := base) hS hTB T
  refine ⟨f, fd, fn_okM (k := 4) (N := NRate___add__) (S := sg K cs tb) (body := bRate___add__) F.g (scpB_of (by kernel_rfl)) fun cdv A outer s pen G0 H E hcv hg hr => ?_, F, h1, h2, h3⟩
  have B := @Bx.def P w K mg base NRate___add__ "Rate.__add__" (defScope (inClass (top 13) 7)) f cdv A outer s H E (sg K cs tb) pen G0 H 4 hg hr rfl hS
  exact (mss_cons (ms_st (i := 2) (by kernel_rfl) (by kernel_rfl) (me_call B (k := 2) (ks := []) (l := [.p 0]) (FnW.t (ks := []) (dvs := []) (l := [.p 0]) okparts_of (fun f fd F => bdW0 F (fun s kV doc pm an cdv ct us ws h1 h2 => match us, ws, h1, h2 with | [_], [], _, _ => .of_eq (by kernel_rfl))) (by kernel_rfl)) (by kernel_rfl) (by kernel_rfl) (by kernel_rfl) (pak_pos (ma_cons (me_v (i := 1) (by kernel_rfl)) ma_nil)))) (mss_cons (ms_if (mt_cm c_is (me_v (i := 2) (by kernel_rfl)) me_non) (mss_one (ms_ret me_stk)) mss_nil) (mss_one (ms_ret (me_new (c := 4) B (k := 3) (ks := []) (l := [.p 0, .p 1]) (InW.t (ks := []) (dvs := [.int 1]) (l := [.p 0, .p 1]) okRate___init__ (T.cm 4 _ (by kernel_rfl)) T.b1 (fun f fd F => bdW1 F (fun T kV doc pm an cdv ct us its ws h1 h2 h3 => match us, its, ws, h1, h2, h3 with | [_, _, _], [_], [], _, _, _ => ⟨_, rfl, rfl⟩)) (by kernel_rfl)) (by kernel_rfl) (by kernel_rfl) (by kernel_rfl) (pak_pos (ma_cons (me_add B (me_mulW (me_ix B.hK (me_f B T.b2 (by rfl) (me_v (i := 0) (by kernel_rfl))) me_int fun _ _ => rfl) (me_ix B.hK (me_v (i := 2) (by kernel_rfl)) me_int fun _ _ => rfl)) (me_mulW (me_ix B.hK (me_v (i := 2) (by kernel_rfl)) me_int fun _ _ => rfl) (me_ix B.hK (me_f B T.b2 (by rfl) (me_v (i := 0) (by kernel_rfl))) me_int fun _ _ => rfl))) (ma_cons (me_mulW (me_ix B.hK (me_f B T.b2 (by rfl) (me_v (i := 0) (by kernel_rfl))) me_int fun _ _ => rfl) (me_ix B.hK (me_v (i := 2) (by kernel_rfl)) me_int fun _ _ => rfl)) ma_nil))))))))
/-! ### Rate___neg__ -/
noncomputable def NRate___neg__ : List Str := ["self"]
noncomputable def bRate___neg__ : SX := (sRet (mNew 4 iRate 2 0 [.int 1] [.p 0, .p 1] (mCons (mUn dNeg (mBin dIx (mUn (dFld [(4, 0)] []) (mVar 0)) (mC (.int 0)))) (mCons (mBin dIx (mUn (dFld [(4, 0)] []) (mVar 0)) (mC (.int 1))) mNil)) mNil))
noncomputable def mRate___neg__ : List D → M D := fnM 1 1 bRate___neg__
theorem okRate___neg__ (hS : ∃ o, base.get? sysModules = some o) (hTB : ∀ p ∈ tb, LamX.TabB base mg p.1 p.2) (T : Tp K mg cs tb) : MfW P w K mg base (sg K cs tb) 5 4 "__neg__" "Rate.__neg__" (inClass (top 13) 13) [] ["self"] mRate___neg__ := by
  obtain ⟨f, fd, F, h1, h2, h3⟩ := T.wRate___neg__
  have okRate___init__ := okRate___init__ (P := P) (w := w) (base := base) hS hTB T
  refine ⟨f, fd, fn_okM (k := 4) (N := NRate___neg__) (S := sg K cs tb) (body := bRate___neg__) F.g (scpB_of (by kernel_rfl)) fun cdv A outer s pen G0 H E hcv hg hr => ?_, F, h1, h2, h3⟩
  have B := @Bx.def P w K mg base NRate___neg__ "Rate.__neg__" (defScope (inClass (top 13) 13)) f cdv A outer s H E (sg K cs tb) pen G0 H 4 hg hr rfl hS
  exact (mss_one (ms_ret (me_new (c := 4) B (k := 3) (ks := []) (l := [.p 0, .p 1]) (InW.t (ks := []) (dvs := [.int 1]) (l := [.p 0, .p 1]) okRate___init__ (T.cm 4 _ (by kernel_rfl)) T.b1 (fun f fd F => bdW1 F (fun T kV doc pm an cdv ct us its ws h1 h2 h3 => match us, its, ws, h1, h2, h3 with | [_, _, _], [_], [], _, _, _ => ⟨_, rfl, rfl⟩)) (by kernel_rfl)) (by kernel_rfl) (by kernel_rfl) (by kernel_rfl) (pak_pos (ma_cons (me_neg (me_ix B.hK (me_f B T.b2 (by rfl) (me_v (i := 0) (by kernel_rfl))) me_int fun _ _ => rfl)) (ma_cons (me_ix B.hK (me_f B T.b2 (by rfl) (me_v (i := 0) (by kernel_rfl))) me_int fun _ _ => rfl) ma_nil))))))
/-! ### Rate___sub__ -/
noncomputable def NRate___sub__ : List Str := ["self", "other", "parts"]
noncomputable def bRate___sub__ : SX := (sSeq (sSet 2 (mCallK mparts_of 1 0 [] [.p 0] (mCons (mVar 1) mNil) mNil)) (sSeq (sIf (mTest (mBin (dIsN false) (mVar 2) (mC .non))) (sRet mStk) sNx) (sRet (mNew 4 iRate 2 0 [.int 1] [.p 0, .p 1] (mCons (mBin dSub (mBin dMulW (mBin dIx (mUn (dFld [(4, 0)] []) (mVar 0)) (mC (.int 0))) (mBin dIx (mVar 2) (mC (.int 1)))) (mBin dMulW (mBin dIx (mVar 2) (mC (.int 0))) (mBin dIx (mUn (dFld [(4, 0)] []) (mVar 0)) (mC (.int 1))))) (mCons (mBin dMulW (mBin dIx (mUn (dFld [(4, 0)] []) (mVar 0)) (mC (.int 1))) (mBin dIx (mVar 2) (mC (.int 1)))) mNil)) mNil))))
noncomputable def mRate___sub__ : List D → M D := fnM 2 3 bRate___sub__
theorem okRate___sub__ (hS : ∃ o, base.get? sysModules = some o) (hTB : ∀ p ∈ tb, LamX.TabB base mg p.1 p.2) (T : Tp K mg cs tb) : MfW P w K mg base (sg K cs tb) 5 4 "__sub__" "Rate.__sub__" (inClass (top 13) 9) [] ["self", "other"] mRate___sub__ := by
  obtain ⟨f, fd, F, h1, h2, h3⟩ := T.wRate___sub__
  have okRate___init__ := okRate___init__ (P := P) (w := w) (base := base) hS hTB T
  have okparts_of := okparts_of (P := P) (w := w) (base := base) hS hTB T
  refine ⟨f, fd, fn_okM (k := 4) (N := NRate___sub__) (S := sg K cs tb) (body := bRate___sub__) F.g (scpB_of (by kernel_rfl)) fun cdv A outer s pen G0 H E hcv hg hr => ?_, F, h1, h2, h3⟩
  have B := @Bx.def P w K mg base NRate___sub__ "Rate.__sub__" (defScope (inClass (top 13) 9)) f cdv A outer s H E (sg K cs tb) pen G0 H 4 hg hr rfl hS
  exact (mss_cons (ms_st (i := 2) (by kernel_rfl) (by kernel_rfl) (me_call B (k := 2) (ks := []) (l := [.p 0]) (FnW.t (ks := []) (dvs := []) (l := [.p 0]) okparts_of (fun f fd F => bdW0 F (fun s kV doc pm an cdv ct us ws h1 h2 => match us, ws, h1, h2 with | [_], [], _, _ => .of_eq (by kernel_rfl))) (by kernel_rfl)) (by kernel_rfl) (by kernel_rfl) (by kernel_rfl) (pak_pos (ma_cons (me_v (i := 1) (by kernel_rfl)) ma_nil)))) (mss_cons (ms_if (mt_cm c_is (me_v (i := 2) (by kernel_rfl)) me_non) (mss_one (ms_ret me_stk)) mss_nil) (mss_one (ms_ret (me_new (c := 4) B (k := 3) (ks := []) (l := [.p 0, .p 1]) (InW.t (ks := []) (dvs := [.int 1]) (l := [.p 0, .p 1]) okRate___init__ (T.cm 4 _ (by kernel_rfl)) T.b1 (fun f fd F => bdW1 F (fun T kV doc pm an cdv ct us its ws h1 h2 h3 => match us, its, ws, h1, h2, h3 with | [_, _, _], [_], [], _, _, _ => ⟨_, rfl, rfl⟩)) (by kernel_rfl)) (by kernel_rfl) (by kernel_rfl) (by kernel_rfl) (pak_pos (ma_cons (me_sub (me_mulW (me_ix B.hK (me_f B T.b2 (by rfl) (me_v (i := 0) (by kernel_rfl))) me_int fun _ _ => rfl) (me_ix B.hK (me_v (i := 2) (by kernel_rfl)) me_int fun _ _ => rfl)) (me_mulW (me_ix B.hK (me_v (i := 2) (by kernel_rfl)) me_int fun _ _ => rfl) (me_ix B.hK (me_f B T.b2 (by rfl) (me_v (i := 0) (by kernel_rfl))) me_int fun _ _ => rfl))) (ma_cons (me_mulW (me_ix B.hK (me_f B T.b2 (by rfl) (me_v (i := 0) (by kernel_rfl))) me_int fun _ _ => rfl) (me_ix B.hK (me_v (i := 2) (by kernel_rfl)) me_int fun _ _ => rfl)) ma_nil))))))))
/-! ### Rate___mul__ -/
noncomputable def NRate___mul__ : List Str := ["self", "other", "parts"]
noncomputable def bRate___mul__ : SX := (sSeq (sSet 2 (mCallK mparts_of 1 0 [] [.p 0] (mCons (mVar 1) mNil) mNil)) (sSeq (sIf (mTest (mBin (dIsN false) (mVar 2) (mC .non))) (sRet mStk) sNx) (sRet (mNew 4 iRate 2 0 [.int 1] [.p 0, .p 1] (mCons (mBin dMulW (mBin dIx (mUn (dFld [(4, 0)] []) (mVar 0)) (mC (.int 0))) (mBin dIx (mVar 2) (mC (.int 0)))) (mCons (mBin dMulW (mBin dIx (mUn (dFld [(4, 0)] []) (mVar 0)) (mC (.int 1))) (mBin dIx (mVar 2) (mC (.int 1)))) mNil)) mNil))))
noncomputable def mRate___mul__ : List D → M D := fnM 2 3 bRate___mul__
theorem okRate___mul__ (hS : ∃ o, base.get? sysModules = some o) (hTB : ∀ p ∈ tb, LamX.TabB base mg p.1 p.2) (T : Tp K mg cs tb) : MfW P w K mg base (sg K cs tb) 5 4 "__mul__" "Rate.__mul__" (inClass (top 13) 11) [] ["self", "other"] mRate___mul__ := by
  obtain ⟨f, fd, F, h1, h2, h3⟩ := T.wRate___mul__
  have okRate___init__ := okRate___init__ (P := P) (w := w) (base := base) hS hTB T
  have okparts_of := okparts_of (P := P) (w := w) (base := base) hS hTB T
  refine ⟨f, fd, fn_okM (k := 4) (N := NRate___mul__) (S := sg K cs tb) (body := bRate___mul__) F.g (scpB_of (by kernel_rfl)) fun cdv A outer s pen G0 H E hcv hg hr => ?_, F, h1, h2, h3⟩
  have B := @Bx.def P w K mg base NRate___mul__ "Rate.__mul__" (defScope (inClass (top 13) 11)) f cdv A outer s H E (sg K cs tb) pen G0 H 4 hg hr rfl hS
  exact (mss_cons (ms_st (i := 2) (by kernel_rfl) (by kernel_rfl) (me_call B (k := 2) (ks := []) (l := [.p 0]) (FnW.t (ks := []) (dvs := []) (l := [.p 0]) okparts_of (fun f fd F => bdW0 F (fun s kV doc pm an cdv ct us ws h1 h2 => match us, ws, h1, h2 with | [_], [], _, _ => .of_eq (by kernel_rfl))) (by kernel_rfl)) (by kernel_rfl) (by kernel_rfl) (by kernel_rfl) (pak_pos (ma_cons (me_v (i := 1) (by kernel_rfl)) ma_nil)))) (mss_cons (ms_if (mt_cm c_is (me_v (i := 2) (by kernel_rfl)) me_non) (mss_one (ms_ret me_stk)) mss_nil) (mss_one (ms_ret (me_new (c := 4) B (k := 3) (ks := []) (l := [.p 0, .p 1]) (InW.t (ks := []) (dvs := [.int 1]) (l := [.p 0, .p 1]) okRate___init__ (T.cm 4 _ (by kernel_rfl)) T.b1 (fun f fd F => bdW1 F (fun T kV doc pm an cdv ct us its ws h1 h2 h3 => match us, its, ws, h1, h2, h3 with | [_, _, _], [_], [], _, _, _ => ⟨_, rfl, rfl⟩)) (by kernel_rfl)) (by kernel_rfl) (by kernel_rfl) (by kernel_rfl) (pak_pos (ma_cons (me_mulW (me_ix B.hK (me_f B T.b2 (by rfl) (me_v (i := 0) (by kernel_rfl))) me_int fun _ _ => rfl) (me_ix B.hK (me_v (i := 2) (by kernel_rfl)) me_int fun _ _ => rfl)) (ma_cons (me_mulW (me_ix B.hK (me_f B T.b2 (by rfl) (me_v (i := 0) (by kernel_rfl))) me_int fun _ _ => rfl) (me_ix B.hK (me_v (i := 2) (by kernel_rfl)) me_int fun _ _ => rfl)) ma_nil))))))))
/-! ### _law_bound -/
noncomputable def N_law_bound : List Str := ["_law_way", "_law_one", "_law_more", "_law_found"]
noncomputable def b_law_bound : SX := (sSeq (sSet 3 (mVar 1)) (sSeq (sIf (mTest (mBin (dEq false) (mVar 0) (mC (.int 0)))) (sAug 3 (dBop [(4, mRate___add__)] [4]) (mVar 2)) (sIf (mTest (mBin (dEq false) (mVar 0) (mC (.int 1)))) (sAug 3 (dBop [(4, mRate___sub__)] [4]) (mVar 2)) (sAug 3 (dBop [(4, mRate___mul__)] [4]) (mVar 2)))) (sRet (mVar 3))))
noncomputable def m_law_bound : List D → M D := fnM 3 4 b_law_bound
theorem ok_law_bound (hS : ∃ o, base.get? sysModules = some o) (hTB : ∀ p ∈ tb, LamX.TabB base mg p.1 p.2) (T : Tp K mg cs tb) : FnW P w K mg base (sg K cs tb) 6 "_law_bound" (top 22) [] ["_law_way", "_law_one", "_law_more"] m_law_bound := by
  obtain ⟨f, fd, F, hm, hk⟩ := T.d_law_bound
  have okRate___add__ := okRate___add__ (P := P) (w := w) (base := base) hS hTB T
  have okRate___sub__ := okRate___sub__ (P := P) (w := w) (base := base) hS hTB T
  have okRate___mul__ := okRate___mul__ (P := P) (w := w) (base := base) hS hTB T
  refine ⟨f, fd, fn_okM (k := 5) (N := N_law_bound) (S := sg K cs tb) (body := b_law_bound) F.g (scpB_of (by kernel_rfl)) fun cdv A outer s pen G0 H E hcv hg hr => ?_, F, hm, hk⟩
  have B := @Bx.def P w K mg base N_law_bound "_law_bound" (defScope (top 22)) f cdv A outer s H E (sg K cs tb) pen G0 H 5 hg hr rfl hS
  exact (mss_cons (ms_st (i := 3) (by kernel_rfl) (by kernel_rfl) (me_v (i := 1) (by kernel_rfl))) (mss_cons (ms_if (mt_cm (c_eq B) (me_v (i := 0) (by kernel_rfl)) me_int) (mss_one (ms_augN (i := 3) (k := 5) (cs := [4]) (os := [4]) (by kernel_rfl) B (tab1 (OwnT.mono (k := 5) (MfW.o okRate___add__ (fun f fd F => bdW0 F (fun s kV doc pm an cdv ct us ws h1 h2 => match us, ws, h1, h2 with | [_, _], [], _, _ => .of_eq (by kernel_rfl)))) (by kernel_rfl))) (by kernel_rfl) rfl T.b5 T.b8 (nodB_of (by kernel_rfl)) (ixB_of (by kernel_rfl)) (locB_of (by kernel_rfl)) (me_v (i := 2) (by kernel_rfl)))) (mss_one (ms_if (mt_cm (c_eq B) (me_v (i := 0) (by kernel_rfl)) me_int) (mss_one (ms_augN (i := 3) (k := 5) (cs := [4]) (os := [4]) (by kernel_rfl) B (tab1 (OwnT.mono (k := 5) (MfW.o okRate___sub__ (fun f fd F => bdW0 F (fun s kV doc pm an cdv ct us ws h1 h2 => match us, ws, h1, h2 with | [_, _], [], _, _ => .of_eq (by kernel_rfl)))) (by kernel_rfl))) (by kernel_rfl) rfl T.b6 T.b9 (nodB_of (by kernel_rfl)) (ixB_of (by kernel_rfl)) (locB_of (by kernel_rfl)) (me_v (i := 2) (by kernel_rfl)))) (mss_one (ms_augN (i := 3) (k := 5) (cs := [4]) (os := [4]) (by kernel_rfl) B (tab1 (OwnT.mono (k := 5) (MfW.o okRate___mul__ (fun f fd F => bdW0 F (fun s kV doc pm an cdv ct us ws h1 h2 => match us, ws, h1, h2 with | [_, _], [], _, _ => .of_eq (by kernel_rfl)))) (by kernel_rfl))) (by kernel_rfl) rfl T.b7 T.b10 (nodB_of (by kernel_rfl)) (ixB_of (by kernel_rfl)) (locB_of (by kernel_rfl)) (me_v (i := 2) (by kernel_rfl))))))) (mss_one (ms_ret (me_v (i := 3) (by kernel_rfl))))))
/-! ### Rate___ge__ -/
noncomputable def NRate___ge__ : List Str := ["self", "other", "parts"]
noncomputable def bRate___ge__ : SX := (sSeq (sSet 2 (mCallK mparts_of 1 0 [] [.p 0] (mCons (mVar 1) mNil) mNil)) (sSeq (sIf (mTest (mBin (dIsN false) (mVar 2) (mC .non))) (sRet mStk) sNx) (sRet (mBin (dCmpI fun i j => decide (j ≤ i)) (mBin dMulW (mBin dIx (mUn (dFld [(4, 0)] []) (mVar 0)) (mC (.int 0))) (mBin dIx (mVar 2) (mC (.int 1)))) (mBin dMulW (mBin dIx (mVar 2) (mC (.int 0))) (mBin dIx (mUn (dFld [(4, 0)] []) (mVar 0)) (mC (.int 1))))))))
noncomputable def mRate___ge__ : List D → M D := fnM 2 3 bRate___ge__
theorem okRate___ge__ (hS : ∃ o, base.get? sysModules = some o) (hTB : ∀ p ∈ tb, LamX.TabB base mg p.1 p.2) (T : Tp K mg cs tb) : MfW P w K mg base (sg K cs tb) 3 4 "__ge__" "Rate.__ge__" (inClass (top 13) 19) [] ["self", "other"] mRate___ge__ := by
  obtain ⟨f, fd, F, h1, h2, h3⟩ := T.wRate___ge__
  have okparts_of := okparts_of (P := P) (w := w) (base := base) hS hTB T
  refine ⟨f, fd, fn_okM (k := 2) (N := NRate___ge__) (S := sg K cs tb) (body := bRate___ge__) F.g (scpB_of (by kernel_rfl)) fun cdv A outer s pen G0 H E hcv hg hr => ?_, F, h1, h2, h3⟩
  have B := @Bx.def P w K mg base NRate___ge__ "Rate.__ge__" (defScope (inClass (top 13) 19)) f cdv A outer s H E (sg K cs tb) pen G0 H 2 hg hr rfl hS
  exact (mss_cons (ms_st (i := 2) (by kernel_rfl) (by kernel_rfl) (me_call B (k := 2) (ks := []) (l := [.p 0]) (FnW.t (ks := []) (dvs := []) (l := [.p 0]) okparts_of (fun f fd F => bdW0 F (fun s kV doc pm an cdv ct us ws h1 h2 => match us, ws, h1, h2 with | [_], [], _, _ => .of_eq (by kernel_rfl))) (by kernel_rfl)) (by kernel_rfl) (by kernel_rfl) (by kernel_rfl) (pak_pos (ma_cons (me_v (i := 1) (by kernel_rfl)) ma_nil)))) (mss_cons (ms_if (mt_cm c_is (me_v (i := 2) (by kernel_rfl)) me_non) (mss_one (ms_ret me_stk)) mss_nil) (mss_one (ms_ret (me_cm c_ge (me_mulW (me_ix B.hK (me_f B T.b2 (by rfl) (me_v (i := 0) (by kernel_rfl))) me_int fun _ _ => rfl) (me_ix B.hK (me_v (i := 2) (by kernel_rfl)) me_int fun _ _ => rfl)) (me_mulW (me_ix B.hK (me_v (i := 2) (by kernel_rfl)) me_int fun _ _ => rfl) (me_ix B.hK (me_f B T.b2 (by rfl) (me_v (i := 0) (by kernel_rfl))) me_int fun _ _ => rfl)))))))
/-! ### Rate___gt__ -/
noncomputable def NRate___gt__ : List Str := ["self", "other", "parts"]
noncomputable def bRate___gt__ : SX := (sSeq (sSet 2 (mCallK mparts_of 1 0 [] [.p 0] (mCons (mVar 1) mNil) mNil)) (sSeq (sIf (mTest (mBin (dIsN false) (mVar 2) (mC .non))) (sRet mStk) sNx) (sRet (mBin (dCmpI fun i j => decide (j < i)) (mBin dMulW (mBin dIx (mUn (dFld [(4, 0)] []) (mVar 0)) (mC (.int 0))) (mBin dIx (mVar 2) (mC (.int 1)))) (mBin dMulW (mBin dIx (mVar 2) (mC (.int 0))) (mBin dIx (mUn (dFld [(4, 0)] []) (mVar 0)) (mC (.int 1))))))))
noncomputable def mRate___gt__ : List D → M D := fnM 2 3 bRate___gt__
theorem okRate___gt__ (hS : ∃ o, base.get? sysModules = some o) (hTB : ∀ p ∈ tb, LamX.TabB base mg p.1 p.2) (T : Tp K mg cs tb) : MfW P w K mg base (sg K cs tb) 3 4 "__gt__" "Rate.__gt__" (inClass (top 13) 18) [] ["self", "other"] mRate___gt__ := by
  obtain ⟨f, fd, F, h1, h2, h3⟩ := T.wRate___gt__
  have okparts_of := okparts_of (P := P) (w := w) (base := base) hS hTB T
  refine ⟨f, fd, fn_okM (k := 2) (N := NRate___gt__) (S := sg K cs tb) (body := bRate___gt__) F.g (scpB_of (by kernel_rfl)) fun cdv A outer s pen G0 H E hcv hg hr => ?_, F, h1, h2, h3⟩
  have B := @Bx.def P w K mg base NRate___gt__ "Rate.__gt__" (defScope (inClass (top 13) 18)) f cdv A outer s H E (sg K cs tb) pen G0 H 2 hg hr rfl hS
  exact (mss_cons (ms_st (i := 2) (by kernel_rfl) (by kernel_rfl) (me_call B (k := 2) (ks := []) (l := [.p 0]) (FnW.t (ks := []) (dvs := []) (l := [.p 0]) okparts_of (fun f fd F => bdW0 F (fun s kV doc pm an cdv ct us ws h1 h2 => match us, ws, h1, h2 with | [_], [], _, _ => .of_eq (by kernel_rfl))) (by kernel_rfl)) (by kernel_rfl) (by kernel_rfl) (by kernel_rfl) (pak_pos (ma_cons (me_v (i := 1) (by kernel_rfl)) ma_nil)))) (mss_cons (ms_if (mt_cm c_is (me_v (i := 2) (by kernel_rfl)) me_non) (mss_one (ms_ret me_stk)) mss_nil) (mss_one (ms_ret (me_cm c_gt (me_mulW (me_ix B.hK (me_f B T.b2 (by rfl) (me_v (i := 0) (by kernel_rfl))) me_int fun _ _ => rfl) (me_ix B.hK (me_v (i := 2) (by kernel_rfl)) me_int fun _ _ => rfl)) (me_mulW (me_ix B.hK (me_v (i := 2) (by kernel_rfl)) me_int fun _ _ => rfl) (me_ix B.hK (me_f B T.b2 (by rfl) (me_v (i := 0) (by kernel_rfl))) me_int fun _ _ => rfl)))))))
/-! ### Rate___le__ -/
noncomputable def NRate___le__ : List Str := ["self", "other", "parts"]
noncomputable def bRate___le__ : SX := (sSeq (sSet 2 (mCallK mparts_of 1 0 [] [.p 0] (mCons (mVar 1) mNil) mNil)) (sSeq (sIf (mTest (mBin (dIsN false) (mVar 2) (mC .non))) (sRet mStk) sNx) (sRet (mBin (dCmpI fun i j => decide (i ≤ j)) (mBin dMulW (mBin dIx (mUn (dFld [(4, 0)] []) (mVar 0)) (mC (.int 0))) (mBin dIx (mVar 2) (mC (.int 1)))) (mBin dMulW (mBin dIx (mVar 2) (mC (.int 0))) (mBin dIx (mUn (dFld [(4, 0)] []) (mVar 0)) (mC (.int 1))))))))
noncomputable def mRate___le__ : List D → M D := fnM 2 3 bRate___le__
theorem okRate___le__ (hS : ∃ o, base.get? sysModules = some o) (hTB : ∀ p ∈ tb, LamX.TabB base mg p.1 p.2) (T : Tp K mg cs tb) : MfW P w K mg base (sg K cs tb) 3 4 "__le__" "Rate.__le__" (inClass (top 13) 17) [] ["self", "other"] mRate___le__ := by
  obtain ⟨f, fd, F, h1, h2, h3⟩ := T.wRate___le__
  have okparts_of := okparts_of (P := P) (w := w) (base := base) hS hTB T
  refine ⟨f, fd, fn_okM (k := 2) (N := NRate___le__) (S := sg K cs tb) (body := bRate___le__) F.g (scpB_of (by kernel_rfl)) fun cdv A outer s pen G0 H E hcv hg hr => ?_, F, h1, h2, h3⟩
  have B := @Bx.def P w K mg base NRate___le__ "Rate.__le__" (defScope (inClass (top 13) 17)) f cdv A outer s H E (sg K cs tb) pen G0 H 2 hg hr rfl hS
  exact (mss_cons (ms_st (i := 2) (by kernel_rfl) (by kernel_rfl) (me_call B (k := 2) (ks := []) (l := [.p 0]) (FnW.t (ks := []) (dvs := []) (l := [.p 0]) okparts_of (fun f fd F => bdW0 F (fun s kV doc pm an cdv ct us ws h1 h2 => match us, ws, h1, h2 with | [_], [], _, _ => .of_eq (by kernel_rfl))) (by kernel_rfl)) (by kernel_rfl) (by kernel_rfl) (by kernel_rfl) (pak_pos (ma_cons (me_v (i := 1) (by kernel_rfl)) ma_nil)))) (mss_cons (ms_if (mt_cm c_is (me_v (i := 2) (by kernel_rfl)) me_non) (mss_one (ms_ret me_stk)) mss_nil) (mss_one (ms_ret (me_cm c_le (me_mulW (me_ix B.hK (me_f B T.b2 (by rfl) (me_v (i := 0) (by kernel_rfl))) me_int fun _ _ => rfl) (me_ix B.hK (me_v (i := 2) (by kernel_rfl)) me_int fun _ _ => rfl)) (me_mulW (me_ix B.hK (me_v (i := 2) (by kernel_rfl)) me_int fun _ _ => rfl) (me_ix B.hK (me_f B T.b2 (by rfl) (me_v (i := 0) (by kernel_rfl))) me_int fun _ _ => rfl)))))))
/-! ### Rate___lt__ -/
noncomputable def NRate___lt__ : List Str := ["self", "other", "parts"]
noncomputable def bRate___lt__ : SX := (sSeq (sSet 2 (mCallK mparts_of 1 0 [] [.p 0] (mCons (mVar 1) mNil) mNil)) (sSeq (sIf (mTest (mBin (dIsN false) (mVar 2) (mC .non))) (sRet mStk) sNx) (sRet (mBin (dCmpI fun i j => decide (i < j)) (mBin dMulW (mBin dIx (mUn (dFld [(4, 0)] []) (mVar 0)) (mC (.int 0))) (mBin dIx (mVar 2) (mC (.int 1)))) (mBin dMulW (mBin dIx (mVar 2) (mC (.int 0))) (mBin dIx (mUn (dFld [(4, 0)] []) (mVar 0)) (mC (.int 1))))))))
noncomputable def mRate___lt__ : List D → M D := fnM 2 3 bRate___lt__
theorem okRate___lt__ (hS : ∃ o, base.get? sysModules = some o) (hTB : ∀ p ∈ tb, LamX.TabB base mg p.1 p.2) (T : Tp K mg cs tb) : MfW P w K mg base (sg K cs tb) 3 4 "__lt__" "Rate.__lt__" (inClass (top 13) 16) [] ["self", "other"] mRate___lt__ := by
  obtain ⟨f, fd, F, h1, h2, h3⟩ := T.wRate___lt__
  have okparts_of := okparts_of (P := P) (w := w) (base := base) hS hTB T
  refine ⟨f, fd, fn_okM (k := 2) (N := NRate___lt__) (S := sg K cs tb) (body := bRate___lt__) F.g (scpB_of (by kernel_rfl)) fun cdv A outer s pen G0 H E hcv hg hr => ?_, F, h1, h2, h3⟩
  have B := @Bx.def P w K mg base NRate___lt__ "Rate.__lt__" (defScope (inClass (top 13) 16)) f cdv A outer s H E (sg K cs tb) pen G0 H 2 hg hr rfl hS
  exact (mss_cons (ms_st (i := 2) (by kernel_rfl) (by kernel_rfl) (me_call B (k := 2) (ks := []) (l := [.p 0]) (FnW.t (ks := []) (dvs := []) (l := [.p 0]) okparts_of (fun f fd F => bdW0 F (fun s kV doc pm an cdv ct us ws h1 h2 => match us, ws, h1, h2 with | [_], [], _, _ => .of_eq (by kernel_rfl))) (by kernel_rfl)) (by kernel_rfl) (by kernel_rfl) (by kernel_rfl) (pak_pos (ma_cons (me_v (i := 1) (by kernel_rfl)) ma_nil)))) (mss_cons (ms_if (mt_cm c_is (me_v (i := 2) (by kernel_rfl)) me_non) (mss_one (ms_ret me_stk)) mss_nil) (mss_one (ms_ret (me_cm c_lt (me_mulW (me_ix B.hK (me_f B T.b2 (by rfl) (me_v (i := 0) (by kernel_rfl))) me_int fun _ _ => rfl) (me_ix B.hK (me_v (i := 2) (by kernel_rfl)) me_int fun _ _ => rfl)) (me_mulW (me_ix B.hK (me_v (i := 2) (by kernel_rfl)) me_int fun _ _ => rfl) (me_ix B.hK (me_f B T.b2 (by rfl) (me_v (i := 0) (by kernel_rfl))) me_int fun _ _ => rfl)))))))
/-! ### _law_heard -/
noncomputable def N_law_heard : List Str := ["_law_ask", "_law_caught", "error"]
noncomputable def b_law_heard (f : Nat) (act : M D) : SX := (sSeq (sSet 1 (mC .non)) (sSeq (sTry isT 0 2 1 (sExpr (mAct f act))) (sDrop 0 (sSeq (sIf (mTest (mBin (dIsN false) (mVar 1) (mC .non))) (sRet (mC .non)) sNx) (sRet (mIf (mTru (mCB (dIsi isT) (mCons (mVar 1) (mCons (mC (.cls 2)) mNil)))) (mUn (dFld [] [(2, 0)]) (mVar 1)) (mC (.str "odd"))))))))
noncomputable def m_law_heard (act : M D) : M D := fun p => outOf (b_law_heard 0 act (dsOf 3 [.clo 0]) p)
theorem u_law_heard (f : Nat) (act : M D) (p : Pn) : outOf (b_law_heard f act (dsOf 3 [.clo f]) p) = m_law_heard act p := (heard_u (i := 1) (j := 0) (fun _ _ => rfl) (Kd := fun _ => .inl _) (fun _ _ _ => rfl) f act p).trans (heard_u (i := 1) (j := 0) (fun _ _ => rfl) (Kd := fun _ => .inl _) (fun _ _ _ => rfl) 0 act p).symm
theorem ok_law_heard (hS : ∃ o, base.get? sysModules = some o) (hTB : ∀ p ∈ tb, LamX.TabB base mg p.1 p.2) (T : Tp K mg cs tb) : HrdT P w K mg base (sg K cs tb) 0 "_law_heard" m_law_heard := by
  obtain ⟨f, fd, F, hm, hk⟩ := T.d_law_heard
  have F2 := F
  obtain ⟨oc, od, dV, kV, doc, pm, an, cdv, ct, osl, e1, e2, e3, e4⟩ := F2
  refine ⟨f, fd, "_law_ask", (top 21), N_law_heard, oc, od, dV, kV, doc, pm, an, cdv, ct, osl, b_law_heard, e1, e2, e3, hm, hk, bdW0 F (fun s kV doc pm an cdv ct us ws h1 h2 => match us, ws, h1, h2 with | [_], [], _, _ => .of_eq (by kernel_rfl)), scpB_of (by kernel_rfl), rfl, visB_of (by kernel_rfl), (by kernel_rfl), u_law_heard, fun A outer s pen G0 H E f0 act hg hr Ac => ?_⟩
  have B := @Bx.def P w K mg base N_law_heard "_law_heard" (defScope (top 21)) f cdv A outer s H E (sg K cs tb) pen G0 H 0 hg hr rfl hS
  exact (mss_cons (ms_st (i := 1) (by kernel_rfl) (by kernel_rfl) me_non) (mss_cons (ms_try (i := 2) (j := 1) (ci := 0) rfl rfl rfl (by kernel_rfl) (by kernel_rfl) (by kernel_rfl) (by kernel_rfl) (by kernel_rfl) (by kernel_rfl) (by kernel_rfl) (by kernel_rfl) (T.cm 0 _ (by kernel_rfl)) B (exm_of T.b11) (fun _ => rfl) (fun _ => rfl) (fun W pn xe tk po => (mss_one (ms_actE (Ac W pn xe _ _ tk))))) (mss_drop (i := 0) (mss_cons (ms_if (mt_cm c_is (me_v (i := 1) (by kernel_rfl)) me_non) (mss_one (ms_ret me_non)) mss_nil) (mss_one (ms_ret (me_if (mt_tru B.hK (me_b (b_isi B T.isf) (T.bn _ (by kernel_rfl)) (by kernel_rfl) (by kernel_rfl) (ma_cons (me_v (i := 1) (by kernel_rfl)) (ma_cons (me_cls (c := 2) (T.cm 2 _ (by kernel_rfl)) (by kernel_rfl) (by kernel_rfl)) ma_nil)))) (me_f B (by rfl) T.b12 (me_v (i := 1) (by kernel_rfl))) me_str)))))))
/-! ### Rate_over -/
noncomputable def NRate_over : List Str := ["self", "other", "top", "bottom"]
noncomputable def bRate_over : SX := (sSeq (sUnp (gT (gs1 (gN 2) (gs1 (gN 3) gs0))) (mCallK mparts_of 1 0 [] [.p 0] (mCons (mVar 1) mNil) mNil)) (sSeq (sIf (mTest (mBin (dEq false) (mVar 2) (mC (.int 0)))) (sRaise 2 1 0 [] [.p 0] 1 (mCons (mC (.str "other")) mNil) mNil) sNx) (sRet (mNew 4 iRate 2 0 [.int 1] [.p 0, .p 1] (mCons (mBin dMulW (mBin dIx (mUn (dFld [(4, 0)] []) (mVar 0)) (mC (.int 0))) (mVar 3)) (mCons (mBin dMulW (mBin dIx (mUn (dFld [(4, 0)] []) (mVar 0)) (mC (.int 1))) (mVar 2)) mNil)) mNil))))
noncomputable def mRate_over : List D → M D := fnM 2 4 bRate_over
theorem okRate_over (hS : ∃ o, base.get? sysModules = some o) (hTB : ∀ p ∈ tb, LamX.TabB base mg p.1 p.2) (T : Tp K mg cs tb) : MfW P w K mg base (sg K cs tb) 5 4 "over" "Rate.over" (inClass (top 13) 6) [] ["self", "other"] mRate_over := by
  obtain ⟨f, fd, F, h1, h2, h3⟩ := T.wRate_over
  have okRate___init__ := okRate___init__ (P := P) (w := w) (base := base) hS hTB T
  have okparts_of := okparts_of (P := P) (w := w) (base := base) hS hTB T
  refine ⟨f, fd, fn_okM (k := 4) (N := NRate_over) (S := sg K cs tb) (body := bRate_over) F.g (scpB_of (by kernel_rfl)) fun cdv A outer s pen G0 H E hcv hg hr => ?_, F, h1, h2, h3⟩
  have B := @Bx.def P w K mg base NRate_over "Rate.over" (defScope (inClass (top 13) 6)) f cdv A outer s H E (sg K cs tb) pen G0 H 4 hg hr rfl hS
  exact (mss_cons (ms_unp (js := [2, 3]) (me_call B (k := 2) (ks := []) (l := [.p 0]) (FnW.t (ks := []) (dvs := []) (l := [.p 0]) okparts_of (fun f fd F => bdW0 F (fun s kV doc pm an cdv ct us ws h1 h2 => match us, ws, h1, h2 with | [_], [], _, _ => .of_eq (by kernel_rfl))) (by kernel_rfl)) (by kernel_rfl) (by kernel_rfl) (by kernel_rfl) (pak_pos (ma_cons (me_v (i := 1) (by kernel_rfl)) ma_nil))) (mg_tup B.hK B.calm (mgs_cons (mg_nm (i := 2) (by kernel_rfl) (by kernel_rfl) (by kernel_rfl) (by kernel_rfl)) (mgs_cons (mg_nm (i := 3) (by kernel_rfl) (by kernel_rfl) (by kernel_rfl) (by kernel_rfl)) mgs_nil)) (n := 2) rfl (gl1 (gl1 gl0)))) (mss_cons (ms_if (mt_cm (c_eq B) (me_v (i := 2) (by kernel_rfl)) me_int) (mss_one (ms_thr (c := 2) B (xt_2_1 T) (by kernel_rfl) (by kernel_rfl) (by kernel_rfl) (pak_pos (ma_cons me_str ma_nil)))) mss_nil) (mss_one (ms_ret (me_new (c := 4) B (k := 3) (ks := []) (l := [.p 0, .p 1]) (InW.t (ks := []) (dvs := [.int 1]) (l := [.p 0, .p 1]) okRate___init__ (T.cm 4 _ (by kernel_rfl)) T.b1 (fun f fd F => bdW1 F (fun T kV doc pm an cdv ct us its ws h1 h2 h3 => match us, its, ws, h1, h2, h3 with | [_, _, _], [_], [], _, _, _ => ⟨_, rfl, rfl⟩)) (by kernel_rfl)) (by kernel_rfl) (by kernel_rfl) (by kernel_rfl) (pak_pos (ma_cons (me_mulW (me_ix B.hK (me_f B T.b2 (by rfl) (me_v (i := 0) (by kernel_rfl))) me_int fun _ _ => rfl) (me_v (i := 3) (by kernel_rfl))) (ma_cons (me_mulW (me_ix B.hK (me_f B T.b2 (by rfl) (me_v (i := 0) (by kernel_rfl))) me_int fun _ _ => rfl) (me_v (i := 2) (by kernel_rfl))) ma_nil))))))))
/-! ### _law_two_right -/
noncomputable def N_law_two_right : List Str := ["_law_first", "_law_second", "_law_high", "_law_low", "_law_top_so", "_law_base", "_law_one", "_law_more", "_law_left", "_law_right", "_law_told", "_law_heard_here", "_law_way"]
noncomputable def b_law_two_right : SX := (sSeq (sUnp (gT (gs1 (gT (gs1 (gN 2) (gs1 (gN 3) gs0))) (gs1 (gT (gs1 (gN 4) (gs1 (gN 5) gs0))) gs0))) (mTup (mCons (mVar 0) (mCons (mVar 1) mNil)))) (sSeq (sUnp (gT (gs1 (gN 6) (gs1 (gN 7) gs0))) (mTup (mCons (mNew 4 iRate 2 0 [.int 1] [.p 0, .p 1] (mCons (mVar 2) (mCons (mVar 3) mNil)) mNil) (mCons (mNew 4 iRate 2 0 [.int 1] [.p 0, .p 1] (mCons (mVar 4) (mCons (mVar 5) mNil)) mNil) mNil)))) (sSeq (sIf (mOrT (mNotT (mTru (mCallK m_law_is 3 0 [] [.p 0, .p 1, .p 2] (mCons (mBin (dBop [(4, mRate___add__)] [4]) (mVar 6) (mVar 7)) (mCons (mBin dAdd (mBin dMulW (mVar 2) (mVar 5)) (mBin dMulW (mVar 4) (mVar 3))) (mCons (mBin dMulW (mVar 3) (mVar 5)) mNil))) mNil))) (mNotT (mTru (mCallK m_law_is 3 0 [] [.p 0, .p 1, .p 2] (mCons (mUn (dOwn1 [(4, mRate___neg__)]) (mVar 6)) (mCons (mBin dSub (mC (.int 0)) (mVar 2)) (mCons (mVar 3) mNil))) mNil)))) (sRet (mC (.bl false))) sNx) (sSeq (sIf (mNotT (mTru (mCallK m_law_is 3 0 [] [.p 0, .p 1, .p 2] (mCons (mBin (dBop [(4, mRate___sub__)] [4]) (mVar 6) (mVar 7)) (mCons (mBin dSub (mBin dMulW (mVar 2) (mVar 5)) (mBin dMulW (mVar 4) (mVar 3))) (mCons (mBin dMulW (mVar 3) (mVar 5)) mNil))) mNil))) (sRet (mC (.bl false))) sNx) (sSeq (sIf (mNotT (mTru (mCallK m_law_is 3 0 [] [.p 0, .p 1, .p 2] (mCons (mBin (dBop [(4, mRate___mul__)] [4]) (mVar 6) (mVar 7)) (mCons (mBin dMulW (mVar 2) (mVar 4)) (mCons (mBin dMulW (mVar 3) (mVar 5)) mNil))) mNil))) (sRet (mC (.bl false))) sNx) (sSeq (sIf (mTest (mBin (dDeq true [(4, mRate___eq__)] (dEq true)) (mComp (iRng (mCons (mC (.int 3)) mNil)) (gN 12) mYes (mCallK m_law_bound 3 0 [] [.p 0, .p 1, .p 2] (mCons (mVar 12) (mCons (mVar 6) (mCons (mVar 7) mNil))) mNil) [12]) (mLst (mCons (mBin (dBop [(4, mRate___add__)] [4]) (mVar 6) (mVar 7)) (mCons (mBin (dBop [(4, mRate___sub__)] [4]) (mVar 6) (mVar 7)) (mCons (mBin (dBop [(4, mRate___mul__)] [4]) (mVar 6) (mVar 7)) mNil)))))) (sRet (mC (.bl false))) sNx) (sSeq (sPar2 8 9 (mCons (mBin dMulW (mVar 2) (mVar 5)) (mCons (mBin dMulW (mVar 4) (mVar 3)) mNil))) (sSeq (sSet 10 (mLst (mCons (mBin (dOwnC [(4, mRate___lt__)] [4] (dCmpI fun i j => decide (i < j))) (mVar 6) (mVar 7)) (mCons (mBin (dOwnC [(4, mRate___le__)] [4] (dCmpI fun i j => decide (i ≤ j))) (mVar 6) (mVar 7)) (mCons (mBin (dOwnC [(4, mRate___gt__)] [4] (dCmpI fun i j => decide (j < i))) (mVar 6) (mVar 7)) (mCons (mBin (dOwnC [(4, mRate___ge__)] [4] (dCmpI fun i j => decide (j ≤ i))) (mVar 6) (mVar 7)) (mCons (mBin (dOwnC [(4, mRate___eq__)] [4] (dEq false)) (mVar 6) (mVar 7)) (mCons (mBin (dOwnC ([(4, mRate___eq__)].map fun q => (q.1, notM q.2)) [4] (dEq true)) (mVar 6) (mVar 7)) mNil)))))))) (sSeq (sIf (mTest (mBin (dEq true) (mCB dRepr (mCons (mVar 10) mNil)) (mCB dRepr (mCons (mLst (mCons (mBin (dCmpI fun i j => decide (i < j)) (mVar 8) (mVar 9)) (mCons (mBin (dCmpI fun i j => decide (i ≤ j)) (mVar 8) (mVar 9)) (mCons (mBin (dCmpI fun i j => decide (j < i)) (mVar 8) (mVar 9)) (mCons (mBin (dCmpI fun i j => decide (j ≤ i)) (mVar 8) (mVar 9)) (mCons (mBin (dOwnC [(4, mRate___eq__)] [4] (dEq false)) (mVar 8) (mVar 9)) (mCons (mBin (dOwnC ([(4, mRate___eq__)].map fun q => (q.1, notM q.2)) [4] (dEq true)) (mVar 8) (mVar 9)) mNil))))))) mNil)))) (sRet (mC (.bl false))) sNx) (sSeq (sIf (mTest (mBin (dEq false) (mVar 4) (mC (.int 0)))) (sSeq (sNewL 11 (mCons (mLam m_law_heard (mMth [(4, ([], [.p 0], mRate_over))] 1 0 (mVar 6) (mCons (mVar 7) mNil) mNil)) mNil)) (sSeq (sApp 11 (mLam m_law_heard (mMth [(4, ([], [.k 0], mRate_over))] 0 1 (mVar 6) mNil (mCons (mC (.int 0)) mNil)))) (sRet (mCmpM false 11 (mLst (mCons (mC (.str "other")) (mCons (mC (.str "other")) mNil))))))) sNx) (sRet (mBin (dOwnC [(4, mRate___eq__)] [4] (dEq false)) (mBin (dBop [(4, mRate___mul__)] [4]) (mMth [(4, ([], [.p 0], mRate_over))] 1 0 (mVar 6) (mCons (mVar 7) mNil) mNil) (mVar 7)) (mVar 6)))))))))))))
noncomputable def m_law_two_right : List D → M D := fnM 2 13 b_law_two_right
theorem ok_law_two_right (hS : ∃ o, base.get? sysModules = some o) (hTB : ∀ p ∈ tb, LamX.TabB base mg p.1 p.2) (T : Tp K mg cs tb) : FnW P w K mg base (sg K cs tb) 8 "_law_two_right" (top 23) [] ["_law_first", "_law_second"] m_law_two_right := by
  obtain ⟨f, fd, F, hm, hk, hcq⟩ := T.d_law_two_right
  have okRate___init__ := okRate___init__ (P := P) (w := w) (base := base) hS hTB T
  have okRate___eq__ := okRate___eq__ (P := P) (w := w) (base := base) hS hTB T
  have ok_law_is := ok_law_is (P := P) (w := w) (base := base) hS hTB T
  have okRate___add__ := okRate___add__ (P := P) (w := w) (base := base) hS hTB T
  have okRate___neg__ := okRate___neg__ (P := P) (w := w) (base := base) hS hTB T
  have okRate___sub__ := okRate___sub__ (P := P) (w := w) (base := base) hS hTB T
  have okRate___mul__ := okRate___mul__ (P := P) (w := w) (base := base) hS hTB T
  have ok_law_bound := ok_law_bound (P := P) (w := w) (base := base) hS hTB T
  have okRate___ge__ := okRate___ge__ (P := P) (w := w) (base := base) hS hTB T
  have okRate___gt__ := okRate___gt__ (P := P) (w := w) (base := base) hS hTB T
  have okRate___le__ := okRate___le__ (P := P) (w := w) (base := base) hS hTB T
  have okRate___lt__ := okRate___lt__ (P := P) (w := w) (base := base) hS hTB T
  have ok_law_heard := ok_law_heard (P := P) (w := w) (base := base) hS hTB T
  have okRate_over := okRate_over (P := P) (w := w) (base := base) hS hTB T
  refine ⟨f, fd, fn_okM (k := 7) (N := N_law_two_right) (S := sg K cs tb) (body := b_law_two_right) F.g (scpB_of (by kernel_rfl)) fun cdv A outer s pen G0 H E hcv hg hr => ?_, F, hm, hk⟩
  have B := @Bx.def P w K mg base N_law_two_right "_law_two_right" (defScope (top 23)) f cdv A outer s H E (sg K cs tb) pen G0 H 7 hg hr rfl hS
  have hcd := hcv.symm.trans hcq
  have lt := lamT_of (i := 0) (q := (("_law_two_right" : Str) ++ ".<locals>.") ++ "<lambda>") T.tbs (by kernel_rfl)
  exact (mss_cons (ms_unp (js := [2, 3, 4, 5]) (me_tup (ma_cons (me_v (i := 0) (by kernel_rfl)) (ma_cons (me_v (i := 1) (by kernel_rfl)) ma_nil))) (mg_tup B.hK B.calm (mgs_cons (mg_tup B.hK B.calm (mgs_cons (mg_nm (i := 2) (by kernel_rfl) (by kernel_rfl) (by kernel_rfl) (by kernel_rfl)) (mgs_cons (mg_nm (i := 3) (by kernel_rfl) (by kernel_rfl) (by kernel_rfl) (by kernel_rfl)) mgs_nil)) (n := 2) rfl (gl1 (gl1 gl0))) (mgs_cons (mg_tup B.hK B.calm (mgs_cons (mg_nm (i := 4) (by kernel_rfl) (by kernel_rfl) (by kernel_rfl) (by kernel_rfl)) (mgs_cons (mg_nm (i := 5) (by kernel_rfl) (by kernel_rfl) (by kernel_rfl) (by kernel_rfl)) mgs_nil)) (n := 2) rfl (gl1 (gl1 gl0))) mgs_nil)) (n := 2) rfl (gl1 (gl1 gl0)))) (mss_cons (ms_unp (js := [6, 7]) (me_tup (ma_cons (me_new (c := 4) B (k := 3) (ks := []) (l := [.p 0, .p 1]) (InW.t (ks := []) (dvs := [.int 1]) (l := [.p 0, .p 1]) okRate___init__ (T.cm 4 _ (by kernel_rfl)) T.b1 (fun f fd F => bdW1 F (fun T kV doc pm an cdv ct us its ws h1 h2 h3 => match us, its, ws, h1, h2, h3 with | [_, _, _], [_], [], _, _, _ => ⟨_, rfl, rfl⟩)) (by kernel_rfl)) (by kernel_rfl) (by kernel_rfl) (by kernel_rfl) (pak_pos (ma_cons (me_v (i := 2) (by kernel_rfl)) (ma_cons (me_v (i := 3) (by kernel_rfl)) ma_nil)))) (ma_cons (me_new (c := 4) B (k := 3) (ks := []) (l := [.p 0, .p 1]) (InW.t (ks := []) (dvs := [.int 1]) (l := [.p 0, .p 1]) okRate___init__ (T.cm 4 _ (by kernel_rfl)) T.b1 (fun f fd F => bdW1 F (fun T kV doc pm an cdv ct us its ws h1 h2 h3 => match us, its, ws, h1, h2, h3 with | [_, _, _], [_], [], _, _, _ => ⟨_, rfl, rfl⟩)) (by kernel_rfl)) (by kernel_rfl) (by kernel_rfl) (by kernel_rfl) (pak_pos (ma_cons (me_v (i := 4) (by kernel_rfl)) (ma_cons (me_v (i := 5) (by kernel_rfl)) ma_nil)))) ma_nil))) (mg_tup B.hK B.calm (mgs_cons (mg_nm (i := 6) (by kernel_rfl) (by kernel_rfl) (by kernel_rfl) (by kernel_rfl)) (mgs_cons (mg_nm (i := 7) (by kernel_rfl) (by kernel_rfl) (by kernel_rfl) (by kernel_rfl)) mgs_nil)) (n := 2) rfl (gl1 (gl1 gl0)))) (mss_cons (ms_if (PW.pt (mw_or (mt_not (mt_tru B.hK (me_call B (k := 5) (ks := []) (l := [.p 0, .p 1, .p 2]) (FnW.t (ks := []) (dvs := []) (l := [.p 0, .p 1, .p 2]) ok_law_is (fun f fd F => bdW0 F (fun s kV doc pm an cdv ct us ws h1 h2 => match us, ws, h1, h2 with | [_, _, _], [], _, _ => .of_eq (by kernel_rfl))) (by kernel_rfl)) (by kernel_rfl) (by kernel_rfl) (by kernel_rfl) (pak_pos (ma_cons (me_bopN (k := 5) (cs := [4]) (os := [4]) (by kernel_rfl) B (tab1 (OwnT.mono (k := 5) (MfW.o okRate___add__ (fun f fd F => bdW0 F (fun s kV doc pm an cdv ct us ws h1 h2 => match us, ws, h1, h2 with | [_, _], [], _, _ => .of_eq (by kernel_rfl)))) (by kernel_rfl))) (by kernel_rfl) rfl T.b5 (me_v (i := 6) (by kernel_rfl)) (me_v (i := 7) (by kernel_rfl))) (ma_cons (me_add B (me_mulW (me_v (i := 2) (by kernel_rfl)) (me_v (i := 5) (by kernel_rfl))) (me_mulW (me_v (i := 4) (by kernel_rfl)) (me_v (i := 3) (by kernel_rfl)))) (ma_cons (me_mulW (me_v (i := 3) (by kernel_rfl)) (me_v (i := 5) (by kernel_rfl))) ma_nil))))))) (mw_or1 (mt_not (mt_tru B.hK (me_call B (k := 5) (ks := []) (l := [.p 0, .p 1, .p 2]) (FnW.t (ks := []) (dvs := []) (l := [.p 0, .p 1, .p 2]) ok_law_is (fun f fd F => bdW0 F (fun s kV doc pm an cdv ct us ws h1 h2 => match us, ws, h1, h2 with | [_, _, _], [], _, _ => .of_eq (by kernel_rfl))) (by kernel_rfl)) (by kernel_rfl) (by kernel_rfl) (by kernel_rfl) (pak_pos (ma_cons (me_negO (k := 5) B (tab1 (OwnT.mono (k := 5) (MfW.o okRate___neg__ (fun f fd F => bdW0 F (fun s kV doc pm an cdv ct us ws h1 h2 => match us, ws, h1, h2 with | [_], [], _, _ => .of_eq (by kernel_rfl)))) (by kernel_rfl))) (by kernel_rfl) (me_v (i := 6) (by kernel_rfl))) (ma_cons (me_sub me_int (me_v (i := 2) (by kernel_rfl))) (ma_cons (me_v (i := 3) (by kernel_rfl)) ma_nil)))))))))) (mss_one (ms_ret me_bl)) mss_nil) (mss_cons (ms_if (mt_not (mt_tru B.hK (me_call B (k := 5) (ks := []) (l := [.p 0, .p 1, .p 2]) (FnW.t (ks := []) (dvs := []) (l := [.p 0, .p 1, .p 2]) ok_law_is (fun f fd F => bdW0 F (fun s kV doc pm an cdv ct us ws h1 h2 => match us, ws, h1, h2 with | [_, _, _], [], _, _ => .of_eq (by kernel_rfl))) (by kernel_rfl)) (by kernel_rfl) (by kernel_rfl) (by kernel_rfl) (pak_pos (ma_cons (me_bopN (k := 5) (cs := [4]) (os := [4]) (by kernel_rfl) B (tab1 (OwnT.mono (k := 5) (MfW.o okRate___sub__ (fun f fd F => bdW0 F (fun s kV doc pm an cdv ct us ws h1 h2 => match us, ws, h1, h2 with | [_, _], [], _, _ => .of_eq (by kernel_rfl)))) (by kernel_rfl))) (by kernel_rfl) rfl T.b6 (me_v (i := 6) (by kernel_rfl)) (me_v (i := 7) (by kernel_rfl))) (ma_cons (me_sub (me_mulW (me_v (i := 2) (by kernel_rfl)) (me_v (i := 5) (by kernel_rfl))) (me_mulW (me_v (i := 4) (by kernel_rfl)) (me_v (i := 3) (by kernel_rfl)))) (ma_cons (me_mulW (me_v (i := 3) (by kernel_rfl)) (me_v (i := 5) (by kernel_rfl))) ma_nil))))))) (mss_one (ms_ret me_bl)) mss_nil) (mss_cons (ms_if (mt_not (mt_tru B.hK (me_call B (k := 5) (ks := []) (l := [.p 0, .p 1, .p 2]) (FnW.t (ks := []) (dvs := []) (l := [.p 0, .p 1, .p 2]) ok_law_is (fun f fd F => bdW0 F (fun s kV doc pm an cdv ct us ws h1 h2 => match us, ws, h1, h2 with | [_, _, _], [], _, _ => .of_eq (by kernel_rfl))) (by kernel_rfl)) (by kernel_rfl) (by kernel_rfl) (by kernel_rfl) (pak_pos (ma_cons (me_bopN (k := 5) (cs := [4]) (os := [4]) (by kernel_rfl) B (tab1 (OwnT.mono (k := 5) (MfW.o okRate___mul__ (fun f fd F => bdW0 F (fun s kV doc pm an cdv ct us ws h1 h2 => match us, ws, h1, h2 with | [_, _], [], _, _ => .of_eq (by kernel_rfl)))) (by kernel_rfl))) (by kernel_rfl) rfl T.b7 (me_v (i := 6) (by kernel_rfl)) (me_v (i := 7) (by kernel_rfl))) (ma_cons (me_mulW (me_v (i := 2) (by kernel_rfl)) (me_v (i := 4) (by kernel_rfl))) (ma_cons (me_mulW (me_v (i := 3) (by kernel_rfl)) (me_v (i := 5) (by kernel_rfl))) ma_nil))))))) (mss_one (ms_ret me_bl)) mss_nil) (mss_cons (ms_if (mt_cm (c_dne (k := 3) (cs := [4]) (os := [4]) B (c_ne B) (tab1 (OwnT.mono (k := 3) (MfW.o okRate___eq__ (fun f fd F => bdW0 F (fun s kV doc pm an cdv ct us ws h1 h2 => match us, ws, h1, h2 with | [_, _], [], _, _ => .of_eq (by kernel_rfl)))) (by kernel_rfl))) (by kernel_rfl) rfl T.b3 (by kernel_rfl)) (me_lc (own := [("_law_way", 12)]) B.calm (nodB_of (by kernel_rfl)) (mi_rng (gl_of (by kernel_rfl)) (T.bn _ (by kernel_rfl)) (ma_cons me_int ma_nil)) (blkB_of (by kernel_rfl)) (fun s H C cl fp => (mg_nm (i := 12) (by kernel_rfl) (by kernel_rfl) (by kernel_rfl) (by kernel_rfl))) (fun s H C cl fp => mts_nil) (fun s H C cl fp => (me_call B.blk (k := 6) (ks := []) (l := [.p 0, .p 1, .p 2]) (FnW.t (ks := []) (dvs := []) (l := [.p 0, .p 1, .p 2]) ok_law_bound (fun f fd F => bdW0 F (fun s kV doc pm an cdv ct us ws h1 h2 => match us, ws, h1, h2 with | [_, _, _], [], _, _ => .of_eq (by kernel_rfl))) (by kernel_rfl)) (by kernel_rfl) (by kernel_rfl) (by kernel_rfl) (pak_pos (ma_cons (me_v (i := 12) (by kernel_rfl)) (ma_cons (me_v (i := 6) (by kernel_rfl)) (ma_cons (me_v (i := 7) (by kernel_rfl)) ma_nil))))))) (me_lst (ma_cons (me_bopN (k := 5) (cs := [4]) (os := [4]) (by kernel_rfl) B (tab1 (OwnT.mono (k := 5) (MfW.o okRate___add__ (fun f fd F => bdW0 F (fun s kV doc pm an cdv ct us ws h1 h2 => match us, ws, h1, h2 with | [_, _], [], _, _ => .of_eq (by kernel_rfl)))) (by kernel_rfl))) (by kernel_rfl) rfl T.b5 (me_v (i := 6) (by kernel_rfl)) (me_v (i := 7) (by kernel_rfl))) (ma_cons (me_bopN (k := 5) (cs := [4]) (os := [4]) (by kernel_rfl) B (tab1 (OwnT.mono (k := 5) (MfW.o okRate___sub__ (fun f fd F => bdW0 F (fun s kV doc pm an cdv ct us ws h1 h2 => match us, ws, h1, h2 with | [_, _], [], _, _ => .of_eq (by kernel_rfl)))) (by kernel_rfl))) (by kernel_rfl) rfl T.b6 (me_v (i := 6) (by kernel_rfl)) (me_v (i := 7) (by kernel_rfl))) (ma_cons (me_bopN (k := 5) (cs := [4]) (os := [4]) (by kernel_rfl) B (tab1 (OwnT.mono (k := 5) (MfW.o okRate___mul__ (fun f fd F => bdW0 F (fun s kV doc pm an cdv ct us ws h1 h2 => match us, ws, h1, h2 with | [_, _], [], _, _ => .of_eq (by kernel_rfl)))) (by kernel_rfl))) (by kernel_rfl) rfl T.b7 (me_v (i := 6) (by kernel_rfl)) (me_v (i := 7) (by kernel_rfl))) ma_nil))))) (mss_one (ms_ret me_bl)) mss_nil) (mss_cons (ms_par2 (i := 8) (j := 9) B.calm (nodB_of (by kernel_rfl)) (ixB_of (by kernel_rfl)) (ixB_of (by kernel_rfl)) (by decide) (lclB_of (by kernel_rfl)) (lclB_of (by kernel_rfl)) (ma_cons (me_mulW (me_v (i := 2) (by kernel_rfl)) (me_v (i := 5) (by kernel_rfl))) (ma_cons (me_mulW (me_v (i := 4) (by kernel_rfl)) (me_v (i := 3) (by kernel_rfl))) ma_nil)) rfl) (mss_cons (ms_st (i := 10) (by kernel_rfl) (by kernel_rfl) (me_lst (ma_cons (me_cm (c_ltO (k := 3) (cs := [4]) B (tab1 (OwnT.mono (k := 3) (MfW.o okRate___lt__ (fun f fd F => bdW0 F (fun s kV doc pm an cdv ct us ws h1 h2 => match us, ws, h1, h2 with | [_, _], [], _, _ => .of_eq (by kernel_rfl)))) (by kernel_rfl))) (by kernel_rfl) rfl T.b3) (me_v (i := 6) (by kernel_rfl)) (me_v (i := 7) (by kernel_rfl))) (ma_cons (me_cm (c_leO (k := 3) (cs := [4]) B (tab1 (OwnT.mono (k := 3) (MfW.o okRate___le__ (fun f fd F => bdW0 F (fun s kV doc pm an cdv ct us ws h1 h2 => match us, ws, h1, h2 with | [_, _], [], _, _ => .of_eq (by kernel_rfl)))) (by kernel_rfl))) (by kernel_rfl) rfl T.b3) (me_v (i := 6) (by kernel_rfl)) (me_v (i := 7) (by kernel_rfl))) (ma_cons (me_cm (c_gtO (k := 3) (cs := [4]) B (tab1 (OwnT.mono (k := 3) (MfW.o okRate___gt__ (fun f fd F => bdW0 F (fun s kV doc pm an cdv ct us ws h1 h2 => match us, ws, h1, h2 with | [_, _], [], _, _ => .of_eq (by kernel_rfl)))) (by kernel_rfl))) (by kernel_rfl) rfl T.b3) (me_v (i := 6) (by kernel_rfl)) (me_v (i := 7) (by kernel_rfl))) (ma_cons (me_cm (c_geO (k := 3) (cs := [4]) B (tab1 (OwnT.mono (k := 3) (MfW.o okRate___ge__ (fun f fd F => bdW0 F (fun s kV doc pm an cdv ct us ws h1 h2 => match us, ws, h1, h2 with | [_, _], [], _, _ => .of_eq (by kernel_rfl)))) (by kernel_rfl))) (by kernel_rfl) rfl T.b3) (me_v (i := 6) (by kernel_rfl)) (me_v (i := 7) (by kernel_rfl))) (ma_cons (me_cm (c_eqO (k := 3) (cs := [4]) B (tab1 (OwnT.mono (k := 3) (MfW.o okRate___eq__ (fun f fd F => bdW0 F (fun s kV doc pm an cdv ct us ws h1 h2 => match us, ws, h1, h2 with | [_, _], [], _, _ => .of_eq (by kernel_rfl)))) (by kernel_rfl))) (by kernel_rfl) rfl T.b3) (me_v (i := 6) (by kernel_rfl)) (me_v (i := 7) (by kernel_rfl))) (ma_cons (me_cm (c_neO (k := 3) (cs := [4]) B (tab1 (OwnT.mono (k := 3) (MfW.o okRate___eq__ (fun f fd F => bdW0 F (fun s kV doc pm an cdv ct us ws h1 h2 => match us, ws, h1, h2 with | [_, _], [], _, _ => .of_eq (by kernel_rfl)))) (by kernel_rfl))) (by kernel_rfl) rfl T.b3 T.b4) (me_v (i := 6) (by kernel_rfl)) (me_v (i := 7) (by kernel_rfl))) ma_nil)))))))) (mss_cons (ms_if (mt_cm (c_ne B) (me_b (b_repr B) (T.bn _ (by kernel_rfl)) (by kernel_rfl) (by kernel_rfl) (ma_cons (me_v (i := 10) (by kernel_rfl)) ma_nil)) (me_b (b_repr B) (T.bn _ (by kernel_rfl)) (by kernel_rfl) (by kernel_rfl) (ma_cons (me_lst (ma_cons (me_cm c_lt (me_v (i := 8) (by kernel_rfl)) (me_v (i := 9) (by kernel_rfl))) (ma_cons (me_cm c_le (me_v (i := 8) (by kernel_rfl)) (me_v (i := 9) (by kernel_rfl))) (ma_cons (me_cm c_gt (me_v (i := 8) (by kernel_rfl)) (me_v (i := 9) (by kernel_rfl))) (ma_cons (me_cm c_ge (me_v (i := 8) (by kernel_rfl)) (me_v (i := 9) (by kernel_rfl))) (ma_cons (me_cm (c_eqO (k := 3) (cs := [4]) B (tab1 (OwnT.mono (k := 3) (MfW.o okRate___eq__ (fun f fd F => bdW0 F (fun s kV doc pm an cdv ct us ws h1 h2 => match us, ws, h1, h2 with | [_, _], [], _, _ => .of_eq (by kernel_rfl)))) (by kernel_rfl))) (by kernel_rfl) rfl T.b3) (me_v (i := 8) (by kernel_rfl)) (me_v (i := 9) (by kernel_rfl))) (ma_cons (me_cm (c_neO (k := 3) (cs := [4]) B (tab1 (OwnT.mono (k := 3) (MfW.o okRate___eq__ (fun f fd F => bdW0 F (fun s kV doc pm an cdv ct us ws h1 h2 => match us, ws, h1, h2 with | [_, _], [], _, _ => .of_eq (by kernel_rfl)))) (by kernel_rfl))) (by kernel_rfl) rfl T.b3 T.b4) (me_v (i := 8) (by kernel_rfl)) (me_v (i := 9) (by kernel_rfl))) ma_nil))))))) ma_nil))) (mss_one (ms_ret me_bl)) mss_nil) (mss_cons (ms_if (mt_cm (c_eq B) (me_v (i := 4) (by kernel_rfl)) me_int) (mss_cons (ms_newL (i := 11) (nodB_of (by kernel_rfl)) (ixB_of (by kernel_rfl)) (locB_of (by kernel_rfl)) (ma_cons (me_lam B (k := 0) (kl := 5) ok_law_heard (by kernel_rfl) (by kernel_rfl) (by kernel_rfl) (by kernel_rfl) (hTB _ lt.2.2) hcd lt.1 lt.2.1 (by kernel_rfl) rfl (fun _ _ _ _ _ => rfl) (fun A outer s H E f c' G0 B0 hgA hrA => (me_mth (tbl := [(4, ([], [.p 0], mRate_over))]) (k := 5) (ks := []) (Bx.lam hgA hrA rfl hS) (tab1 (MthT.mono (k := 5) (MfW.m (ks := []) (dvs := []) (l := [.p 0]) okRate_over T.b13 (by kernel_rfl) (fun f fd F => bdW0 F (fun s kV doc pm an cdv ct us ws h1 h2 => match us, ws, h1, h2 with | [_, _], [], _, _ => .of_eq (by kernel_rfl))) (by kernel_rfl)) (by kernel_rfl))) (by kernel_rfl) (me_v (i := 6) (by kernel_rfl)) (pak_pos (ma_cons (me_v (i := 7) (by kernel_rfl)) ma_nil))))) ma_nil)) (mss_cons (ms_app (i := 11) (ixB_of (by kernel_rfl)) (visB_of (by kernel_rfl)) B.hK (me_lam B (k := 0) (kl := 5) ok_law_heard (by kernel_rfl) (by kernel_rfl) (by kernel_rfl) (by kernel_rfl) (hTB _ lt.2.2) hcd lt.1 lt.2.1 (by kernel_rfl) rfl (fun _ _ _ _ _ => rfl) (fun A outer s H E f c' G0 B0 hgA hrA => (me_mth (tbl := [(4, ([], [.k 0], mRate_over))]) (k := 5) (ks := ["other"]) (Bx.lam hgA hrA rfl hS) (tab1 (MthT.mono (k := 5) (MfW.m (ks := ["other"]) (dvs := []) (l := [.k 0]) okRate_over T.b13 (by kernel_rfl) (fun f fd F => bdW0 F (fun s kV doc pm an cdv ct us ws h1 h2 => match us, ws, h1, h2 with | [_], [_], _, _ => .of_eq (by kernel_rfl))) (by kernel_rfl)) (by kernel_rfl))) (by kernel_rfl) (me_v (i := 6) (by kernel_rfl)) (pak_kw (mk_cons me_int mk_nil)))))) (mss_one (ms_ret (me_cmpM (neg := false) (i := 11) B (.inl ⟨rfl, rfl⟩) (by kernel_rfl) (by kernel_rfl) (me_lst (ma_cons me_str (ma_cons me_str ma_nil)))))))) mss_nil) (mss_one (ms_ret (me_cm (c_eqO (k := 3) (cs := [4]) B (tab1 (OwnT.mono (k := 3) (MfW.o okRate___eq__ (fun f fd F => bdW0 F (fun s kV doc pm an cdv ct us ws h1 h2 => match us, ws, h1, h2 with | [_, _], [], _, _ => .of_eq (by kernel_rfl)))) (by kernel_rfl))) (by kernel_rfl) rfl T.b3) (me_bopN (k := 5) (cs := [4]) (os := [4]) (by kernel_rfl) B (tab1 (OwnT.mono (k := 5) (MfW.o okRate___mul__ (fun f fd F => bdW0 F (fun s kV doc pm an cdv ct us ws h1 h2 => match us, ws, h1, h2 with | [_, _], [], _, _ => .of_eq (by kernel_rfl)))) (by kernel_rfl))) (by kernel_rfl) rfl T.b7 (me_mth (tbl := [(4, ([], [.p 0], mRate_over))]) (k := 5) (ks := []) B (tab1 (MthT.mono (k := 5) (MfW.m (ks := []) (dvs := []) (l := [.p 0]) okRate_over T.b13 (by kernel_rfl) (fun f fd F => bdW0 F (fun s kV doc pm an cdv ct us ws h1 h2 => match us, ws, h1, h2 with | [_, _], [], _, _ => .of_eq (by kernel_rfl))) (by kernel_rfl)) (by kernel_rfl))) (by kernel_rfl) (me_v (i := 6) (by kernel_rfl)) (pak_pos (ma_cons (me_v (i := 7) (by kernel_rfl)) ma_nil))) (me_v (i := 7) (by kernel_rfl))) (me_v (i := 6) (by kernel_rfl)))))))))))))))
/-! ### Rate___radd__ -/
noncomputable def NRate___radd__ : List Str := ["self", "other"]
noncomputable def bRate___radd__ : SX := (sRet (mBin (dBop [(4, mRate___add__)] [4]) (mVar 0) (mVar 1)))
noncomputable def mRate___radd__ : List D → M D := fnM 2 2 bRate___radd__
theorem okRate___radd__ (hS : ∃ o, base.get? sysModules = some o) (hTB : ∀ p ∈ tb, LamX.TabB base mg p.1 p.2) (T : Tp K mg cs tb) : MfW P w K mg base (sg K cs tb) 6 4 "__radd__" "Rate.__radd__" (inClass (top 13) 8) [] ["self", "other"] mRate___radd__ := by
  obtain ⟨f, fd, F, h1, h2, h3⟩ := T.wRate___radd__
  have okRate___add__ := okRate___add__ (P := P) (w := w) (base := base) hS hTB T
  refine ⟨f, fd, fn_okM (k := 5) (N := NRate___radd__) (S := sg K cs tb) (body := bRate___radd__) F.g (scpB_of (by kernel_rfl)) fun cdv A outer s pen G0 H E hcv hg hr => ?_, F, h1, h2, h3⟩
  have B := @Bx.def P w K mg base NRate___radd__ "Rate.__radd__" (defScope (inClass (top 13) 8)) f cdv A outer s H E (sg K cs tb) pen G0 H 5 hg hr rfl hS
  exact (mss_one (ms_ret (me_bopN (k := 5) (cs := [4]) (os := [4]) (by kernel_rfl) B (tab1 (OwnT.mono (k := 5) (MfW.o okRate___add__ (fun f fd F => bdW0 F (fun s kV doc pm an cdv ct us ws h1 h2 => match us, ws, h1, h2 with | [_, _], [], _, _ => .of_eq (by kernel_rfl)))) (by kernel_rfl))) (by kernel_rfl) rfl T.b5 (me_v (i := 0) (by kernel_rfl)) (me_v (i := 1) (by kernel_rfl)))))
/-! ### Rate___rsub__ -/
noncomputable def NRate___rsub__ : List Str := ["self", "other"]
noncomputable def bRate___rsub__ : SX := (sRet (mBin (dBop [(4, mRate___add__)] [4]) (mUn (dOwn1 [(4, mRate___neg__)]) (mVar 0)) (mVar 1)))
noncomputable def mRate___rsub__ : List D → M D := fnM 2 2 bRate___rsub__
theorem okRate___rsub__ (hS : ∃ o, base.get? sysModules = some o) (hTB : ∀ p ∈ tb, LamX.TabB base mg p.1 p.2) (T : Tp K mg cs tb) : MfW P w K mg base (sg K cs tb) 6 4 "__rsub__" "Rate.__rsub__" (inClass (top 13) 10) [] ["self", "other"] mRate___rsub__ := by
  obtain ⟨f, fd, F, h1, h2, h3⟩ := T.wRate___rsub__
  have okRate___add__ := okRate___add__ (P := P) (w := w) (base := base) hS hTB T
  have okRate___neg__ := okRate___neg__ (P := P) (w := w) (base := base) hS hTB T
  refine ⟨f, fd, fn_okM (k := 5) (N := NRate___rsub__) (S := sg K cs tb) (body := bRate___rsub__) F.g (scpB_of (by kernel_rfl)) fun cdv A outer s pen G0 H E hcv hg hr => ?_, F, h1, h2, h3⟩
  have B := @Bx.def P w K mg base NRate___rsub__ "Rate.__rsub__" (defScope (inClass (top 13) 10)) f cdv A outer s H E (sg K cs tb) pen G0 H 5 hg hr rfl hS
  exact (mss_one (ms_ret (me_bopN (k := 5) (cs := [4]) (os := [4]) (by kernel_rfl) B (tab1 (OwnT.mono (k := 5) (MfW.o okRate___add__ (fun f fd F => bdW0 F (fun s kV doc pm an cdv ct us ws h1 h2 => match us, ws, h1, h2 with | [_, _], [], _, _ => .of_eq (by kernel_rfl)))) (by kernel_rfl))) (by kernel_rfl) rfl T.b5 (me_negO (k := 5) B (tab1 (OwnT.mono (k := 5) (MfW.o okRate___neg__ (fun f fd F => bdW0 F (fun s kV doc pm an cdv ct us ws h1 h2 => match us, ws, h1, h2 with | [_], [], _, _ => .of_eq (by kernel_rfl)))) (by kernel_rfl))) (by kernel_rfl) (me_v (i := 0) (by kernel_rfl))) (me_v (i := 1) (by kernel_rfl)))))
/-! ### Rate___rmul__ -/
noncomputable def NRate___rmul__ : List Str := ["self", "other"]
noncomputable def bRate___rmul__ : SX := (sRet (mBin (dBop [(4, mRate___mul__)] [4]) (mVar 0) (mVar 1)))
noncomputable def mRate___rmul__ : List D → M D := fnM 2 2 bRate___rmul__
theorem okRate___rmul__ (hS : ∃ o, base.get? sysModules = some o) (hTB : ∀ p ∈ tb, LamX.TabB base mg p.1 p.2) (T : Tp K mg cs tb) : MfW P w K mg base (sg K cs tb) 6 4 "__rmul__" "Rate.__rmul__" (inClass (top 13) 12) [] ["self", "other"] mRate___rmul__ := by
  obtain ⟨f, fd, F, h1, h2, h3⟩ := T.wRate___rmul__
  have okRate___mul__ := okRate___mul__ (P := P) (w := w) (base := base) hS hTB T
  refine ⟨f, fd, fn_okM (k := 5) (N := NRate___rmul__) (S := sg K cs tb) (body := bRate___rmul__) F.g (scpB_of (by kernel_rfl)) fun cdv A outer s pen G0 H E hcv hg hr => ?_, F, h1, h2, h3⟩
  have B := @Bx.def P w K mg base NRate___rmul__ "Rate.__rmul__" (defScope (inClass (top 13) 12)) f cdv A outer s H E (sg K cs tb) pen G0 H 5 hg hr rfl hS
  exact (mss_one (ms_ret (me_bopN (k := 5) (cs := [4]) (os := [4]) (by kernel_rfl) B (tab1 (OwnT.mono (k := 5) (MfW.o okRate___mul__ (fun f fd F => bdW0 F (fun s kV doc pm an cdv ct us ws h1 h2 => match us, ws, h1, h2 with | [_, _], [], _, _ => .of_eq (by kernel_rfl)))) (by kernel_rfl))) (by kernel_rfl) rfl T.b7 (me_v (i := 0) (by kernel_rfl)) (me_v (i := 1) (by kernel_rfl)))))
/-! ### _law_integers_right -/
noncomputable def N_law_integers_right : List Str := ["_law_first", "_law_k", "_law_high", "_law_low", "_law_one", "_law_told", "_law_left", "_law_right", "_law_due"]
noncomputable def b_law_integers_right : SX := (sSeq (sUnp (gT (gs1 (gN 2) (gs1 (gN 3) gs0))) (mVar 0)) (sSeq (sSet 4 (mNew 4 iRate 2 0 [.int 1] [.p 0, .p 1] (mCons (mVar 2) (mCons (mVar 3) mNil)) mNil)) (sSeq (sIf (mOrT (mNotT (mTru (mCallK m_law_is 3 0 [] [.p 0, .p 1, .p 2] (mCons (mBin (dBop [(4, mRate___add__)] [4]) (mVar 4) (mVar 1)) (mCons (mBin dAdd (mVar 2) (mBin dMulW (mVar 1) (mVar 3))) (mCons (mVar 3) mNil))) mNil))) (mNotT (mTru (mCallK m_law_is 3 0 [] [.p 0, .p 1, .p 2] (mCons (mBin (dAddO [(4, mRate___add__)] [(4, mRate___radd__)] [4]) (mVar 1) (mVar 4)) (mCons (mBin dAdd (mVar 2) (mBin dMulW (mVar 1) (mVar 3))) (mCons (mVar 3) mNil))) mNil)))) (sRet (mC (.bl false))) sNx) (sSeq (sIf (mOrT (mNotT (mTru (mCallK m_law_is 3 0 [] [.p 0, .p 1, .p 2] (mCons (mBin (dBop [(4, mRate___sub__)] [4]) (mVar 4) (mVar 1)) (mCons (mBin dSub (mVar 2) (mBin dMulW (mVar 1) (mVar 3))) (mCons (mVar 3) mNil))) mNil))) (mNotT (mTru (mCallK m_law_is 3 0 [] [.p 0, .p 1, .p 2] (mCons (mBin (dSubO [(4, mRate___sub__)] [(4, mRate___rsub__)] [4]) (mVar 1) (mVar 4)) (mCons (mBin dSub (mBin dMulW (mVar 1) (mVar 3)) (mVar 2)) (mCons (mVar 3) mNil))) mNil)))) (sRet (mC (.bl false))) sNx) (sSeq (sIf (mOrT (mNotT (mTru (mCallK m_law_is 3 0 [] [.p 0, .p 1, .p 2] (mCons (mBin (dBop [(4, mRate___mul__)] [4]) (mVar 4) (mVar 1)) (mCons (mBin dMulW (mVar 2) (mVar 1)) (mCons (mVar 3) mNil))) mNil))) (mNotT (mTru (mCallK m_law_is 3 0 [] [.p 0, .p 1, .p 2] (mCons (mBin (dMulO [(4, mRate___mul__)] [(4, mRate___rmul__)] [4]) (mVar 1) (mVar 4)) (mCons (mBin dMulW (mVar 2) (mVar 1)) (mCons (mVar 3) mNil))) mNil)))) (sRet (mC (.bl false))) sNx) (sSeq (sSet 5 (mLst (mCons (mBin (dOwnC [(4, mRate___lt__)] [4] (dCmpI fun i j => decide (i < j))) (mVar 4) (mVar 1)) (mCons (mBin (dOwnC [(4, mRate___le__)] [4] (dCmpI fun i j => decide (i ≤ j))) (mVar 4) (mVar 1)) (mCons (mBin (dOwnC [(4, mRate___gt__)] [4] (dCmpI fun i j => decide (j < i))) (mVar 4) (mVar 1)) (mCons (mBin (dOwnC [(4, mRate___ge__)] [4] (dCmpI fun i j => decide (j ≤ i))) (mVar 4) (mVar 1)) (mCons (mBin (dEqR [(4, mRate___gt__)] (dCmpI fun i j => decide (i < j))) (mVar 1) (mVar 4)) (mCons (mBin (dEqR [(4, mRate___ge__)] (dCmpI fun i j => decide (i ≤ j))) (mVar 1) (mVar 4)) (mCons (mBin (dEqR [(4, mRate___lt__)] (dCmpI fun i j => decide (j < i))) (mVar 1) (mVar 4)) (mCons (mBin (dEqR [(4, mRate___le__)] (dCmpI fun i j => decide (j ≤ i))) (mVar 1) (mVar 4)) (mCons (mBin (dOwnC [(4, mRate___eq__)] [4] (dEq false)) (mVar 4) (mVar 1)) mNil))))))))))) (sSeq (sPar2 6 7 (mCons (mVar 2) (mCons (mBin dMulW (mVar 1) (mVar 3)) mNil))) (sSeq (sSet 8 (mLst (mCons (mBin (dCmpI fun i j => decide (i < j)) (mVar 6) (mVar 7)) (mCons (mBin (dCmpI fun i j => decide (i ≤ j)) (mVar 6) (mVar 7)) (mCons (mBin (dCmpI fun i j => decide (j < i)) (mVar 6) (mVar 7)) (mCons (mBin (dCmpI fun i j => decide (j ≤ i)) (mVar 6) (mVar 7)) mNil)))))) (sRet (mBin (dOwnC [(4, mRate___eq__)] [4] (dEq false)) (mVar 5) (mBin dAdd (mVar 8) (mLst (mCons (mBin (dCmpI fun i j => decide (j < i)) (mVar 6) (mVar 7)) (mCons (mBin (dCmpI fun i j => decide (j ≤ i)) (mVar 6) (mVar 7)) (mCons (mBin (dCmpI fun i j => decide (i < j)) (mVar 6) (mVar 7)) (mCons (mBin (dCmpI fun i j => decide (i ≤ j)) (mVar 6) (mVar 7)) (mCons (mBin (dOwnC [(4, mRate___eq__)] [4] (dEq false)) (mVar 6) (mVar 7)) mNil)))))))))))))))))
noncomputable def m_law_integers_right : List D → M D := fnM 2 9 b_law_integers_right
theorem ok_law_integers_right (hS : ∃ o, base.get? sysModules = some o) (hTB : ∀ p ∈ tb, LamX.TabB base mg p.1 p.2) (T : Tp K mg cs tb) : FnW P w K mg base (sg K cs tb) 7 "_law_integers_right" (top 24) [] ["_law_first", "_law_k"] m_law_integers_right := by
  obtain ⟨f, fd, F, hm, hk⟩ := T.d_law_integers_right
  have okRate___init__ := okRate___init__ (P := P) (w := w) (base := base) hS hTB T
  have okRate___eq__ := okRate___eq__ (P := P) (w := w) (base := base) hS hTB T
  have ok_law_is := ok_law_is (P := P) (w := w) (base := base) hS hTB T
  have okRate___add__ := okRate___add__ (P := P) (w := w) (base := base) hS hTB T
  have okRate___sub__ := okRate___sub__ (P := P) (w := w) (base := base) hS hTB T
  have okRate___mul__ := okRate___mul__ (P := P) (w := w) (base := base) hS hTB T
  have okRate___ge__ := okRate___ge__ (P := P) (w := w) (base := base) hS hTB T
  have okRate___gt__ := okRate___gt__ (P := P) (w := w) (base := base) hS hTB T
  have okRate___le__ := okRate___le__ (P := P) (w := w) (base := base) hS hTB T
  have okRate___lt__ := okRate___lt__ (P := P) (w := w) (base := base) hS hTB T
  have okRate___radd__ := okRate___radd__ (P := P) (w := w) (base := base) hS hTB T
  have okRate___rsub__ := okRate___rsub__ (P := P) (w := w) (base := base) hS hTB T
  have okRate___rmul__ := okRate___rmul__ (P := P) (w := w) (base := base) hS hTB T
  refine ⟨f, fd, fn_okM (k := 6) (N := N_law_integers_right) (S := sg K cs tb) (body := b_law_integers_right) F.g (scpB_of (by kernel_rfl)) fun cdv A outer s pen G0 H E hcv hg hr => ?_, F, hm, hk⟩
  have B := @Bx.def P w K mg base N_law_integers_right "_law_integers_right" (defScope (top 24)) f cdv A outer s H E (sg K cs tb) pen G0 H 6 hg hr rfl hS
  exact (mss_cons (ms_unp (js := [2, 3]) (me_v (i := 0) (by kernel_rfl)) (mg_tup B.hK B.calm (mgs_cons (mg_nm (i := 2) (by kernel_rfl) (by kernel_rfl) (by kernel_rfl) (by kernel_rfl)) (mgs_cons (mg_nm (i := 3) (by kernel_rfl) (by kernel_rfl) (by kernel_rfl) (by kernel_rfl)) mgs_nil)) (n := 2) rfl (gl1 (gl1 gl0)))) (mss_cons (ms_st (i := 4) (by kernel_rfl) (by kernel_rfl) (me_new (c := 4) B (k := 3) (ks := []) (l := [.p 0, .p 1]) (InW.t (ks := []) (dvs := [.int 1]) (l := [.p 0, .p 1]) okRate___init__ (T.cm 4 _ (by kernel_rfl)) T.b1 (fun f fd F => bdW1 F (fun T kV doc pm an cdv ct us its ws h1 h2 h3 => match us, its, ws, h1, h2, h3 with | [_, _, _], [_], [], _, _, _ => ⟨_, rfl, rfl⟩)) (by kernel_rfl)) (by kernel_rfl) (by kernel_rfl) (by kernel_rfl) (pak_pos (ma_cons (me_v (i := 2) (by kernel_rfl)) (ma_cons (me_v (i := 3) (by kernel_rfl)) ma_nil))))) (mss_cons (ms_if (PW.pt (mw_or (mt_not (mt_tru B.hK (me_call B (k := 5) (ks := []) (l := [.p 0, .p 1, .p 2]) (FnW.t (ks := []) (dvs := []) (l := [.p 0, .p 1, .p 2]) ok_law_is (fun f fd F => bdW0 F (fun s kV doc pm an cdv ct us ws h1 h2 => match us, ws, h1, h2 with | [_, _, _], [], _, _ => .of_eq (by kernel_rfl))) (by kernel_rfl)) (by kernel_rfl) (by kernel_rfl) (by kernel_rfl) (pak_pos (ma_cons (me_bopN (k := 5) (cs := [4]) (os := [4]) (by kernel_rfl) B (tab1 (OwnT.mono (k := 5) (MfW.o okRate___add__ (fun f fd F => bdW0 F (fun s kV doc pm an cdv ct us ws h1 h2 => match us, ws, h1, h2 with | [_, _], [], _, _ => .of_eq (by kernel_rfl)))) (by kernel_rfl))) (by kernel_rfl) rfl T.b5 (me_v (i := 4) (by kernel_rfl)) (me_v (i := 1) (by kernel_rfl))) (ma_cons (me_add B (me_v (i := 2) (by kernel_rfl)) (me_mulW (me_v (i := 1) (by kernel_rfl)) (me_v (i := 3) (by kernel_rfl)))) (ma_cons (me_v (i := 3) (by kernel_rfl)) ma_nil))))))) (mw_or1 (mt_not (mt_tru B.hK (me_call B (k := 5) (ks := []) (l := [.p 0, .p 1, .p 2]) (FnW.t (ks := []) (dvs := []) (l := [.p 0, .p 1, .p 2]) ok_law_is (fun f fd F => bdW0 F (fun s kV doc pm an cdv ct us ws h1 h2 => match us, ws, h1, h2 with | [_, _, _], [], _, _ => .of_eq (by kernel_rfl))) (by kernel_rfl)) (by kernel_rfl) (by kernel_rfl) (by kernel_rfl) (pak_pos (ma_cons (me_addO (k := 5) (k2 := 6) (cs := [4]) (csR := [4]) (os := [4]) (by kernel_rfl) B (tab1 (OwnT.mono (k := 5) (MfW.o okRate___add__ (fun f fd F => bdW0 F (fun s kV doc pm an cdv ct us ws h1 h2 => match us, ws, h1, h2 with | [_, _], [], _, _ => .of_eq (by kernel_rfl)))) (by kernel_rfl))) (by kernel_rfl) rfl T.b5 (tab1 (OwnT.mono (k := 6) (MfW.o okRate___radd__ (fun f fd F => bdW0 F (fun s kV doc pm an cdv ct us ws h1 h2 => match us, ws, h1, h2 with | [_, _], [], _, _ => .of_eq (by kernel_rfl)))) (by kernel_rfl))) (by kernel_rfl) rfl T.b14 (me_v (i := 1) (by kernel_rfl)) (me_v (i := 4) (by kernel_rfl))) (ma_cons (me_add B (me_v (i := 2) (by kernel_rfl)) (me_mulW (me_v (i := 1) (by kernel_rfl)) (me_v (i := 3) (by kernel_rfl)))) (ma_cons (me_v (i := 3) (by kernel_rfl)) ma_nil)))))))))) (mss_one (ms_ret me_bl)) mss_nil) (mss_cons (ms_if (PW.pt (mw_or (mt_not (mt_tru B.hK (me_call B (k := 5) (ks := []) (l := [.p 0, .p 1, .p 2]) (FnW.t (ks := []) (dvs := []) (l := [.p 0, .p 1, .p 2]) ok_law_is (fun f fd F => bdW0 F (fun s kV doc pm an cdv ct us ws h1 h2 => match us, ws, h1, h2 with | [_, _, _], [], _, _ => .of_eq (by kernel_rfl))) (by kernel_rfl)) (by kernel_rfl) (by kernel_rfl) (by kernel_rfl) (pak_pos (ma_cons (me_bopN (k := 5) (cs := [4]) (os := [4]) (by kernel_rfl) B (tab1 (OwnT.mono (k := 5) (MfW.o okRate___sub__ (fun f fd F => bdW0 F (fun s kV doc pm an cdv ct us ws h1 h2 => match us, ws, h1, h2 with | [_, _], [], _, _ => .of_eq (by kernel_rfl)))) (by kernel_rfl))) (by kernel_rfl) rfl T.b6 (me_v (i := 4) (by kernel_rfl)) (me_v (i := 1) (by kernel_rfl))) (ma_cons (me_sub (me_v (i := 2) (by kernel_rfl)) (me_mulW (me_v (i := 1) (by kernel_rfl)) (me_v (i := 3) (by kernel_rfl)))) (ma_cons (me_v (i := 3) (by kernel_rfl)) ma_nil))))))) (mw_or1 (mt_not (mt_tru B.hK (me_call B (k := 5) (ks := []) (l := [.p 0, .p 1, .p 2]) (FnW.t (ks := []) (dvs := []) (l := [.p 0, .p 1, .p 2]) ok_law_is (fun f fd F => bdW0 F (fun s kV doc pm an cdv ct us ws h1 h2 => match us, ws, h1, h2 with | [_, _, _], [], _, _ => .of_eq (by kernel_rfl))) (by kernel_rfl)) (by kernel_rfl) (by kernel_rfl) (by kernel_rfl) (pak_pos (ma_cons (me_subO (k := 5) (k2 := 6) (cs := [4]) (csR := [4]) (os := [4]) (by kernel_rfl) B (tab1 (OwnT.mono (k := 5) (MfW.o okRate___sub__ (fun f fd F => bdW0 F (fun s kV doc pm an cdv ct us ws h1 h2 => match us, ws, h1, h2 with | [_, _], [], _, _ => .of_eq (by kernel_rfl)))) (by kernel_rfl))) (by kernel_rfl) rfl T.b6 (tab1 (OwnT.mono (k := 6) (MfW.o okRate___rsub__ (fun f fd F => bdW0 F (fun s kV doc pm an cdv ct us ws h1 h2 => match us, ws, h1, h2 with | [_, _], [], _, _ => .of_eq (by kernel_rfl)))) (by kernel_rfl))) (by kernel_rfl) rfl T.b15 (me_v (i := 1) (by kernel_rfl)) (me_v (i := 4) (by kernel_rfl))) (ma_cons (me_sub (me_mulW (me_v (i := 1) (by kernel_rfl)) (me_v (i := 3) (by kernel_rfl))) (me_v (i := 2) (by kernel_rfl))) (ma_cons (me_v (i := 3) (by kernel_rfl)) ma_nil)))))))))) (mss_one (ms_ret me_bl)) mss_nil) (mss_cons (ms_if (PW.pt (mw_or (mt_not (mt_tru B.hK (me_call B (k := 5) (ks := []) (l := [.p 0, .p 1, .p 2]) (FnW.t (ks := []) (dvs := []) (l := [.p 0, .p 1, .p 2]) ok_law_is (fun f fd F => bdW0 F (fun s kV doc pm an cdv ct us ws h1 h2 => match us, ws, h1, h2 with | [_, _, _], [], _, _ => .of_eq (by kernel_rfl))) (by kernel_rfl)) (by kernel_rfl) (by kernel_rfl) (by kernel_rfl) (pak_pos (ma_cons (me_bopN (k := 5) (cs := [4]) (os := [4]) (by kernel_rfl) B (tab1 (OwnT.mono (k := 5) (MfW.o okRate___mul__ (fun f fd F => bdW0 F (fun s kV doc pm an cdv ct us ws h1 h2 => match us, ws, h1, h2 with | [_, _], [], _, _ => .of_eq (by kernel_rfl)))) (by kernel_rfl))) (by kernel_rfl) rfl T.b7 (me_v (i := 4) (by kernel_rfl)) (me_v (i := 1) (by kernel_rfl))) (ma_cons (me_mulW (me_v (i := 2) (by kernel_rfl)) (me_v (i := 1) (by kernel_rfl))) (ma_cons (me_v (i := 3) (by kernel_rfl)) ma_nil))))))) (mw_or1 (mt_not (mt_tru B.hK (me_call B (k := 5) (ks := []) (l := [.p 0, .p 1, .p 2]) (FnW.t (ks := []) (dvs := []) (l := [.p 0, .p 1, .p 2]) ok_law_is (fun f fd F => bdW0 F (fun s kV doc pm an cdv ct us ws h1 h2 => match us, ws, h1, h2 with | [_, _, _], [], _, _ => .of_eq (by kernel_rfl))) (by kernel_rfl)) (by kernel_rfl) (by kernel_rfl) (by kernel_rfl) (pak_pos (ma_cons (me_mulO (k := 5) (k2 := 6) (cs := [4]) (csR := [4]) (os := [4]) (by kernel_rfl) B (tab1 (OwnT.mono (k := 5) (MfW.o okRate___mul__ (fun f fd F => bdW0 F (fun s kV doc pm an cdv ct us ws h1 h2 => match us, ws, h1, h2 with | [_, _], [], _, _ => .of_eq (by kernel_rfl)))) (by kernel_rfl))) (by kernel_rfl) rfl T.b7 (tab1 (OwnT.mono (k := 6) (MfW.o okRate___rmul__ (fun f fd F => bdW0 F (fun s kV doc pm an cdv ct us ws h1 h2 => match us, ws, h1, h2 with | [_, _], [], _, _ => .of_eq (by kernel_rfl)))) (by kernel_rfl))) (by kernel_rfl) rfl T.b16 (me_v (i := 1) (by kernel_rfl)) (me_v (i := 4) (by kernel_rfl))) (ma_cons (me_mulW (me_v (i := 2) (by kernel_rfl)) (me_v (i := 1) (by kernel_rfl))) (ma_cons (me_v (i := 3) (by kernel_rfl)) ma_nil)))))))))) (mss_one (ms_ret me_bl)) mss_nil) (mss_cons (ms_st (i := 5) (by kernel_rfl) (by kernel_rfl) (me_lst (ma_cons (me_cm (c_ltO (k := 3) (cs := [4]) B (tab1 (OwnT.mono (k := 3) (MfW.o okRate___lt__ (fun f fd F => bdW0 F (fun s kV doc pm an cdv ct us ws h1 h2 => match us, ws, h1, h2 with | [_, _], [], _, _ => .of_eq (by kernel_rfl)))) (by kernel_rfl))) (by kernel_rfl) rfl T.b3) (me_v (i := 4) (by kernel_rfl)) (me_v (i := 1) (by kernel_rfl))) (ma_cons (me_cm (c_leO (k := 3) (cs := [4]) B (tab1 (OwnT.mono (k := 3) (MfW.o okRate___le__ (fun f fd F => bdW0 F (fun s kV doc pm an cdv ct us ws h1 h2 => match us, ws, h1, h2 with | [_, _], [], _, _ => .of_eq (by kernel_rfl)))) (by kernel_rfl))) (by kernel_rfl) rfl T.b3) (me_v (i := 4) (by kernel_rfl)) (me_v (i := 1) (by kernel_rfl))) (ma_cons (me_cm (c_gtO (k := 3) (cs := [4]) B (tab1 (OwnT.mono (k := 3) (MfW.o okRate___gt__ (fun f fd F => bdW0 F (fun s kV doc pm an cdv ct us ws h1 h2 => match us, ws, h1, h2 with | [_, _], [], _, _ => .of_eq (by kernel_rfl)))) (by kernel_rfl))) (by kernel_rfl) rfl T.b3) (me_v (i := 4) (by kernel_rfl)) (me_v (i := 1) (by kernel_rfl))) (ma_cons (me_cm (c_geO (k := 3) (cs := [4]) B (tab1 (OwnT.mono (k := 3) (MfW.o okRate___ge__ (fun f fd F => bdW0 F (fun s kV doc pm an cdv ct us ws h1 h2 => match us, ws, h1, h2 with | [_, _], [], _, _ => .of_eq (by kernel_rfl)))) (by kernel_rfl))) (by kernel_rfl) rfl T.b3) (me_v (i := 4) (by kernel_rfl)) (me_v (i := 1) (by kernel_rfl))) (ma_cons (me_cm (c_ltR (k := 3) (cs := [4]) B c_lt (tab1 (OwnT.mono (k := 3) (MfW.o okRate___gt__ (fun f fd F => bdW0 F (fun s kV doc pm an cdv ct us ws h1 h2 => match us, ws, h1, h2 with | [_, _], [], _, _ => .of_eq (by kernel_rfl)))) (by kernel_rfl))) (by kernel_rfl) rfl T.b17) (me_v (i := 1) (by kernel_rfl)) (me_v (i := 4) (by kernel_rfl))) (ma_cons (me_cm (c_leR (k := 3) (cs := [4]) B c_le (tab1 (OwnT.mono (k := 3) (MfW.o okRate___ge__ (fun f fd F => bdW0 F (fun s kV doc pm an cdv ct us ws h1 h2 => match us, ws, h1, h2 with | [_, _], [], _, _ => .of_eq (by kernel_rfl)))) (by kernel_rfl))) (by kernel_rfl) rfl T.b17) (me_v (i := 1) (by kernel_rfl)) (me_v (i := 4) (by kernel_rfl))) (ma_cons (me_cm (c_gtR (k := 3) (cs := [4]) B c_gt (tab1 (OwnT.mono (k := 3) (MfW.o okRate___lt__ (fun f fd F => bdW0 F (fun s kV doc pm an cdv ct us ws h1 h2 => match us, ws, h1, h2 with | [_, _], [], _, _ => .of_eq (by kernel_rfl)))) (by kernel_rfl))) (by kernel_rfl) rfl T.b17) (me_v (i := 1) (by kernel_rfl)) (me_v (i := 4) (by kernel_rfl))) (ma_cons (me_cm (c_geR (k := 3) (cs := [4]) B c_ge (tab1 (OwnT.mono (k := 3) (MfW.o okRate___le__ (fun f fd F => bdW0 F (fun s kV doc pm an cdv ct us ws h1 h2 => match us, ws, h1, h2 with | [_, _], [], _, _ => .of_eq (by kernel_rfl)))) (by kernel_rfl))) (by kernel_rfl) rfl T.b17) (me_v (i := 1) (by kernel_rfl)) (me_v (i := 4) (by kernel_rfl))) (ma_cons (me_cm (c_eqO (k := 3) (cs := [4]) B (tab1 (OwnT.mono (k := 3) (MfW.o okRate___eq__ (fun f fd F => bdW0 F (fun s kV doc pm an cdv ct us ws h1 h2 => match us, ws, h1, h2 with | [_, _], [], _, _ => .of_eq (by kernel_rfl)))) (by kernel_rfl))) (by kernel_rfl) rfl T.b3) (me_v (i := 4) (by kernel_rfl)) (me_v (i := 1) (by kernel_rfl))) ma_nil))))))))))) (mss_cons (ms_par2 (i := 6) (j := 7) B.calm (nodB_of (by kernel_rfl)) (ixB_of (by kernel_rfl)) (ixB_of (by kernel_rfl)) (by decide) (lclB_of (by kernel_rfl)) (lclB_of (by kernel_rfl)) (ma_cons (me_v (i := 2) (by kernel_rfl)) (ma_cons (me_mulW (me_v (i := 1) (by kernel_rfl)) (me_v (i := 3) (by kernel_rfl))) ma_nil)) rfl) (mss_cons (ms_st (i := 8) (by kernel_rfl) (by kernel_rfl) (me_lst (ma_cons (me_cm c_lt (me_v (i := 6) (by kernel_rfl)) (me_v (i := 7) (by kernel_rfl))) (ma_cons (me_cm c_le (me_v (i := 6) (by kernel_rfl)) (me_v (i := 7) (by kernel_rfl))) (ma_cons (me_cm c_gt (me_v (i := 6) (by kernel_rfl)) (me_v (i := 7) (by kernel_rfl))) (ma_cons (me_cm c_ge (me_v (i := 6) (by kernel_rfl)) (me_v (i := 7) (by kernel_rfl))) ma_nil)))))) (mss_one (ms_ret (me_cm (c_eqO (k := 3) (cs := [4]) B (tab1 (OwnT.mono (k := 3) (MfW.o okRate___eq__ (fun f fd F => bdW0 F (fun s kV doc pm an cdv ct us ws h1 h2 => match us, ws, h1, h2 with | [_, _], [], _, _ => .of_eq (by kernel_rfl)))) (by kernel_rfl))) (by kernel_rfl) rfl T.b3) (me_v (i := 5) (by kernel_rfl)) (me_add B (me_v (i := 8) (by kernel_rfl)) (me_lst (ma_cons (me_cm c_gt (me_v (i := 6) (by kernel_rfl)) (me_v (i := 7) (by kernel_rfl))) (ma_cons (me_cm c_ge (me_v (i := 6) (by kernel_rfl)) (me_v (i := 7) (by kernel_rfl))) (ma_cons (me_cm c_lt (me_v (i := 6) (by kernel_rfl)) (me_v (i := 7) (by kernel_rfl))) (ma_cons (me_cm c_le (me_v (i := 6) (by kernel_rfl)) (me_v (i := 7) (by kernel_rfl))) (ma_cons (me_cm (c_eqO (k := 3) (cs := [4]) B (tab1 (OwnT.mono (k := 3) (MfW.o okRate___eq__ (fun f fd F => bdW0 F (fun s kV doc pm an cdv ct us ws h1 h2 => match us, ws, h1, h2 with | [_, _], [], _, _ => .of_eq (by kernel_rfl)))) (by kernel_rfl))) (by kernel_rfl) rfl T.b3) (me_v (i := 6) (by kernel_rfl)) (me_v (i := 7) (by kernel_rfl))) ma_nil))))))))))))))))))
/-! ### Rate_total -/
noncomputable def NRate_total : List Str := ["some", "found", "value"]
noncomputable def bRate_total : SX := (sSeq (sSet 1 (mNew 4 iRate 1 0 [.int 1] [.p 0, .d 0] (mCons (mC (.int 0)) mNil) mNil)) (sSeq (sFor (iAny itL (mVar 0)) (gN 2) (sSet 1 (mBin (dBop [(4, mRate___add__)] [4]) (mVar 1) (mVar 2)))) (sRet (mVar 1))))
noncomputable def mRate_total : List D → M D := fnM 1 3 bRate_total
theorem okRate_total (hS : ∃ o, base.get? sysModules = some o) (hTB : ∀ p ∈ tb, LamX.TabB base mg p.1 p.2) (T : Tp K mg cs tb) : SfW P w K mg base (sg K cs tb) 6 4 "total" "Rate.total" (inClass (top 13) 4) [] ["some"] mRate_total := by
  obtain ⟨pr, f, fd, F, h1, h2⟩ := T.wRate_total
  have okRate___init__ := okRate___init__ (P := P) (w := w) (base := base) hS hTB T
  have okRate___add__ := okRate___add__ (P := P) (w := w) (base := base) hS hTB T
  refine ⟨pr, f, fd, fn_okM (k := 5) (N := NRate_total) (S := sg K cs tb) (body := bRate_total) F.g (scpB_of (by kernel_rfl)) fun cdv A outer s pen G0 H E hcv hg hr => ?_, F, h1, h2⟩
  have B := @Bx.def P w K mg base NRate_total "Rate.total" (defScope (inClass (top 13) 4)) f cdv A outer s H E (sg K cs tb) pen G0 H 5 hg hr rfl hS
  exact (mss_cons (ms_st (i := 1) (by kernel_rfl) (by kernel_rfl) (me_new (c := 4) B (k := 3) (ks := []) (l := [.p 0, .d 0]) (InW.t (ks := []) (dvs := [.int 1]) (l := [.p 0, .d 0]) okRate___init__ (T.cm 4 _ (by kernel_rfl)) T.b1 (fun f fd F => bdW1 F (fun T kV doc pm an cdv ct us its ws h1 h2 h3 => match us, its, ws, h1, h2, h3 with | [_, _], [_], [], _, _, _ => ⟨_, rfl, rfl⟩)) (by kernel_rfl)) (by kernel_rfl) (by kernel_rfl) (by kernel_rfl) (pak_pos (ma_cons me_int ma_nil)))) (mss_cons (ms_for (js := [2]) (passes_of rfl) B.calm (mi_any (k := 1) B (itab T) (by kernel_rfl) (me_v (i := 0) (by kernel_rfl))) (mg_nm (i := 2) (by kernel_rfl) (by kernel_rfl) (by kernel_rfl) (by kernel_rfl)) (mss_one (ms_st (i := 1) (by kernel_rfl) (by kernel_rfl) (me_bopN (k := 5) (cs := [4]) (os := [4]) (by kernel_rfl) B (tab1 (OwnT.mono (k := 5) (MfW.o okRate___add__ (fun f fd F => bdW0 F (fun s kV doc pm an cdv ct us ws h1 h2 => match us, ws, h1, h2 with | [_, _], [], _, _ => .of_eq (by kernel_rfl)))) (by kernel_rfl))) (by kernel_rfl) rfl T.b5 (me_v (i := 1) (by kernel_rfl)) (me_v (i := 2) (by kernel_rfl)))))) (mss_one (ms_ret (me_v (i := 1) (by kernel_rfl))))))
/-! ### _law_are_rates -/
noncomputable def N_law_are_rates : List Str := ["_law_rows", "_law_row"]
noncomputable def b_law_are_rates : SX := (sRet (mBin (dEq false) (mComp (iAny itL (mVar 0)) (gN 1) (mNotT (mTru (mCB (dIsi isT) (mCons (mCallK mRate_total 1 0 [] [.p 0] (mCons (mVar 1) mNil) mNil) (mCons (mC (.cls 4)) mNil))))) (mVar 1) [1]) (mLst mNil)))
noncomputable def m_law_are_rates : List D → M D := fnM 1 2 b_law_are_rates
theorem ok_law_are_rates (hS : ∃ o, base.get? sysModules = some o) (hTB : ∀ p ∈ tb, LamX.TabB base mg p.1 p.2) (T : Tp K mg cs tb) : FnW P w K mg base (sg K cs tb) 7 "_law_are_rates" (top 25) [] ["_law_rows"] m_law_are_rates := by
  obtain ⟨f, fd, F, hm, hk⟩ := T.d_law_are_rates
  have okRate_total := okRate_total (P := P) (w := w) (base := base) hS hTB T
  refine ⟨f, fd, fn_okM (k := 6) (N := N_law_are_rates) (S := sg K cs tb) (body := b_law_are_rates) F.g (scpB_of (by kernel_rfl)) fun cdv A outer s pen G0 H E hcv hg hr => ?_, F, hm, hk⟩
  have B := @Bx.def P w K mg base N_law_are_rates "_law_are_rates" (defScope (top 25)) f cdv A outer s H E (sg K cs tb) pen G0 H 6 hg hr rfl hS
  exact (mss_one (ms_ret (me_cm (c_eq B) (me_lc (own := [("_law_row", 1)]) B.calm (nodB_of (by kernel_rfl)) (mi_any (k := 1) B (itab T) (by kernel_rfl) (me_v (i := 0) (by kernel_rfl))) (blkB_of (by kernel_rfl)) (fun s H C cl fp => (mg_nm (i := 1) (by kernel_rfl) (by kernel_rfl) (by kernel_rfl) (by kernel_rfl))) (fun s H C cl fp => (mts_one (mt_not (mt_tru B.blk.hK (me_b (b_isi B.blk T.isf) (T.bn _ (by kernel_rfl)) (by kernel_rfl) (by kernel_rfl) (ma_cons (me_stm (c := 4) B.blk (k := 6) (ks := []) (l := [.p 0]) (SfW.t (ks := []) (dvs := []) (l := [.p 0]) okRate_total (fun f fd F => bdW0 F (fun s kV doc pm an cdv ct us ws h1 h2 => match us, ws, h1, h2 with | [_], [], _, _ => .of_eq (by kernel_rfl))) (by kernel_rfl)) (by kernel_rfl) (T.cm 4 _ (by kernel_rfl)) (by kernel_rfl) (by kernel_rfl) (pak_pos (ma_cons (me_v (i := 1) (by kernel_rfl)) ma_nil))) (ma_cons (me_cls (c := 4) (T.cm 4 _ (by kernel_rfl)) (by kernel_rfl) (by kernel_rfl)) ma_nil))))))) (fun s H C cl fp => (me_v (i := 1) (by kernel_rfl)))) (me_lst ma_nil))))
/-! ### _law_three_right -/
noncomputable def N_law_three_right : List Str := ["_law_one", "_law_two", "_law_three", "_law_row_so"]
noncomputable def b_law_three_right : SX := (sSeq (sIf (mOrT (mTest (mBin (dOwnC ([(4, mRate___eq__)].map fun q => (q.1, notM q.2)) [4] (dEq true)) (mBin (dBop [(4, mRate___add__)] [4]) (mBin (dBop [(4, mRate___add__)] [4]) (mVar 0) (mVar 1)) (mVar 2)) (mBin (dBop [(4, mRate___add__)] [4]) (mVar 0) (mBin (dBop [(4, mRate___add__)] [4]) (mVar 1) (mVar 2))))) (mTest (mBin (dOwnC ([(4, mRate___eq__)].map fun q => (q.1, notM q.2)) [4] (dEq true)) (mBin (dBop [(4, mRate___mul__)] [4]) (mVar 0) (mBin (dBop [(4, mRate___add__)] [4]) (mVar 1) (mVar 2))) (mBin (dBop [(4, mRate___add__)] [4]) (mBin (dBop [(4, mRate___mul__)] [4]) (mVar 0) (mVar 1)) (mBin (dBop [(4, mRate___mul__)] [4]) (mVar 0) (mVar 2)))))) (sRet (mC (.bl false))) sNx) (sSeq (sIf (mOrT (mTest (mBin (dEq true) (mBin (dOwnC [(4, mRate___lt__)] [4] (dCmpI fun i j => decide (i < j))) (mVar 0) (mVar 1)) (mBin (dOwnC [(4, mRate___lt__)] [4] (dCmpI fun i j => decide (i < j))) (mBin (dBop [(4, mRate___add__)] [4]) (mVar 0) (mVar 2)) (mBin (dBop [(4, mRate___add__)] [4]) (mVar 1) (mVar 2))))) (mAndT (mTest (mBin (dOwnC [(4, mRate___gt__)] [4] (dCmpI fun i j => decide (j < i))) (mVar 2) (mC (.int 0)))) (mTest (mBin (dEq true) (mBin (dOwnC [(4, mRate___le__)] [4] (dCmpI fun i j => decide (i ≤ j))) (mVar 0) (mVar 1)) (mBin (dOwnC [(4, mRate___le__)] [4] (dCmpI fun i j => decide (i ≤ j))) (mBin (dBop [(4, mRate___mul__)] [4]) (mVar 0) (mVar 2)) (mBin (dBop [(4, mRate___mul__)] [4]) (mVar 1) (mVar 2))))))) (sRet (mC (.bl false))) sNx) (sSeq (sSet 3 (mLst (mCons (mVar 0) (mCons (mVar 1) (mCons (mVar 2) mNil))))) (sSeq (sIf (mOrT (mTest (mBin (dOwnC ([(4, mRate___eq__)].map fun q => (q.1, notM q.2)) [4] (dEq true)) (mCallK mRate_total 0 1 [] [.k 0] mNil (mCons (mVar 3) mNil)) (mBin (dBop [(4, mRate___add__)] [4]) (mBin (dBop [(4, mRate___add__)] [4]) (mVar 0) (mVar 1)) (mVar 2)))) (mTest (mBin (dOwnC ([(4, mRate___eq__)].map fun q => (q.1, notM q.2)) [4] (dEq true)) (mCallK mRate_total 1 0 [] [.p 0] (mCons (mBin dAdd (mCB dTup1 (mCons (mVar 3) mNil)) (mTup (mCons (mC (.int 4)) mNil))) mNil) mNil) (mBin (dBop [(4, mRate___add__)] [4]) (mBin (dBop [(4, mRate___add__)] [4]) (mBin (dBop [(4, mRate___add__)] [4]) (mVar 0) (mVar 1)) (mVar 2)) (mC (.int 4)))))) (sRet (mC (.bl false))) sNx) (sRet (mAndV (mBin (dDeq false [(4, mRate___eq__)] (dEq false)) (mVar 3) (mLst (mCons (mVar 0) (mCons (mVar 1) (mCons (mVar 2) mNil))))) (mAndV (mBin (dOwnC [(4, mRate___eq__)] [4] (dEq false)) (mCallK mRate_total 1 0 [] [.p 0] (mCons (mLst mNil) mNil) mNil) (mC (.int 0))) (mCallK m_law_are_rates 1 0 [] [.p 0] (mCons (mLst (mCons (mLst mNil) (mCons (mLst (mCons (mC (.int 4)) mNil)) (mCons (mTup (mCons (mC (.int 1)) (mCons (mC (.int 2)) mNil))) (mCons (mTup (mCons (mVar 0) mNil)) (mCons (mLst (mCons (mVar 2) (mCons (mC (.int 5)) mNil))) mNil)))))) mNil) mNil))))))))
noncomputable def m_law_three_right : List D → M D := fnM 3 4 b_law_three_right
theorem ok_law_three_right (hS : ∃ o, base.get? sysModules = some o) (hTB : ∀ p ∈ tb, LamX.TabB base mg p.1 p.2) (T : Tp K mg cs tb) : FnW P w K mg base (sg K cs tb) 8 "_law_three_right" (top 26) [] ["_law_one", "_law_two", "_law_three"] m_law_three_right := by
  obtain ⟨f, fd, F, hm, hk⟩ := T.d_law_three_right
  have okRate___eq__ := okRate___eq__ (P := P) (w := w) (base := base) hS hTB T
  have okRate___add__ := okRate___add__ (P := P) (w := w) (base := base) hS hTB T
  have okRate___mul__ := okRate___mul__ (P := P) (w := w) (base := base) hS hTB T
  have okRate___gt__ := okRate___gt__ (P := P) (w := w) (base := base) hS hTB T
  have okRate___le__ := okRate___le__ (P := P) (w := w) (base := base) hS hTB T
  have okRate___lt__ := okRate___lt__ (P := P) (w := w) (base := base) hS hTB T
  have okRate_total := okRate_total (P := P) (w := w) (base := base) hS hTB T
  have ok_law_are_rates := ok_law_are_rates (P := P) (w := w) (base := base) hS hTB T
  refine ⟨f, fd, fn_okM (k := 7) (N := N_law_three_right) (S := sg K cs tb) (body := b_law_three_right) F.g (scpB_of (by kernel_rfl)) fun cdv A outer s pen G0 H E hcv hg hr => ?_, F, hm, hk⟩
  have B := @Bx.def P w K mg base N_law_three_right "_law_three_right" (defScope (top 26)) f cdv A outer s H E (sg K cs tb) pen G0 H 7 hg hr rfl hS
  exact (mss_cons (ms_if (PW.pt (mw_or (mt_cm (c_neO (k := 3) (cs := [4]) B (tab1 (OwnT.mono (k := 3) (MfW.o okRate___eq__ (fun f fd F => bdW0 F (fun s kV doc pm an cdv ct us ws h1 h2 => match us, ws, h1, h2 with | [_, _], [], _, _ => .of_eq (by kernel_rfl)))) (by kernel_rfl))) (by kernel_rfl) rfl T.b3 T.b4) (me_bopN (k := 5) (cs := [4]) (os := [4]) (by kernel_rfl) B (tab1 (OwnT.mono (k := 5) (MfW.o okRate___add__ (fun f fd F => bdW0 F (fun s kV doc pm an cdv ct us ws h1 h2 => match us, ws, h1, h2 with | [_, _], [], _, _ => .of_eq (by kernel_rfl)))) (by kernel_rfl))) (by kernel_rfl) rfl T.b5 (me_bopN (k := 5) (cs := [4]) (os := [4]) (by kernel_rfl) B (tab1 (OwnT.mono (k := 5) (MfW.o okRate___add__ (fun f fd F => bdW0 F (fun s kV doc pm an cdv ct us ws h1 h2 => match us, ws, h1, h2 with | [_, _], [], _, _ => .of_eq (by kernel_rfl)))) (by kernel_rfl))) (by kernel_rfl) rfl T.b5 (me_v (i := 0) (by kernel_rfl)) (me_v (i := 1) (by kernel_rfl))) (me_v (i := 2) (by kernel_rfl))) (me_bopN (k := 5) (cs := [4]) (os := [4]) (by kernel_rfl) B (tab1 (OwnT.mono (k := 5) (MfW.o okRate___add__ (fun f fd F => bdW0 F (fun s kV doc pm an cdv ct us ws h1 h2 => match us, ws, h1, h2 with | [_, _], [], _, _ => .of_eq (by kernel_rfl)))) (by kernel_rfl))) (by kernel_rfl) rfl T.b5 (me_v (i := 0) (by kernel_rfl)) (me_bopN (k := 5) (cs := [4]) (os := [4]) (by kernel_rfl) B (tab1 (OwnT.mono (k := 5) (MfW.o okRate___add__ (fun f fd F => bdW0 F (fun s kV doc pm an cdv ct us ws h1 h2 => match us, ws, h1, h2 with | [_, _], [], _, _ => .of_eq (by kernel_rfl)))) (by kernel_rfl))) (by kernel_rfl) rfl T.b5 (me_v (i := 1) (by kernel_rfl)) (me_v (i := 2) (by kernel_rfl))))) (mw_or1 (mt_cm (c_neO (k := 3) (cs := [4]) B (tab1 (OwnT.mono (k := 3) (MfW.o okRate___eq__ (fun f fd F => bdW0 F (fun s kV doc pm an cdv ct us ws h1 h2 => match us, ws, h1, h2 with | [_, _], [], _, _ => .of_eq (by kernel_rfl)))) (by kernel_rfl))) (by kernel_rfl) rfl T.b3 T.b4) (me_bopN (k := 5) (cs := [4]) (os := [4]) (by kernel_rfl) B (tab1 (OwnT.mono (k := 5) (MfW.o okRate___mul__ (fun f fd F => bdW0 F (fun s kV doc pm an cdv ct us ws h1 h2 => match us, ws, h1, h2 with | [_, _], [], _, _ => .of_eq (by kernel_rfl)))) (by kernel_rfl))) (by kernel_rfl) rfl T.b7 (me_v (i := 0) (by kernel_rfl)) (me_bopN (k := 5) (cs := [4]) (os := [4]) (by kernel_rfl) B (tab1 (OwnT.mono (k := 5) (MfW.o okRate___add__ (fun f fd F => bdW0 F (fun s kV doc pm an cdv ct us ws h1 h2 => match us, ws, h1, h2 with | [_, _], [], _, _ => .of_eq (by kernel_rfl)))) (by kernel_rfl))) (by kernel_rfl) rfl T.b5 (me_v (i := 1) (by kernel_rfl)) (me_v (i := 2) (by kernel_rfl)))) (me_bopN (k := 5) (cs := [4]) (os := [4]) (by kernel_rfl) B (tab1 (OwnT.mono (k := 5) (MfW.o okRate___add__ (fun f fd F => bdW0 F (fun s kV doc pm an cdv ct us ws h1 h2 => match us, ws, h1, h2 with | [_, _], [], _, _ => .of_eq (by kernel_rfl)))) (by kernel_rfl))) (by kernel_rfl) rfl T.b5 (me_bopN (k := 5) (cs := [4]) (os := [4]) (by kernel_rfl) B (tab1 (OwnT.mono (k := 5) (MfW.o okRate___mul__ (fun f fd F => bdW0 F (fun s kV doc pm an cdv ct us ws h1 h2 => match us, ws, h1, h2 with | [_, _], [], _, _ => .of_eq (by kernel_rfl)))) (by kernel_rfl))) (by kernel_rfl) rfl T.b7 (me_v (i := 0) (by kernel_rfl)) (me_v (i := 1) (by kernel_rfl))) (me_bopN (k := 5) (cs := [4]) (os := [4]) (by kernel_rfl) B (tab1 (OwnT.mono (k := 5) (MfW.o okRate___mul__ (fun f fd F => bdW0 F (fun s kV doc pm an cdv ct us ws h1 h2 => match us, ws, h1, h2 with | [_, _], [], _, _ => .of_eq (by kernel_rfl)))) (by kernel_rfl))) (by kernel_rfl) rfl T.b7 (me_v (i := 0) (by kernel_rfl)) (me_v (i := 2) (by kernel_rfl)))))))) (mss_one (ms_ret me_bl)) mss_nil) (mss_cons (ms_if (PW.pt (mw_or (mt_cm (c_ne B) (me_cm (c_ltO (k := 3) (cs := [4]) B (tab1 (OwnT.mono (k := 3) (MfW.o okRate___lt__ (fun f fd F => bdW0 F (fun s kV doc pm an cdv ct us ws h1 h2 => match us, ws, h1, h2 with | [_, _], [], _, _ => .of_eq (by kernel_rfl)))) (by kernel_rfl))) (by kernel_rfl) rfl T.b3) (me_v (i := 0) (by kernel_rfl)) (me_v (i := 1) (by kernel_rfl))) (me_cm (c_ltO (k := 3) (cs := [4]) B (tab1 (OwnT.mono (k := 3) (MfW.o okRate___lt__ (fun f fd F => bdW0 F (fun s kV doc pm an cdv ct us ws h1 h2 => match us, ws, h1, h2 with | [_, _], [], _, _ => .of_eq (by kernel_rfl)))) (by kernel_rfl))) (by kernel_rfl) rfl T.b3) (me_bopN (k := 5) (cs := [4]) (os := [4]) (by kernel_rfl) B (tab1 (OwnT.mono (k := 5) (MfW.o okRate___add__ (fun f fd F => bdW0 F (fun s kV doc pm an cdv ct us ws h1 h2 => match us, ws, h1, h2 with | [_, _], [], _, _ => .of_eq (by kernel_rfl)))) (by kernel_rfl))) (by kernel_rfl) rfl T.b5 (me_v (i := 0) (by kernel_rfl)) (me_v (i := 2) (by kernel_rfl))) (me_bopN (k := 5) (cs := [4]) (os := [4]) (by kernel_rfl) B (tab1 (OwnT.mono (k := 5) (MfW.o okRate___add__ (fun f fd F => bdW0 F (fun s kV doc pm an cdv ct us ws h1 h2 => match us, ws, h1, h2 with | [_, _], [], _, _ => .of_eq (by kernel_rfl)))) (by kernel_rfl))) (by kernel_rfl) rfl T.b5 (me_v (i := 1) (by kernel_rfl)) (me_v (i := 2) (by kernel_rfl))))) (mw_or1 (PW.pt (mw_and (mt_cm (c_gtO (k := 3) (cs := [4]) B (tab1 (OwnT.mono (k := 3) (MfW.o okRate___gt__ (fun f fd F => bdW0 F (fun s kV doc pm an cdv ct us ws h1 h2 => match us, ws, h1, h2 with | [_, _], [], _, _ => .of_eq (by kernel_rfl)))) (by kernel_rfl))) (by kernel_rfl) rfl T.b3) (me_v (i := 2) (by kernel_rfl)) me_int) (mw_and1 (mt_cm (c_ne B) (me_cm (c_leO (k := 3) (cs := [4]) B (tab1 (OwnT.mono (k := 3) (MfW.o okRate___le__ (fun f fd F => bdW0 F (fun s kV doc pm an cdv ct us ws h1 h2 => match us, ws, h1, h2 with | [_, _], [], _, _ => .of_eq (by kernel_rfl)))) (by kernel_rfl))) (by kernel_rfl) rfl T.b3) (me_v (i := 0) (by kernel_rfl)) (me_v (i := 1) (by kernel_rfl))) (me_cm (c_leO (k := 3) (cs := [4]) B (tab1 (OwnT.mono (k := 3) (MfW.o okRate___le__ (fun f fd F => bdW0 F (fun s kV doc pm an cdv ct us ws h1 h2 => match us, ws, h1, h2 with | [_, _], [], _, _ => .of_eq (by kernel_rfl)))) (by kernel_rfl))) (by kernel_rfl) rfl T.b3) (me_bopN (k := 5) (cs := [4]) (os := [4]) (by kernel_rfl) B (tab1 (OwnT.mono (k := 5) (MfW.o okRate___mul__ (fun f fd F => bdW0 F (fun s kV doc pm an cdv ct us ws h1 h2 => match us, ws, h1, h2 with | [_, _], [], _, _ => .of_eq (by kernel_rfl)))) (by kernel_rfl))) (by kernel_rfl) rfl T.b7 (me_v (i := 0) (by kernel_rfl)) (me_v (i := 2) (by kernel_rfl))) (me_bopN (k := 5) (cs := [4]) (os := [4]) (by kernel_rfl) B (tab1 (OwnT.mono (k := 5) (MfW.o okRate___mul__ (fun f fd F => bdW0 F (fun s kV doc pm an cdv ct us ws h1 h2 => match us, ws, h1, h2 with | [_, _], [], _, _ => .of_eq (by kernel_rfl)))) (by kernel_rfl))) (by kernel_rfl) rfl T.b7 (me_v (i := 1) (by kernel_rfl)) (me_v (i := 2) (by kernel_rfl))))))))))) (mss_one (ms_ret me_bl)) mss_nil) (mss_cons (ms_st (i := 3) (by kernel_rfl) (by kernel_rfl) (me_lst (ma_cons (me_v (i := 0) (by kernel_rfl)) (ma_cons (me_v (i := 1) (by kernel_rfl)) (ma_cons (me_v (i := 2) (by kernel_rfl)) ma_nil))))) (mss_cons (ms_if (PW.pt (mw_or (mt_cm (c_neO (k := 3) (cs := [4]) B (tab1 (OwnT.mono (k := 3) (MfW.o okRate___eq__ (fun f fd F => bdW0 F (fun s kV doc pm an cdv ct us ws h1 h2 => match us, ws, h1, h2 with | [_, _], [], _, _ => .of_eq (by kernel_rfl)))) (by kernel_rfl))) (by kernel_rfl) rfl T.b3 T.b4) (me_stm (c := 4) B (k := 6) (ks := ["some"]) (l := [.k 0]) (SfW.t (ks := ["some"]) (dvs := []) (l := [.k 0]) okRate_total (fun f fd F => bdW0 F (fun s kV doc pm an cdv ct us ws h1 h2 => match us, ws, h1, h2 with | [], [_], _, _ => .of_eq (by kernel_rfl))) (by kernel_rfl)) (by kernel_rfl) (T.cm 4 _ (by kernel_rfl)) (by kernel_rfl) (by kernel_rfl) (pak_kw (mk_cons (me_v (i := 3) (by kernel_rfl)) mk_nil))) (me_bopN (k := 5) (cs := [4]) (os := [4]) (by kernel_rfl) B (tab1 (OwnT.mono (k := 5) (MfW.o okRate___add__ (fun f fd F => bdW0 F (fun s kV doc pm an cdv ct us ws h1 h2 => match us, ws, h1, h2 with | [_, _], [], _, _ => .of_eq (by kernel_rfl)))) (by kernel_rfl))) (by kernel_rfl) rfl T.b5 (me_bopN (k := 5) (cs := [4]) (os := [4]) (by kernel_rfl) B (tab1 (OwnT.mono (k := 5) (MfW.o okRate___add__ (fun f fd F => bdW0 F (fun s kV doc pm an cdv ct us ws h1 h2 => match us, ws, h1, h2 with | [_, _], [], _, _ => .of_eq (by kernel_rfl)))) (by kernel_rfl))) (by kernel_rfl) rfl T.b5 (me_v (i := 0) (by kernel_rfl)) (me_v (i := 1) (by kernel_rfl))) (me_v (i := 2) (by kernel_rfl)))) (mw_or1 (mt_cm (c_neO (k := 3) (cs := [4]) B (tab1 (OwnT.mono (k := 3) (MfW.o okRate___eq__ (fun f fd F => bdW0 F (fun s kV doc pm an cdv ct us ws h1 h2 => match us, ws, h1, h2 with | [_, _], [], _, _ => .of_eq (by kernel_rfl)))) (by kernel_rfl))) (by kernel_rfl) rfl T.b3 T.b4) (me_stm (c := 4) B (k := 6) (ks := []) (l := [.p 0]) (SfW.t (ks := []) (dvs := []) (l := [.p 0]) okRate_total (fun f fd F => bdW0 F (fun s kV doc pm an cdv ct us ws h1 h2 => match us, ws, h1, h2 with | [_], [], _, _ => .of_eq (by kernel_rfl))) (by kernel_rfl)) (by kernel_rfl) (T.cm 4 _ (by kernel_rfl)) (by kernel_rfl) (by kernel_rfl) (pak_pos (ma_cons (me_add B (me_b (b_tuple B) (T.bn _ (by kernel_rfl)) (by kernel_rfl) (by kernel_rfl) (ma_cons (me_v (i := 3) (by kernel_rfl)) ma_nil)) (me_tup (ma_cons me_int ma_nil))) ma_nil))) (me_bopN (k := 5) (cs := [4]) (os := [4]) (by kernel_rfl) B (tab1 (OwnT.mono (k := 5) (MfW.o okRate___add__ (fun f fd F => bdW0 F (fun s kV doc pm an cdv ct us ws h1 h2 => match us, ws, h1, h2 with | [_, _], [], _, _ => .of_eq (by kernel_rfl)))) (by kernel_rfl))) (by kernel_rfl) rfl T.b5 (me_bopN (k := 5) (cs := [4]) (os := [4]) (by kernel_rfl) B (tab1 (OwnT.mono (k := 5) (MfW.o okRate___add__ (fun f fd F => bdW0 F (fun s kV doc pm an cdv ct us ws h1 h2 => match us, ws, h1, h2 with | [_, _], [], _, _ => .of_eq (by kernel_rfl)))) (by kernel_rfl))) (by kernel_rfl) rfl T.b5 (me_bopN (k := 5) (cs := [4]) (os := [4]) (by kernel_rfl) B (tab1 (OwnT.mono (k := 5) (MfW.o okRate___add__ (fun f fd F => bdW0 F (fun s kV doc pm an cdv ct us ws h1 h2 => match us, ws, h1, h2 with | [_, _], [], _, _ => .of_eq (by kernel_rfl)))) (by kernel_rfl))) (by kernel_rfl) rfl T.b5 (me_v (i := 0) (by kernel_rfl)) (me_v (i := 1) (by kernel_rfl))) (me_v (i := 2) (by kernel_rfl))) me_int))))) (mss_one (ms_ret me_bl)) mss_nil) (mss_one (ms_ret (me_and (me_cm (c_deq (k := 3) (cs := [4]) (os := [4]) B (c_eq B) (tab1 (OwnT.mono (k := 3) (MfW.o okRate___eq__ (fun f fd F => bdW0 F (fun s kV doc pm an cdv ct us ws h1 h2 => match us, ws, h1, h2 with | [_, _], [], _, _ => .of_eq (by kernel_rfl)))) (by kernel_rfl))) (by kernel_rfl) rfl T.b3 (by kernel_rfl)) (me_v (i := 3) (by kernel_rfl)) (me_lst (ma_cons (me_v (i := 0) (by kernel_rfl)) (ma_cons (me_v (i := 1) (by kernel_rfl)) (ma_cons (me_v (i := 2) (by kernel_rfl)) ma_nil))))) (me_and (me_cm (c_eqO (k := 3) (cs := [4]) B (tab1 (OwnT.mono (k := 3) (MfW.o okRate___eq__ (fun f fd F => bdW0 F (fun s kV doc pm an cdv ct us ws h1 h2 => match us, ws, h1, h2 with | [_, _], [], _, _ => .of_eq (by kernel_rfl)))) (by kernel_rfl))) (by kernel_rfl) rfl T.b3) (me_stm (c := 4) B (k := 6) (ks := []) (l := [.p 0]) (SfW.t (ks := []) (dvs := []) (l := [.p 0]) okRate_total (fun f fd F => bdW0 F (fun s kV doc pm an cdv ct us ws h1 h2 => match us, ws, h1, h2 with | [_], [], _, _ => .of_eq (by kernel_rfl))) (by kernel_rfl)) (by kernel_rfl) (T.cm 4 _ (by kernel_rfl)) (by kernel_rfl) (by kernel_rfl) (pak_pos (ma_cons (me_lst ma_nil) ma_nil))) me_int) (me_one (me_call B (k := 7) (ks := []) (l := [.p 0]) (FnW.t (ks := []) (dvs := []) (l := [.p 0]) ok_law_are_rates (fun f fd F => bdW0 F (fun s kV doc pm an cdv ct us ws h1 h2 => match us, ws, h1, h2 with | [_], [], _, _ => .of_eq (by kernel_rfl))) (by kernel_rfl)) (by kernel_rfl) (by kernel_rfl) (by kernel_rfl) (pak_pos (ma_cons (me_lst (ma_cons (me_lst ma_nil) (ma_cons (me_lst (ma_cons me_int ma_nil)) (ma_cons (me_tup (ma_cons me_int (ma_cons me_int ma_nil))) (ma_cons (me_tup (ma_cons (me_v (i := 0) (by kernel_rfl)) ma_nil)) (ma_cons (me_lst (ma_cons (me_v (i := 2) (by kernel_rfl)) (ma_cons me_int ma_nil))) ma_nil)))))) ma_nil))))))))))))
/-! ### Rate___str__ -/
noncomputable def NRate___str__ : List Str := ["self"]
noncomputable def bRate___str__ : SX := (sSeq (sIf (mTest (mBin (dEq false) (mBin dIx (mUn (dFld [(4, 0)] []) (mVar 0)) (mC (.int 1))) (mC (.int 1)))) (sRet (mUn dFmt (mBin dIx (mUn (dFld [(4, 0)] []) (mVar 0)) (mC (.int 0))))) sNx) (sRet (mJoin [(mUn dFmt (mBin dIx (mUn (dFld [(4, 0)] []) (mVar 0)) (mC (.int 0)))), (mC (.str "/")), (mUn dFmt (mBin dIx (mUn (dFld [(4, 0)] []) (mVar 0)) (mC (.int 1))))] Str.empty)))
noncomputable def mRate___str__ : List D → M D := fnM 1 1 bRate___str__
theorem okRate___str__ (hS : ∃ o, base.get? sysModules = some o) (hTB : ∀ p ∈ tb, LamX.TabB base mg p.1 p.2) (T : Tp K mg cs tb) : MfW P w K mg base (sg K cs tb) 1 4 "__str__" "Rate.__str__" (inClass (top 13) 20) [] ["self"] mRate___str__ := by
  obtain ⟨f, fd, F, h1, h2, h3⟩ := T.wRate___str__
  refine ⟨f, fd, fn_okM (k := 0) (N := NRate___str__) (S := sg K cs tb) (body := bRate___str__) F.g (scpB_of (by kernel_rfl)) fun cdv A outer s pen G0 H E hcv hg hr => ?_, F, h1, h2, h3⟩
  have B := @Bx.def P w K mg base NRate___str__ "Rate.__str__" (defScope (inClass (top 13) 20)) f cdv A outer s H E (sg K cs tb) pen G0 H 0 hg hr rfl hS
  exact (mss_cons (ms_if (mt_cm (c_eq B) (me_ix B.hK (me_f B T.b2 (by rfl) (me_v (i := 0) (by kernel_rfl))) me_int fun _ _ => rfl) me_int) (mss_one (ms_ret (me_fs1 (me_fmt (me_ix B.hK (me_f B T.b2 (by rfl) (me_v (i := 0) (by kernel_rfl))) me_int fun _ _ => rfl))))) mss_nil) (mss_one (ms_ret (me_join (.cons (me_fmt (me_ix B.hK (me_f B T.b2 (by rfl) (me_v (i := 0) (by kernel_rfl))) me_int fun _ _ => rfl)) (.cons me_str (.cons (me_fmt (me_ix B.hK (me_f B T.b2 (by rfl) (me_v (i := 0) (by kernel_rfl))) me_int fun _ _ => rfl)) .nil)))))))
/-! ### law -/
noncomputable def Nlaw : List Str := ["_law_script", "_law_pen_here", "_law_turn", "_law_first", "_law_second", "_law_way", "_law_third", "_law_k"]
noncomputable def blaw : SX := (sSeq (sFor (iRng (mCons (mC (.int 8)) mNil)) (gN 2) (sSeq (sPar2 3 4 (mCons (mCallK m_law_pair 1 0 [] [.p 0] (mCons (mVar 1) mNil) mNil) (mCons (mCallK m_law_pair 1 0 [] [.p 0] (mCons (mVar 1) mNil) mNil) mNil))) (sSeq (sSet 5 (mCallK m_law_draw 2 0 [] [.p 0, .p 1] (mCons (mVar 1) (mCons (mC (.int 4)) mNil)) mNil)) (sSeq (sIf (mTest (mBin (dCmpI fun i j => decide (i < j)) (mVar 5) (mC (.int 2)))) (sSet 4 (mTup (mCons (mBin dAdd (mBin dMulW (mBin dIx (mVar 3) (mC (.int 0))) (mC (.int 6))) (mVar 5)) (mCons (mBin dMulW (mBin dIx (mVar 3) (mC (.int 1))) (mC (.int 6))) mNil)))) sNx) (sSeq (sSet 6 (mCallK m_law_pair 1 0 [] [.p 0] (mCons (mVar 1) mNil) mNil)) (sSeq (sSet 7 (mCallK m_law_pick 2 0 [] [.p 0, .p 1] (mCons (mVar 1) (mCons (mLst (mCons (mC (.int 0)) (mCons (mC (.int 1)) (mCons (mUn dNeg (mC (.int 1))) (mCons (mC (.int 9)) (mCons (mBin dDivW (mBin dIx (mVar 3) (mC (.int 0))) (mBin dIx (mVar 3) (mC (.int 1)))) (mCons (mBin dPow (mC (.int 10)) (mC (.int 20))) mNil))))))) mNil)) mNil)) (sSeq (sIf (mOrT (mNotT (mTru (mCallK m_law_two_right 2 0 [] [.p 0, .p 1] (mCons (mVar 3) (mCons (mVar 4) mNil)) mNil))) (mNotT (mTru (mCallK m_law_integers_right 2 0 [] [.p 0, .p 1] (mCons (mVar 3) (mCons (mVar 7) mNil)) mNil)))) (sRet (mC (.bl false))) sNx) (sIf (mNotT (mTru (mCallK m_law_three_right 3 0 [] [.p 0, .p 1, .p 2] (mCons (mNew 4 iRate 2 0 [.int 1] [.p 0, .p 1] (mCons (mBin dIx (mVar 3) (mC (.int 0))) (mCons (mBin dIx (mVar 3) (mC (.int 1))) mNil)) mNil) (mCons (mNew 4 iRate 2 0 [.int 1] [.p 0, .p 1] (mCons (mBin dIx (mVar 4) (mC (.int 0))) (mCons (mBin dIx (mVar 4) (mC (.int 1))) mNil)) mNil) (mCons (mNew 4 iRate 2 0 [.int 1] [.p 0, .p 1] (mCons (mBin dIx (mVar 6) (mC (.int 0))) (mCons (mBin dIx (mVar 6) (mC (.int 1))) mNil)) mNil) mNil))) mNil))) (sRet (mC (.bl false))) sNx)))))))) (sRet (mAndV (mBin (dOwnC [(4, mRate___lt__)] [4] (dCmpI fun i j => decide (i < j))) (mNew 4 iRate 2 0 [.int 1] [.p 0, .p 1] (mCons (mC (.int 1)) (mCons (mC (.int 3)) mNil)) mNil) (mNew 4 iRate 2 0 [.int 1] [.p 0, .p 1] (mCons (mC (.int 1)) (mCons (mC (.int 2)) mNil)) mNil)) (mAndV (mBin (dEqR [(4, mRate___lt__)] (dCmpI fun i j => decide (j < i))) (mC (.int 1)) (mNew 4 iRate 2 0 [.int 1] [.p 0, .p 1] (mCons (mC (.int 1)) (mCons (mC (.int 2)) mNil)) mNil)) (mAndV (mBin (dEq false) (mCB (dStrO [(4, mRate___str__)]) (mCons (mBin (dSubO [(4, mRate___sub__)] [(4, mRate___rsub__)] [4]) (mC (.int 2)) (mNew 4 iRate 2 0 [.int 1] [.p 0, .p 1] (mCons (mC (.int 1)) (mCons (mC (.int 2)) mNil)) mNil)) mNil)) (mC (.str "3/2"))) (mBin (dOwnC [(4, mRate___eq__)] [4] (dEq false)) (mNew 4 iRate 2 0 [.int 1] [.p 0, .p 1] (mCons (mC (.int 4)) (mCons (mC (.int 2)) mNil)) mNil) (mC (.int 2))))))))
/-! ### the law -/
theorem fn_law (hS : ∃ o, base.get? sysModules = some o) (hTB : ∀ p ∈ tb, LamX.TabB base mg p.1 p.2) (T : Tp K mg cs tb) {f : Addr} {fd : FuncData} (F : FunW K "law" "law" (top 27) [] f fd) : FnG P w K mg base 9 f fd ["_law_script"] (spLaw (sg K cs tb) Nlaw.length blaw) := by
  obtain ⟨fp, fdp, Fp, hmp, hkp⟩ := T.d_law_pen
  have ok_law_draw := ok_law_draw (P := P) (w := w) (base := base) hS hTB T
  have ok_law_pick := ok_law_pick (P := P) (w := w) (base := base) hS hTB T
  have ok_law_pair := ok_law_pair (P := P) (w := w) (base := base) hS hTB T
  have okRate___init__ := okRate___init__ (P := P) (w := w) (base := base) hS hTB T
  have okRate___eq__ := okRate___eq__ (P := P) (w := w) (base := base) hS hTB T
  have okRate___sub__ := okRate___sub__ (P := P) (w := w) (base := base) hS hTB T
  have okRate___lt__ := okRate___lt__ (P := P) (w := w) (base := base) hS hTB T
  have ok_law_two_right := ok_law_two_right (P := P) (w := w) (base := base) hS hTB T
  have okRate___rsub__ := okRate___rsub__ (P := P) (w := w) (base := base) hS hTB T
  have ok_law_integers_right := ok_law_integers_right (P := P) (w := w) (base := base) hS hTB T
  have ok_law_three_right := ok_law_three_right (P := P) (w := w) (base := base) hS hTB T
  have okRate___str__ := okRate___str__ (P := P) (w := w) (base := base) hS hTB T
  have FP : FnG P w K mg base 1 fp fdp ["_law_script"] (spPen K) := fn_pen Fp.g (scpB_of (by kernel_rfl)) (gloB_of (by kernel_rfl)) (visB_of (by kernel_rfl)) (T.bn _ (by kernel_rfl)) rfl
  have bp : Bd K fdp ["_law_script"] 1 [] [] [.p 0] := bdW0 Fp (fun s kV doc pm an cdv ct us ws h1 h2 => match us, ws, h1, h2 with | [_], [], _, _ => .of_eq (by kernel_rfl))
  refine law_okM (k := 8) (N := Nlaw) (S := sg K cs tb) (body := blaw) rfl F.g (scpB_of (by kernel_rfl)) rfl (ixB_of (by kernel_rfl)) (ixB_of (by kernel_rfl)) (by decide) (locB_of (by kernel_rfl)) (visB_of (by kernel_rfl)) (gloB_of (by kernel_rfl)) (FP.mono (Nat.le_of_ble_eq_true (by kernel_rfl))) bp hmp hkp (fun _ => rfl) fun cdv A outer s pen G0 B0 H E hcv hg hr => ?_
  have B := @Bx.def P w K mg base Nlaw "law" (defScope (top 27)) f cdv A outer s H E (sg K cs tb) pen G0 B0 8 hg hr rfl hS
  exact (mss_cons (ms_for (js := [2]) (passes_of rfl) B.calm (mi_rng (gl_of (by kernel_rfl)) (T.bn _ (by kernel_rfl)) (ma_cons me_int ma_nil)) (mg_nm (i := 2) (by kernel_rfl) (by kernel_rfl) (by kernel_rfl) (by kernel_rfl)) (mss_cons (ms_par2 (i := 3) (j := 4) B.calm (nodB_of (by kernel_rfl)) (ixB_of (by kernel_rfl)) (ixB_of (by kernel_rfl)) (by decide) (lclB_of (by kernel_rfl)) (lclB_of (by kernel_rfl)) (ma_cons (me_call B (k := 3) (ks := []) (l := [.p 0]) (FnW.t (ks := []) (dvs := []) (l := [.p 0]) ok_law_pair (fun f fd F => bdW0 F (fun s kV doc pm an cdv ct us ws h1 h2 => match us, ws, h1, h2 with | [_], [], _, _ => .of_eq (by kernel_rfl))) (by kernel_rfl)) (by kernel_rfl) (by kernel_rfl) (by kernel_rfl) (pak_pos (ma_cons (me_v (i := 1) (by kernel_rfl)) ma_nil))) (ma_cons (me_call B (k := 3) (ks := []) (l := [.p 0]) (FnW.t (ks := []) (dvs := []) (l := [.p 0]) ok_law_pair (fun f fd F => bdW0 F (fun s kV doc pm an cdv ct us ws h1 h2 => match us, ws, h1, h2 with | [_], [], _, _ => .of_eq (by kernel_rfl))) (by kernel_rfl)) (by kernel_rfl) (by kernel_rfl) (by kernel_rfl) (pak_pos (ma_cons (me_v (i := 1) (by kernel_rfl)) ma_nil))) ma_nil)) rfl) (mss_cons (ms_st (i := 5) (by kernel_rfl) (by kernel_rfl) (me_call B (k := 1) (ks := []) (l := [.p 0, .p 1]) (FnW.t (ks := []) (dvs := []) (l := [.p 0, .p 1]) ok_law_draw (fun f fd F => bdW0 F (fun s kV doc pm an cdv ct us ws h1 h2 => match us, ws, h1, h2 with | [_, _], [], _, _ => .of_eq (by kernel_rfl))) (by kernel_rfl)) (by kernel_rfl) (by kernel_rfl) (by kernel_rfl) (pak_pos (ma_cons (me_v (i := 1) (by kernel_rfl)) (ma_cons me_int ma_nil))))) (mss_cons (ms_if (mt_cm c_lt (me_v (i := 5) (by kernel_rfl)) me_int) (mss_one (ms_st (i := 4) (by kernel_rfl) (by kernel_rfl) (me_tup (ma_cons (me_add B (me_mulW (me_ix B.hK (me_v (i := 3) (by kernel_rfl)) me_int fun _ _ => rfl) me_int) (me_v (i := 5) (by kernel_rfl))) (ma_cons (me_mulW (me_ix B.hK (me_v (i := 3) (by kernel_rfl)) me_int fun _ _ => rfl) me_int) ma_nil))))) mss_nil) (mss_cons (ms_st (i := 6) (by kernel_rfl) (by kernel_rfl) (me_call B (k := 3) (ks := []) (l := [.p 0]) (FnW.t (ks := []) (dvs := []) (l := [.p 0]) ok_law_pair (fun f fd F => bdW0 F (fun s kV doc pm an cdv ct us ws h1 h2 => match us, ws, h1, h2 with | [_], [], _, _ => .of_eq (by kernel_rfl))) (by kernel_rfl)) (by kernel_rfl) (by kernel_rfl) (by kernel_rfl) (pak_pos (ma_cons (me_v (i := 1) (by kernel_rfl)) ma_nil)))) (mss_cons (ms_st (i := 7) (by kernel_rfl) (by kernel_rfl) (me_call B (k := 2) (ks := []) (l := [.p 0, .p 1]) (FnW.t (ks := []) (dvs := []) (l := [.p 0, .p 1]) ok_law_pick (fun f fd F => bdW0 F (fun s kV doc pm an cdv ct us ws h1 h2 => match us, ws, h1, h2 with | [_, _], [], _, _ => .of_eq (by kernel_rfl))) (by kernel_rfl)) (by kernel_rfl) (by kernel_rfl) (by kernel_rfl) (pak_pos (ma_cons (me_v (i := 1) (by kernel_rfl)) (ma_cons (me_lst (ma_cons me_int (ma_cons me_int (ma_cons (me_neg me_int) (ma_cons me_int (ma_cons (me_fdv (me_ix B.hK (me_v (i := 3) (by kernel_rfl)) me_int fun _ _ => rfl) (me_ix B.hK (me_v (i := 3) (by kernel_rfl)) me_int fun _ _ => rfl)) (ma_cons (me_pow me_int me_int) ma_nil))))))) ma_nil))))) (mss_cons (ms_if (PW.pt (mw_or (mt_not (mt_tru B.hK (me_call B (k := 8) (ks := []) (l := [.p 0, .p 1]) (FnW.t (ks := []) (dvs := []) (l := [.p 0, .p 1]) ok_law_two_right (fun f fd F => bdW0 F (fun s kV doc pm an cdv ct us ws h1 h2 => match us, ws, h1, h2 with | [_, _], [], _, _ => .of_eq (by kernel_rfl))) (by kernel_rfl)) (by kernel_rfl) (by kernel_rfl) (by kernel_rfl) (pak_pos (ma_cons (me_v (i := 3) (by kernel_rfl)) (ma_cons (me_v (i := 4) (by kernel_rfl)) ma_nil)))))) (mw_or1 (mt_not (mt_tru B.hK (me_call B (k := 7) (ks := []) (l := [.p 0, .p 1]) (FnW.t (ks := []) (dvs := []) (l := [.p 0, .p 1]) ok_law_integers_right (fun f fd F => bdW0 F (fun s kV doc pm an cdv ct us ws h1 h2 => match us, ws, h1, h2 with | [_, _], [], _, _ => .of_eq (by kernel_rfl))) (by kernel_rfl)) (by kernel_rfl) (by kernel_rfl) (by kernel_rfl) (pak_pos (ma_cons (me_v (i := 3) (by kernel_rfl)) (ma_cons (me_v (i := 7) (by kernel_rfl)) ma_nil))))))))) (mss_one (ms_ret me_bl)) mss_nil) (mss_one (ms_if (mt_not (mt_tru B.hK (me_call B (k := 8) (ks := []) (l := [.p 0, .p 1, .p 2]) (FnW.t (ks := []) (dvs := []) (l := [.p 0, .p 1, .p 2]) ok_law_three_right (fun f fd F => bdW0 F (fun s kV doc pm an cdv ct us ws h1 h2 => match us, ws, h1, h2 with | [_, _, _], [], _, _ => .of_eq (by kernel_rfl))) (by kernel_rfl)) (by kernel_rfl) (by kernel_rfl) (by kernel_rfl) (pak_pos (ma_cons (me_new (c := 4) B (k := 3) (ks := []) (l := [.p 0, .p 1]) (InW.t (ks := []) (dvs := [.int 1]) (l := [.p 0, .p 1]) okRate___init__ (T.cm 4 _ (by kernel_rfl)) T.b1 (fun f fd F => bdW1 F (fun T kV doc pm an cdv ct us its ws h1 h2 h3 => match us, its, ws, h1, h2, h3 with | [_, _, _], [_], [], _, _, _ => ⟨_, rfl, rfl⟩)) (by kernel_rfl)) (by kernel_rfl) (by kernel_rfl) (by kernel_rfl) (pak_pos (ma_cons (me_ix B.hK (me_v (i := 3) (by kernel_rfl)) me_int fun _ _ => rfl) (ma_cons (me_ix B.hK (me_v (i := 3) (by kernel_rfl)) me_int fun _ _ => rfl) ma_nil)))) (ma_cons (me_new (c := 4) B (k := 3) (ks := []) (l := [.p 0, .p 1]) (InW.t (ks := []) (dvs := [.int 1]) (l := [.p 0, .p 1]) okRate___init__ (T.cm 4 _ (by kernel_rfl)) T.b1 (fun f fd F => bdW1 F (fun T kV doc pm an cdv ct us its ws h1 h2 h3 => match us, its, ws, h1, h2, h3 with | [_, _, _], [_], [], _, _, _ => ⟨_, rfl, rfl⟩)) (by kernel_rfl)) (by kernel_rfl) (by kernel_rfl) (by kernel_rfl) (pak_pos (ma_cons (me_ix B.hK (me_v (i := 4) (by kernel_rfl)) me_int fun _ _ => rfl) (ma_cons (me_ix B.hK (me_v (i := 4) (by kernel_rfl)) me_int fun _ _ => rfl) ma_nil)))) (ma_cons (me_new (c := 4) B (k := 3) (ks := []) (l := [.p 0, .p 1]) (InW.t (ks := []) (dvs := [.int 1]) (l := [.p 0, .p 1]) okRate___init__ (T.cm 4 _ (by kernel_rfl)) T.b1 (fun f fd F => bdW1 F (fun T kV doc pm an cdv ct us its ws h1 h2 h3 => match us, its, ws, h1, h2, h3 with | [_, _, _], [_], [], _, _, _ => ⟨_, rfl, rfl⟩)) (by kernel_rfl)) (by kernel_rfl) (by kernel_rfl) (by kernel_rfl) (pak_pos (ma_cons (me_ix B.hK (me_v (i := 6) (by kernel_rfl)) me_int fun _ _ => rfl) (ma_cons (me_ix B.hK (me_v (i := 6) (by kernel_rfl)) me_int fun _ _ => rfl) ma_nil)))) ma_nil))))))) (mss_one (ms_ret me_bl)) mss_nil))))))))) (mss_one (ms_ret (me_and (me_cm (c_ltO (k := 3) (cs := [4]) B (tab1 (OwnT.mono (k := 3) (MfW.o okRate___lt__ (fun f fd F => bdW0 F (fun s kV doc pm an cdv ct us ws h1 h2 => match us, ws, h1, h2 with | [_, _], [], _, _ => .of_eq (by kernel_rfl)))) (by kernel_rfl))) (by kernel_rfl) rfl T.b3) (me_new (c := 4) B (k := 3) (ks := []) (l := [.p 0, .p 1]) (InW.t (ks := []) (dvs := [.int 1]) (l := [.p 0, .p 1]) okRate___init__ (T.cm 4 _ (by kernel_rfl)) T.b1 (fun f fd F => bdW1 F (fun T kV doc pm an cdv ct us its ws h1 h2 h3 => match us, its, ws, h1, h2, h3 with | [_, _, _], [_], [], _, _, _ => ⟨_, rfl, rfl⟩)) (by kernel_rfl)) (by kernel_rfl) (by kernel_rfl) (by kernel_rfl) (pak_pos (ma_cons me_int (ma_cons me_int ma_nil)))) (me_new (c := 4) B (k := 3) (ks := []) (l := [.p 0, .p 1]) (InW.t (ks := []) (dvs := [.int 1]) (l := [.p 0, .p 1]) okRate___init__ (T.cm 4 _ (by kernel_rfl)) T.b1 (fun f fd F => bdW1 F (fun T kV doc pm an cdv ct us its ws h1 h2 h3 => match us, its, ws, h1, h2, h3 with | [_, _, _], [_], [], _, _, _ => ⟨_, rfl, rfl⟩)) (by kernel_rfl)) (by kernel_rfl) (by kernel_rfl) (by kernel_rfl) (pak_pos (ma_cons me_int (ma_cons me_int ma_nil))))) (me_and (me_cm (c_gtR (k := 3) (cs := [4]) B c_gt (tab1 (OwnT.mono (k := 3) (MfW.o okRate___lt__ (fun f fd F => bdW0 F (fun s kV doc pm an cdv ct us ws h1 h2 => match us, ws, h1, h2 with | [_, _], [], _, _ => .of_eq (by kernel_rfl)))) (by kernel_rfl))) (by kernel_rfl) rfl T.b17) me_int (me_new (c := 4) B (k := 3) (ks := []) (l := [.p 0, .p 1]) (InW.t (ks := []) (dvs := [.int 1]) (l := [.p 0, .p 1]) okRate___init__ (T.cm 4 _ (by kernel_rfl)) T.b1 (fun f fd F => bdW1 F (fun T kV doc pm an cdv ct us its ws h1 h2 h3 => match us, its, ws, h1, h2, h3 with | [_, _, _], [_], [], _, _, _ => ⟨_, rfl, rfl⟩)) (by kernel_rfl)) (by kernel_rfl) (by kernel_rfl) (by kernel_rfl) (pak_pos (ma_cons me_int (ma_cons me_int ma_nil))))) (me_and (me_cm (c_eq B) (me_b (b_strO (k := 1) B (tab1 (OwnT.mono (k := 1) (MfW.o okRate___str__ (fun f fd F => bdW0 F (fun s kV doc pm an cdv ct us ws h1 h2 => match us, ws, h1, h2 with | [_], [], _, _ => .of_eq (by kernel_rfl)))) (by kernel_rfl))) (by kernel_rfl)) (T.bn _ (by kernel_rfl)) (by kernel_rfl) (by kernel_rfl) (ma_cons (me_subO (k := 5) (k2 := 6) (cs := [4]) (csR := [4]) (os := [4]) (by kernel_rfl) B (tab1 (OwnT.mono (k := 5) (MfW.o okRate___sub__ (fun f fd F => bdW0 F (fun s kV doc pm an cdv ct us ws h1 h2 => match us, ws, h1, h2 with | [_, _], [], _, _ => .of_eq (by kernel_rfl)))) (by kernel_rfl))) (by kernel_rfl) rfl T.b6 (tab1 (OwnT.mono (k := 6) (MfW.o okRate___rsub__ (fun f fd F => bdW0 F (fun s kV doc pm an cdv ct us ws h1 h2 => match us, ws, h1, h2 with | [_, _], [], _, _ => .of_eq (by kernel_rfl)))) (by kernel_rfl))) (by kernel_rfl) rfl T.b15 me_int (me_new (c := 4) B (k := 3) (ks := []) (l := [.p 0, .p 1]) (InW.t (ks := []) (dvs := [.int 1]) (l := [.p 0, .p 1]) okRate___init__ (T.cm 4 _ (by kernel_rfl)) T.b1 (fun f fd F => bdW1 F (fun T kV doc pm an cdv ct us its ws h1 h2 h3 => match us, its, ws, h1, h2, h3 with | [_, _, _], [_], [], _, _, _ => ⟨_, rfl, rfl⟩)) (by kernel_rfl)) (by kernel_rfl) (by kernel_rfl) (by kernel_rfl) (pak_pos (ma_cons me_int (ma_cons me_int ma_nil))))) ma_nil)) me_str) (me_one (me_cm (c_eqO (k := 3) (cs := [4]) B (tab1 (OwnT.mono (k := 3) (MfW.o okRate___eq__ (fun f fd F => bdW0 F (fun s kV doc pm an cdv ct us ws h1 h2 => match us, ws, h1, h2 with | [_, _], [], _, _ => .of_eq (by kernel_rfl)))) (by kernel_rfl))) (by kernel_rfl) rfl T.b3) (me_new (c := 4) B (k := 3) (ks := []) (l := [.p 0, .p 1]) (InW.t (ks := []) (dvs := [.int 1]) (l := [.p 0, .p 1]) okRate___init__ (T.cm 4 _ (by kernel_rfl)) T.b1 (fun f fd F => bdW1 F (fun T kV doc pm an cdv ct us its ws h1 h2 h3 => match us, its, ws, h1, h2, h3 with | [_, _, _], [_], [], _, _, _ => ⟨_, rfl, rfl⟩)) (by kernel_rfl)) (by kernel_rfl) (by kernel_rfl) (by kernel_rfl) (pak_pos (ma_cons me_int (ma_cons me_int ma_nil)))) me_int))))))))
end
end Lw

namespace Lw
open PySem ME
section
/-! ### names, draws: what laws on stands without tours share -/
/-! ### draws -/
noncomputable def drC : DrC := ⟨34457, 1721, 2147483549, 47903, 491, 2147483629, 179, 56099, 97, 2147483587⟩
theorem draw_eq : b_law_draw = bDraw drC := by kernel_rfl
theorem drC_ok : drC.ok = true := by decide +kernel
theorem hd_draw {many : Int} (h0 : 0 < many) (h1 : many < 2 ^ 8999) : Hd 1 (m_law_draw [.pen, .int many]) (fun d => ∃ r, d = .int r ∧ 0 ≤ r ∧ r < many) := by
  unfold m_law_draw
  rw [draw_eq]
  exact Hd.draw drC_ok h0 h1
theorem big1000 : (1000 : Int) < 2 ^ 8999 := by decide +kernel
theorem big {many : Int} (h : many < 1000) : many < 2 ^ 8999 := Int.lt_trans h big1000
theorem pick_run {l : List D} {k : Int} {d : D} {p p1 : Pn} (e : m_law_draw [.pen, .int (l.length : Int)] p = some (.ok (.int k), p1)) (h : L2.atI l k = some d) : m_law_pick [.pen, .lst l] p = some (.ok d, p1) :=
  fn_ret rfl (ret_run (bn rfl (callK_run (xs := [.pen, .int (l.length : Int)]) rfl rfl ⟨rfl, rfl⟩ e) (ix_run h)))
theorem hd_pick {l : List D} (h0 : 0 < l.length) (h1 : l.length < 1000) : Hd 1 (m_law_pick [.pen, .lst l]) (fun d => d ∈ l) := by
  intro b p hp hb
  obtain ⟨_, p1, e1, ⟨k, rfl, k0, k1⟩, q1⟩ := hd_draw (many := (l.length : Int)) (by omega) (big (by omega)) b p hp hb
  obtain ⟨d, ed, md, _⟩ := at_mem (l := l) k0 k1
  exact ⟨d, p1, pick_run e1 ed, md, q1⟩
theorem pnb_mono {b c : Int} {p : Pn} (h : PnB b p) (hc : b ≤ c) : PnB c p := ⟨h.lo, Int.le_trans h.hi hc, h.len⟩
/-! ### lists popped -/
theorem big5 : (100000 : Int) < 2 ^ 8999 := by decide +kernel
theorem w_draw {many b : Int} {q : Pn} {Λ : Out D → Pn → Prop} (hp : PnB b q) (hb : b + 1 ≤ 1000000) (h0 : 0 < many) (h1 : many < 100000) (h : ∀ r q', 0 ≤ r → r < many → PnB (b + 1) q' → Λ (.ok (.int r)) q') : wm (m_law_draw [.pen, .int many]) q Λ := by
  obtain ⟨_, p', e, ⟨r, rfl, r0, r1⟩, hq⟩ := hd_draw h0 (Int.lt_trans h1 big5) b q hp hb
  exact ⟨_, _, e, h r p' r0 r1 hq⟩
theorem w_pick {l : List D} {b : Int} {q : Pn} {Λ : Out D → Pn → Prop} (hp : PnB b q) (hb : b + 1 ≤ 1000000) (h0 : 0 < l.length) (h1 : l.length < 1000) (h : ∀ d q', d ∈ l → PnB (b + 1) q' → Λ (.ok d) q') : wm (m_law_pick [.pen, .lst l]) q Λ := by
  obtain ⟨d, p', e, hd, hq⟩ := hd_pick h0 h1 b q hp hb
  exact ⟨_, _, e, h d p' hd hq⟩
noncomputable def PostH (b : Int) (k : Nat) (Q : D → Prop) : Out D → Pn → Prop := fun o p => ∃ d, o = .ok d ∧ Q d ∧ PnB (b + k) p
/-! ### what can be compared -/
noncomputable def Sh (d : D) : Prop := ∃ P, toPy d = some P ∧ P.canLay0 = true ∧ P.depth ≤ 8
theorem sh_self {d : D} (h : Sh d) (neg : Bool) (q : Pn) : dEq neg d d q = some (.ok (.bl (!neg)), q) := by
  obtain ⟨P, h1, h2, h3⟩ := h
  have hs : SeqAt.shaped P = true := by
    unfold SeqAt.shaped
    rw [h2, decide_eq_true (show P.depth ≤ 64 by omega)]
    rfl
  have key : ∀ d, toPy d = some P → (match toPy d, toPy d with
    | some p, some q => if SeqAt.shaped p && SeqAt.shaped q then M.ret (D.bl (neg ^^ PyData.eqv p q)) else M.stuck
    | _, _ => M.stuck) q = some (.ok (.bl (!neg)), q) := fun d hd => by
    rw [hd]
    dsimp only
    rw [if_pos (by rw [hs]; rfl), SeqAt.eqv_refl P h2]
    cases neg <;> rfl
  cases d <;> first | exact key _ h1 | (simp [dEq, M.ret])
end
local macro_rules | `(tactic| walk_at "d") => `(tactic| exact inferInstance)
local macro_rules | `(tactic| walk_at "u") => `(tactic| repeat' (first | exact gs0_ok | exact gN_ok inferInstance | apply gs1_ok | apply gT_ok | with_unfolding_all rfl))
local macro_rules | `(tactic| walk_at "n") => `(tactic| first | with_reducible assumption | omega | (simp only [List.length_map, List.length_append, List.length_cons, List.length_nil, List.length_range, List.length_reverse] ; omega))
local macro_rules | `(tactic| walk_at "t") => `(tactic| first | with_reducible assumption | with_reducible rfl | ((with_reducible refine sz_of ?_); (focus (walk_at "n"))) | ((with_reducible refine decide_eq_true ?_); (focus (walk_at "n"))) | ((with_reducible refine decide_eq_false ?_); (focus (walk_at "n"))) | (simp [isNon] ; done))
local macro_rules | `(tactic| walk_at "c") => `(tactic| first | with_reducible refine w_case (fun h => ?_) (fun h => ?_))
local macro_rules | `(tactic| walk_at "w") => `(tactic| first | ((with_reducible refine' w_of ?k1 ?go); (case k1 => with_reducible assumption)) | refine Step.go ?_ | infer_instance | with_reducible refine w_nK ?_ | ((with_reducible refine' w_mK ?k1 ?go); (case k1 => exact rfl)) | ((with_reducible refine' w_rK ?k1 ?k2 ?go); (case k1 => walk_at "n"); (case k2 => walk_at "n")) | ((with_reducible refine kL_ok ?_ inferInstance ?_); (focus (walk_at "t"))) | ((with_reducible refine kA_ok ?_ inferInstance ?_); (focus (walk_at "n"))) | ((with_reducible refine' d_addl ?k1 ?go); (case k1 => walk_at "n")) | ((with_reducible refine' d_addt ?k1 ?go); (case k1 => walk_at "n")) | ((with_reducible refine' d_mod ?k1 ?go); (case k1 => walk_at "n")) | ((with_reducible refine' w_tt ?k1 ?go); (case k1 => walk_at "t")) | ((with_reducible refine' w_ff ?k1 ?go); (case k1 => walk_at "t")) | ((with_reducible refine' s_tt ?k1 ?go); (case k1 => walk_at "t")) | ((with_reducible refine' s_ff ?k1 ?go); (case k1 => walk_at "t")) | ((with_reducible refine' kT_t ?k1 ?go); (case k1 => walk_at "t")) | ((with_reducible refine' kT_f ?k1 ?go); (case k1 => walk_at "t")) | ((with_reducible refine' d_ixt ?k1 ?go); (case k1 => first | assumption | walk_at "i" | exact rfl)) | ((with_reducible refine' d_ownF ?k1 ?go); (case k1 => intro c fs z; cases z)) | ((with_reducible refine' d_prim (f := dTup1) ?k1 ?go); (case k1 => exact rfl)) | ((with_reducible refine' d_prim (f := dLst1) ?k1 ?go); (case k1 => exact rfl)) | ((with_reducible refine' d_prim (f := dInt1) ?k1 ?go); (case k1 => exact rfl)) | ((with_reducible refine' d_prim (f := dMin) ?k1 ?go); (case k1 => exact rfl)) | ((with_reducible refine' d_prim (f := dMax) ?k1 ?go); (case k1 => exact rfl)) | ((with_reducible refine' d_prim (f := dIsi _) ?k1 ?go); (case k1 => exact rfl)) | ((with_reducible refine' d_prim1 (f := dFld _ _) ?k1 ?go); (case k1 => exact rfl)) | ((with_reducible refine' d_prim1 (f := dRev) ?k1 ?go); (case k1 => exact rfl)) | ((with_reducible refine' d_prim1 (f := dRevA) ?k1 ?go); (case k1 => exact rfl)) | ((with_reducible refine' w_comp ?k1 ?k2 ?k3 ?go); (case k1 => (walk_at "W")); (case k2 => (intro x hx; (refine ⟨_, gV.eq, ?_⟩); (walk_at "W"))); (case k3 => (walk_at "n"))) | ((with_reducible refine' w_compF ?k1 ?k2 ?k3 ?go); (case k1 => (walk_at "W")); (case k2 => (intro x hx; (refine ⟨_, gV.eq, ?_, fun _ => ?_⟩) <;> (walk_at "W"))); (case k3 => (walk_at "n"))) | ((with_reducible refine' d_bop ?k1 ?k2 ?go); (case k1 => exact rfl); (case k2 => exact rfl)) | ((with_reducible refine' d_own ?k1 ?k2 ?go); (case k1 => exact rfl); (case k2 => exact rfl)) | ((with_reducible refine' d_own1C ?k1 ?go); (case k1 => exact rfl)) | ((with_reducible refine' d_bopV ?k1 ?k2 ?k3 ?go); (case k1 => exact rfl); (case k2 => exact rfl); (case k3 => intro c fs z; cases z)) | ((with_reducible refine' d_ownV ?k1 ?k2 ?k3 ?go); (case k1 => exact rfl); (case k2 => exact rfl); (case k3 => intro c fs z; cases z)) | ((with_reducible refine' d_deqL ?k1 ?go); (case k1 => first | assumption | walk_at "i")))
local macro_rules | `(tactic| walk_at "W") => `(tactic| repeat' (first | walk_at "w" | walk_at "c" | exact fin_rfl))
local macro_rules | `(tactic| walk_at "z") => `(tactic| first | exact fin_rfl | (exfalso; simp_all; done))
section
/-! ### the greatest common divisor -/
/-- how many turns are left -/
noncomputable def left (h l : Nat) : Nat := if l = 0 then 0 else if h < l then Nat.log2 (h * l) + 3 else Nat.log2 (h * l) + 2
theorem left_step {h l : Nat} (hl : l ≠ 0) : left l (h % l) < left h l := by
  have hlt := Nat.mod_lt h (Nat.pos_of_ne_zero hl)
  unfold left
  rw [if_neg hl]
  by_cases h0 : h % l = 0
  · rw [if_pos h0]
    split <;> omega
  · rw [if_neg h0, if_neg (by omega)]
    by_cases c : h < l
    · rw [if_pos c, Nat.mod_eq_of_lt c, Nat.mul_comm]
      omega
    · rw [if_neg c]
      have h2 : 2 * (h % l) < h := by
        have a := Nat.div_add_mod h l
        have b : 1 ≤ h / l := Nat.div_pos (by omega) (Nat.pos_of_ne_zero hl)
        have c2 : l * 1 ≤ l * (h / l) := Nat.mul_le_mul_left l b
        omega
      have h3 : 2 * (l * (h % l)) ≤ h * l := by
        have := Nat.mul_le_mul_left l (Nat.le_of_lt h2)
        rw [Nat.mul_comm h l]
        calc 2 * (l * (h % l)) = l * (2 * (h % l)) := by rw [Nat.mul_left_comm]
          _ ≤ l * h := this
      have p1 : 0 < l * (h % l) := Nat.mul_pos (Nat.pos_of_ne_zero hl) (Nat.pos_of_ne_zero h0)
      have h4 : Nat.log2 (l * (h % l)) + 1 ≤ Nat.log2 (h * l) := by
        have a := Nat.log2_self_le (n := l * (h % l)) (by omega)
        have : 2 ^ (Nat.log2 (l * (h % l)) + 1) ≤ h * l := by
          rw [Nat.pow_succ]
          omega
        exact (Nat.le_log2 (by omega)).mpr this
      omega
theorem left_small {h l : Nat} (hb : h * l < 2 ^ 990) : left h l < 1000 := by
  unfold left
  split
  · omega
  · by_cases h0 : h * l = 0
    · rw [h0]
      have : Nat.log2 0 = 0 := by decide
      rw [this]
      split <;> omega
    · have : Nat.log2 (h * l) < 990 := (Nat.log2_lt h0).mpr hb
      split <;> omega
theorem mod_int (h l : Nat) : ((h : Int) % (l : Int)) = ((h % l : Nat) : Int) := (Int.natCast_emod h l).symm
noncomputable abbrev iD (n : Nat) : Option Sl := some (.d (.int (n : Int)))
theorem gcd_step (h l : Nat) : Nat.gcd l (h % l) = Nat.gcd h l := by
  rw [Nat.gcd_comm h l, Nat.gcd_rec l h, Nat.gcd_comm]
theorem common_run {h l : Nat} (hb : h * l < 2 ^ 990) (q : Pn) : mcommon_divisor [.int (h : Int), .int (l : Int)] q = some (.ok (.int ((Nat.gcd h l : Nat) : Int)), q) := by
  refine of_w (w_fn rfl (by walk_at "d") ?_)
  unfold bcommon_divisor
  walk_at "W"
  refine s_while (fun k δ p => ∃ h' l' : Nat, left h' l' = k ∧ Nat.gcd h' l' = Nat.gcd h l ∧ δ = [iD h, iD l, iD h', iD l'] ∧ p = q) (left h l) (left_small hb) ⟨h, l, rfl, rfl, rfl, rfl⟩ ?_
  rintro k δ p ⟨h', l', rfl, hg, rfl, rfl⟩
  by_cases h0 : l' = 0
  · subst h0
    have e0 : (!(((0 : Nat) : Int) == 0)) = false := rfl
    walk_at "W"
    rw [← hg, Nat.gcd_zero_right]
    exact fin_rfl
  · have e0 : (!((l' : Int) == 0)) = true := by
      rw [Bool.not_eq_true', beq_eq_false_iff_ne]
      omega
    have hp : (0 : Int) < (l' : Int) := by omega
    walk_at "W"
    refine ⟨left l' (h' % l'), left_step h0, l', h' % l', rfl, by rw [gcd_step, hg], ?_, rfl⟩
    rw [mod_int]
theorem abs_nat (i : Int) : (if i < 0 then -i else i) = ((i.natAbs : Nat) : Int) := by
  split <;> omega
theorem abs_run (i : Int) (q : Pn) : dAbs [.int i] q = some (.ok (.int ((i.natAbs : Nat) : Int)), q) := by
  show M.ret (D.int (if i < 0 then -i else i)) q = _
  rw [abs_nat]
  rfl
local macro_rules | `(tactic| infer_instance) => `(tactic| with_reducible refine w_of (abs_run _ _) ?_)
/-! ### rates -/
/-- the parts of a rate -/
noncomputable def low (t b : Int) : Int × Int := let g : Int := ((Nat.gcd t.natAbs b.natAbs : Nat) : Int)
  if b < 0 then (-t / g, -b / g) else (t / g, b / g)
noncomputable abbrev rateD (p : Int × Int) : D := .obj 4 [.tup [.int p.1, .int p.2]]
theorem div_run {i j : Int} (h0 : 0 < j) (h1 : j.natAbs < 2 ^ 8999) (q : Pn) : dDivW (.int i) (.int j) q = some (.ok (.int (i / j)), q) := by
  have : j.natAbs.log2 < 9000 := Nat.lt_succ_of_lt ((Nat.log2_lt (by omega)).mpr h1)
  show (if decide (0 < j) && decide (j.natAbs.log2 < 9000) then M.ret (D.int (i / j)) else M.stuck) q = _
  rw [decide_eq_true h0, decide_eq_true this]
  rfl
theorem gcd_big {t b : Int} (hb : b ≠ 0) (hs : b.natAbs < 2 ^ 8999) : (0 : Int) < ((Nat.gcd t.natAbs b.natAbs : Nat) : Int) ∧ ((Nat.gcd t.natAbs b.natAbs : Nat) : Int).natAbs < 2 ^ 8999 := by
  have hp : 0 < b.natAbs := by omega
  have h1 : 0 < Nat.gcd t.natAbs b.natAbs := Nat.gcd_pos_of_pos_right _ hp
  have h2 := Nat.gcd_le_right t.natAbs hp
  refine ⟨by omega, ?_⟩
  rw [Int.natAbs_natCast]
  exact Nat.lt_of_le_of_lt h2 hs
theorem lowest_run {t b : Int} (hb : b ≠ 0) (hs : b.natAbs < 2 ^ 8999) (h2 : t.natAbs * b.natAbs < 2 ^ 990) (q : Pn) : mlowest [.int t, .int b] q = some (.ok (.tup [.int (low t b).1, .int (low t b).2]), q) := by
  have hc := common_run h2 q
  obtain ⟨g0, g1⟩ := gcd_big (t := t) hb hs
  have d1 := fun i => div_run (i := i) g0 g1 q
  have d1a := d1 (-t)
  have d1b := d1 (-b)
  have d1c := d1 t
  have d1d := d1 b
  refine of_w (w_fn rfl (by walk_at "d") ?_)
  unfold blowest low
  by_cases c : b < 0
  · have e : decide (b < 0) = true := decide_eq_true c
    rw [if_pos c]
    walk_at "W"
  · have e : decide (b < 0) = false := decide_eq_false c
    rw [if_neg c]
    walk_at "W"
theorem int_is (i : Int) (q : Pn) : mis_integer [.int i] q = some (.ok (.bl true), q) := by kernel_rfl
theorem rate_new {t b : Int} (hb : b ≠ 0) (hs : b.natAbs < 2 ^ 8999) (h2 : t.natAbs * b.natAbs < 2 ^ 990) (q : Pn) : nK 4 iRate [.int t, .int b] q = some (.ok (rateD (low t b)), q) := by
  have hl := lowest_run hb hs h2 q
  have i1 := int_is t q
  have i2 := int_is b q
  have e0 : (b == 0) = false := beq_eq_false_iff_ne.mpr hb
  refine of_w (w_nK ?_)
  refine w_in rfl (by walk_at "d") ?_
  unfold bRate___init__
  walk_at "W"
/-- lowest terms -/
structure Lt (p : Int × Int) : Prop where
  pos : 0 < p.2
  g : Nat.gcd p.1.natAbs p.2.natAbs = 1
theorem div_of {g k : Int} (hg : 0 < g) : g * k / g = k := Int.mul_ediv_cancel_left k (by omega)
/-- the parts by a common factor -/
theorem low_fac {t b : Int} (hb : b ≠ 0) : ∃ g t' b' : Int, 0 < g ∧ t = g * t' ∧ b = g * b' ∧ g = ((Nat.gcd t.natAbs b.natAbs : Nat) : Int) ∧ Nat.gcd t'.natAbs b'.natAbs = 1 ∧ b' ≠ 0 ∧ low t b = if b < 0 then (-t', -b') else (t', b') := by
  have hp : 0 < b.natAbs := by omega
  obtain ⟨G, hG⟩ : ∃ G, Nat.gcd t.natAbs b.natAbs = G := ⟨_, rfl⟩
  have g0 : 0 < G := by rw [← hG]; exact Nat.gcd_pos_of_pos_right _ hp
  obtain ⟨t', ht⟩ : ((G : Nat) : Int) ∣ t := Int.ofNat_dvd_left.mpr (by rw [← hG]; exact Nat.gcd_dvd_left _ _)
  obtain ⟨b', hb'⟩ : ((G : Nat) : Int) ∣ b := Int.ofNat_dvd_left.mpr (by rw [← hG]; exact Nat.gcd_dvd_right _ _)
  have gI : (0 : Int) < (G : Int) := by omega
  refine ⟨G, t', b', gI, ht, hb', by rw [hG], ?_, ?_, ?_⟩
  · have e1 : t.natAbs = G * t'.natAbs := by rw [ht, Int.natAbs_mul, Int.natAbs_natCast]
    have e2 : b.natAbs = G * b'.natAbs := by rw [hb', Int.natAbs_mul, Int.natAbs_natCast]
    rw [e1, e2, Nat.gcd_mul_left] at hG
    exact Nat.eq_of_mul_eq_mul_left g0 (by rw [hG, Nat.mul_one])
  · intro z
    rw [z, Int.mul_zero] at hb'
    exact hb hb'
  · unfold low
    rw [hG]
    dsimp only
    have n1 : -t = (G : Int) * -t' := by rw [ht, Int.mul_neg]
    have n2 : -b = (G : Int) * -b' := by rw [hb', Int.mul_neg]
    by_cases c : b < 0
    · rw [if_pos c, if_pos c, n1, n2, div_of gI, div_of gI]
    · rw [if_neg c, if_neg c]
      have d1 : t / (G : Int) = t' := by rw [ht]; exact div_of gI
      have d2 : b / (G : Int) = b' := by rw [hb']; exact div_of gI
      rw [d1, d2]
theorem low_lt {t b : Int} (hb : b ≠ 0) : Lt (low t b) := by
  obtain ⟨g, t', b', hg, ht, hb', _, h1, h2, h3⟩ := low_fac (t := t) hb
  have hsg : b < 0 ↔ b' < 0 := by
    rw [hb']
    constructor
    · intro z
      rcases Int.lt_trichotomy b' 0 with c | c | c
      · exact c
      · exact absurd c h2
      · have := Int.mul_pos hg c; omega
    · intro z; exact Int.mul_neg_of_pos_of_neg hg z
  rw [h3]
  by_cases c : b < 0
  · rw [if_pos c]
    have := hsg.mp c
    exact ⟨by show (0 : Int) < -b'; omega, by show Nat.gcd (-t').natAbs (-b').natAbs = 1; rw [Int.natAbs_neg, Int.natAbs_neg]; exact h1⟩
  · rw [if_neg c]
    have : ¬ b' < 0 := fun z => c (hsg.mpr z)
    exact ⟨by show (0 : Int) < b'; omega, h1⟩
theorem low_cross {t b : Int} (hb : b ≠ 0) : t * (low t b).2 = (low t b).1 * b := by
  obtain ⟨g, t', b', hg, ht, hb', _, h1, h2, h3⟩ := low_fac (t := t) hb
  rw [h3]
  by_cases c : b < 0
  · rw [if_pos c]
    show t * -b' = -t' * b
    rw [ht, hb', Int.mul_neg, Int.neg_mul, Int.mul_assoc, Int.mul_left_comm]
  · rw [if_neg c]
    show t * b' = t' * b
    rw [ht, hb', Int.mul_assoc, Int.mul_left_comm]
theorem low_abs {t b : Int} (hb : b ≠ 0) : (low t b).1.natAbs ≤ t.natAbs ∧ (low t b).2.natAbs ≤ b.natAbs := by
  obtain ⟨g, t', b', hg, ht, hb', _, h1, h2, h3⟩ := low_fac (t := t) hb
  have le : ∀ x : Int, x.natAbs ≤ (g * x).natAbs := fun x => by
    rw [Int.natAbs_mul]
    exact Nat.le_mul_of_pos_left _ (by omega)
  have l1 := le t'
  have l2 := le b'
  rw [← ht] at l1
  rw [← hb'] at l2
  rw [h3]
  split
  · exact ⟨by show (-t').natAbs ≤ _; rw [Int.natAbs_neg]; exact l1, by show (-b').natAbs ≤ _; rw [Int.natAbs_neg]; exact l2⟩
  · exact ⟨l1, l2⟩
section
variable (p r : Int × Int) (q : Pn)
theorem top_run : mRate_top [rateD p] q = some (.ok (.int p.1), q) := by kernel_rfl
theorem bottom_run : mRate_bottom [rateD p] q = some (.ok (.int p.2), q) := by kernel_rfl
theorem tup_eq (a b c d : Int) : dEq false (.tup [.int a, .int b]) (.tup [.int c, .int d]) q = some (.ok (.bl (a == c && b == d)), q) := by
  simp [dEq, toPy, toPyL, SeqAt.shaped, PyData.canLay0, PyData.canLayAll0, PyData.depth, PyData.depthAll, PyData.eqv, PyData.eqvAll, M.ret]
end
/-! ### what a value stands for -/
/-- the parts of a right operand -/
noncomputable def Pv (d : D) (r : Int × Int) : Prop := ∀ q, mparts_of [d] q = some (.ok (.tup [.int r.1, .int r.2]), q)
theorem pv_rate (r : Int × Int) : Pv (rateD r) r := fun q => by kernel_rfl
theorem pv_int (k : Int) : Pv (.int k) (k, 1) := fun q => by kernel_rfl
/-- p stands for t / b -/
noncomputable def Rp (p : Int × Int) (t b : Int) : Prop := t * p.2 = p.1 * b
theorem rp_low {t b : Int} (hb : b ≠ 0) : Rp (low t b) t b := low_cross hb
theorem rp_self (p : Int × Int) : Rp p p.1 p.2 := rfl
theorem rp_trans {p : Int × Int} {t b t' b' : Int} (hb : b ≠ 0) (h : Rp p t b) (e : t * b' = t' * b) : Rp p t' b' := by
  unfold Rp at *
  refine Int.eq_of_mul_eq_mul_right hb ?_
  grind
theorem rp_uniq {p r : Int × Int} {t b t' b' : Int} (lp : Lt p) (lr : Lt r) (hb : b ≠ 0) (hb' : b' ≠ 0) (h : Rp p t b) (h' : Rp r t' b') (e : t * b' = t' * b) : p = r := by
  unfold Rp at *
  have h1 : p.1 * r.2 = r.1 * p.2 := by
    refine Int.eq_of_mul_eq_mul_right (Int.mul_ne_zero hb hb') ?_
    grind
  have p0 := lp.pos
  have r0 := lr.pos
  have d1 : p.2.natAbs ∣ r.2.natAbs := by
    have : p.2.natAbs ∣ p.1.natAbs * r.2.natAbs := ⟨r.1.natAbs, by rw [← Int.natAbs_mul, h1, Int.natAbs_mul, Nat.mul_comm]⟩
    exact (Nat.Coprime.symm lp.g).dvd_of_dvd_mul_left this
  have d2 : r.2.natAbs ∣ p.2.natAbs := by
    have : r.2.natAbs ∣ r.1.natAbs * p.2.natAbs := ⟨p.1.natAbs, by rw [← Int.natAbs_mul, ← h1, Int.natAbs_mul, Nat.mul_comm]⟩
    exact (Nat.Coprime.symm lr.g).dvd_of_dvd_mul_left this
  have e2 : p.2 = r.2 := by
    have := Nat.dvd_antisymm d1 d2
    omega
  rw [e2] at h1
  exact Prod.ext (Int.eq_of_mul_eq_mul_right (by omega) h1) e2
theorem sg_lt {X Y A B : Int} (hA : 0 < A) (hB : 0 < B) (h : X * A = Y * B) : (X < 0 ↔ Y < 0) ∧ (X = 0 ↔ Y = 0) := by
  constructor
  · constructor
    · intro z
      have := Int.mul_neg_of_neg_of_pos z hA
      rcases Int.lt_trichotomy Y 0 with c | c | c
      · exact c
      · rw [h, c] at this; simp at this
      · have := Int.mul_pos c hB; omega
    · intro z
      have := Int.mul_neg_of_neg_of_pos z hB
      rcases Int.lt_trichotomy X 0 with c | c | c
      · exact c
      · rw [← h, c] at this; simp at this
      · have := Int.mul_pos c hA; omega
  · constructor
    · intro z
      rw [z, Int.zero_mul] at h
      rcases Int.mul_eq_zero.mp h.symm with c | c
      · exact c
      · omega
    · intro z
      rw [z, Int.zero_mul] at h
      rcases Int.mul_eq_zero.mp h with c | c
      · exact c
      · omega
/-- order by cross products -/
theorem rp_cmp {p r : Int × Int} {t b t' b' : Int} (p0 : 0 < p.2) (r0 : 0 < r.2) (hb : 0 < b) (hb' : 0 < b') (h : Rp p t b) (h' : Rp r t' b') : (p.1 * r.2 < r.1 * p.2 ↔ t * b' < t' * b) ∧ (p.1 * r.2 = r.1 * p.2 ↔ t * b' = t' * b) := by
  unfold Rp at *
  have := sg_lt (X := p.1 * r.2 - r.1 * p.2) (Y := t * b' - t' * b) (A := b * b') (B := p.2 * r.2) (Int.mul_pos hb hb') (Int.mul_pos p0 r0) (by grind)
  omega
end
section
/-! ### sizes -/
structure Sz (n : Nat) (r : Int × Int) : Prop where
  pos : 0 < r.2
  a : r.1.natAbs < 2 ^ n
  b : r.2.natAbs < 2 ^ n
structure Rt (n : Nat) (p : Int × Int) : Prop where
  lt : Lt p
  sz : Sz n p
theorem log_le {i : Int} {n : Nat} (h : i.natAbs < 2 ^ n) : i.natAbs.log2 ≤ n := by
  by_cases h0 : i.natAbs = 0
  · rw [h0]
    have : Nat.log2 0 = 0 := by decide
    omega
  · exact Nat.le_of_lt ((Nat.log2_lt h0).mpr h)
theorem mulW {i j : Int} {n m : Nat} (hi : i.natAbs < 2 ^ n) (hj : j.natAbs < 2 ^ m) (h : n + m ≤ 5000) (q : Pn) : dMulW (.int i) (.int j) q = some (.ok (.int (i * j)), q) := by
  have a := log_le hi
  have b := log_le hj
  show (if decide (i.natAbs.log2 + j.natAbs.log2 < 1000000) = true then M.ret (D.int (i * j)) else M.stuck) q = _
  rw [if_pos (decide_eq_true (by omega))]
  rfl
theorem mul_sz {i j : Int} {n m : Nat} (hi : i.natAbs < 2 ^ n) (hj : j.natAbs < 2 ^ m) : (i * j).natAbs < 2 ^ (n + m) := by
  rw [Int.natAbs_mul, Nat.pow_add]
  exact Nat.mul_lt_mul'' hi hj
theorem add_sz {i j : Int} {n : Nat} (hi : i.natAbs < 2 ^ n) (hj : j.natAbs < 2 ^ n) : (i + j).natAbs < 2 ^ (n + 1) := by
  rw [Nat.pow_succ]
  omega
theorem sub_sz {i j : Int} {n : Nat} (hi : i.natAbs < 2 ^ n) (hj : j.natAbs < 2 ^ n) : (i - j).natAbs < 2 ^ (n + 1) := by
  rw [Nat.pow_succ]
  omega
theorem up_sz {x n m : Nat} (h : x < 2 ^ n) (k : n ≤ m) : x < 2 ^ m := Nat.lt_of_lt_of_le h (Nat.pow_le_pow_right (by decide) k)
theorem mk_sz {t b : Int} {n : Nat} (hb : b ≠ 0) (ht : t.natAbs < 2 ^ n) (hs : b.natAbs < 2 ^ n) : Rt n (low t b) := by
  have l := low_lt (t := t) hb
  have a := low_abs (t := t) hb
  exact ⟨l, l.pos, Nat.lt_of_le_of_lt a.1 ht, Nat.lt_of_le_of_lt a.2 hs⟩
theorem new_run {t b : Int} {n : Nat} (hb : b ≠ 0) (ht : t.natAbs < 2 ^ n) (hs : b.natAbs < 2 ^ n) (hn : n ≤ 490) (q : Pn) : nK 4 iRate [.int t, .int b] q = some (.ok (rateD (low t b)), q) := by
  refine rate_new hb (up_sz hs (by omega)) ?_ q
  have : t.natAbs * b.natAbs < 2 ^ n * 2 ^ n := Nat.mul_lt_mul'' ht hs
  rw [← Nat.pow_add] at this
  exact up_sz this (by omega)
/-! ### what the operators say -/
noncomputable def addP (p r : Int × Int) : Int × Int := low (p.1 * r.2 + r.1 * p.2) (p.2 * r.2)
noncomputable def subP (p r : Int × Int) : Int × Int := low (p.1 * r.2 - r.1 * p.2) (p.2 * r.2)
noncomputable def mulP (p r : Int × Int) : Int × Int := low (p.1 * r.1) (p.2 * r.2)
noncomputable def negP (p : Int × Int) : Int × Int := low (-p.1) p.2
noncomputable def overP (p r : Int × Int) : Int × Int := low (p.1 * r.2) (p.2 * r.1)
section
variable {p r : Int × Int} {d : D} {n m : Nat} (P : Sz n p) (R : Sz m r) (hd : Pv d r) (h : n + m + 1 ≤ 490) (q : Pn)
theorem bb_ne (P : Sz n p) (R : Sz m r) : p.2 * r.2 ≠ 0 := by
  have := Int.mul_pos P.pos R.pos
  omega
theorem bb_sz (P : Sz n p) (R : Sz m r) : (p.2 * r.2).natAbs < 2 ^ (n + m + 1) := up_sz (mul_sz P.b R.b) (by omega)
theorem addP_rt (P : Sz n p) (R : Sz m r) : Rt (n + m + 1) (addP p r) := by
  have a := mul_sz P.a R.b
  have b := mul_sz R.a P.b
  rw [Nat.add_comm m n] at b
  exact mk_sz (bb_ne P R) (add_sz a b) (bb_sz P R)
theorem subP_rt (P : Sz n p) (R : Sz m r) : Rt (n + m + 1) (subP p r) := by
  have a := mul_sz P.a R.b
  have b := mul_sz R.a P.b
  rw [Nat.add_comm m n] at b
  exact mk_sz (bb_ne P R) (sub_sz a b) (bb_sz P R)
theorem mulP_rt (P : Sz n p) (R : Sz m r) : Rt (n + m + 1) (mulP p r) := mk_sz (bb_ne P R) (up_sz (mul_sz P.a R.a) (by omega)) (bb_sz P R)
theorem negP_rt (P : Sz n p) : Rt n (negP p) := mk_sz (by have := P.pos; omega) (by rw [Int.natAbs_neg]; exact P.a) P.b
theorem rp_add {t b t' b' : Int} (P : Sz n p) (R : Sz m r) (h : Rp p t b) (h' : Rp r t' b') : Rp (addP p r) (t * b' + t' * b) (b * b') := by
  have c := rp_low (t := p.1 * r.2 + r.1 * p.2) (bb_ne P R)
  refine rp_trans (bb_ne P R) c ?_
  unfold Rp at h h'
  grind
theorem rp_sub {t b t' b' : Int} (P : Sz n p) (R : Sz m r) (h : Rp p t b) (h' : Rp r t' b') : Rp (subP p r) (t * b' - t' * b) (b * b') := by
  have c := rp_low (t := p.1 * r.2 - r.1 * p.2) (bb_ne P R)
  refine rp_trans (bb_ne P R) c ?_
  unfold Rp at h h'
  grind
theorem rp_mul {t b t' b' : Int} (P : Sz n p) (R : Sz m r) (h : Rp p t b) (h' : Rp r t' b') : Rp (mulP p r) (t * t') (b * b') := by
  have c := rp_low (t := p.1 * r.1) (bb_ne P R)
  refine rp_trans (bb_ne P R) c ?_
  unfold Rp at h h'
  grind
theorem rp_neg {t b : Int} (P : Sz n p) (h : Rp p t b) : Rp (negP p) (-t) b := by
  have p0 : p.2 ≠ 0 := by have := P.pos; omega
  have c := rp_low (t := -p.1) p0
  refine rp_trans p0 c ?_
  unfold Rp at h
  grind
include P R hd h
theorem add_run : mRate___add__ [rateD p, d] q = some (.ok (rateD (addP p r)), q) := by
  have pv := hd q
  have m1 := mulW P.a R.b (by omega) q
  have m2 := mulW R.a P.b (by omega) q
  have m3 := mulW P.b R.b (by omega) q
  have a := mul_sz P.a R.b
  have b := mul_sz R.a P.b
  rw [Nat.add_comm m n] at b
  have nw := new_run (bb_ne P R) (add_sz a b) (bb_sz P R) h q
  refine of_w (w_fn rfl (by walk_at "d") ?_)
  unfold bRate___add__
  walk_at "W"
theorem sub_run : mRate___sub__ [rateD p, d] q = some (.ok (rateD (subP p r)), q) := by
  have pv := hd q
  have m1 := mulW P.a R.b (by omega) q
  have m2 := mulW R.a P.b (by omega) q
  have m3 := mulW P.b R.b (by omega) q
  have a := mul_sz P.a R.b
  have b := mul_sz R.a P.b
  rw [Nat.add_comm m n] at b
  have nw := new_run (bb_ne P R) (sub_sz a b) (bb_sz P R) h q
  refine of_w (w_fn rfl (by walk_at "d") ?_)
  unfold bRate___sub__
  walk_at "W"
theorem mul_run : mRate___mul__ [rateD p, d] q = some (.ok (rateD (mulP p r)), q) := by
  have pv := hd q
  have m1 := mulW P.a R.a (by omega) q
  have m3 := mulW P.b R.b (by omega) q
  have nw := new_run (bb_ne P R) (up_sz (mul_sz P.a R.a) (by omega)) (bb_sz P R) h q
  refine of_w (w_fn rfl (by walk_at "d") ?_)
  unfold bRate___mul__
  walk_at "W"
theorem lt_run : mRate___lt__ [rateD p, d] q = some (.ok (.bl (decide (p.1 * r.2 < r.1 * p.2))), q) := by
  have pv := hd q
  have m1 := mulW P.a R.b (by omega) q
  have m2 := mulW R.a P.b (by omega) q
  refine of_w (w_fn rfl (by walk_at "d") ?_)
  unfold bRate___lt__
  walk_at "W"
theorem le_run : mRate___le__ [rateD p, d] q = some (.ok (.bl (decide (p.1 * r.2 ≤ r.1 * p.2))), q) := by
  have pv := hd q
  have m1 := mulW P.a R.b (by omega) q
  have m2 := mulW R.a P.b (by omega) q
  refine of_w (w_fn rfl (by walk_at "d") ?_)
  unfold bRate___le__
  walk_at "W"
theorem gt_run : mRate___gt__ [rateD p, d] q = some (.ok (.bl (decide (r.1 * p.2 < p.1 * r.2))), q) := by
  have pv := hd q
  have m1 := mulW P.a R.b (by omega) q
  have m2 := mulW R.a P.b (by omega) q
  refine of_w (w_fn rfl (by walk_at "d") ?_)
  unfold bRate___gt__
  walk_at "W"
theorem ge_run : mRate___ge__ [rateD p, d] q = some (.ok (.bl (decide (r.1 * p.2 ≤ p.1 * r.2))), q) := by
  have pv := hd q
  have m1 := mulW P.a R.b (by omega) q
  have m2 := mulW R.a P.b (by omega) q
  refine of_w (w_fn rfl (by walk_at "d") ?_)
  unfold bRate___ge__
  walk_at "W"
end
theorem eq_run {p r : Int × Int} {d : D} (hd : Pv d r) (q : Pn) : mRate___eq__ [rateD p, d] q = some (.ok (.bl (r.1 == p.1 && r.2 == p.2)), q) := by
  have pv := hd q
  have t := tup_eq q r.1 r.2 p.1 p.2
  refine of_w (w_fn rfl (by walk_at "d") ?_)
  unfold bRate___eq__
  walk_at "W"
theorem eq_same (p : Int × Int) (q : Pn) : mRate___eq__ [rateD p, rateD p] q = some (.ok (.bl true), q) := by
  have := eq_run (pv_rate p) (p := p) q
  rw [beq_self_eq_true, beq_self_eq_true, Bool.true_and] at this
  exact this
theorem neg_run {p : Int × Int} {n : Nat} (P : Sz n p) (hn : n ≤ 490) (q : Pn) : mRate___neg__ [rateD p] q = some (.ok (rateD (negP p)), q) := by
  have nw := new_run (t := -p.1) (b := p.2) (n := n) (by have := P.pos; omega) (by rw [Int.natAbs_neg]; exact P.a) P.b hn q
  refine of_w (w_fn rfl (by walk_at "d") ?_)
  unfold bRate___neg__
  walk_at "W"
section
variable {p r : Int × Int} {d : D} {n m : Nat} (P : Sz n p) (R : Sz m r) (hd : Pv d r) (h : n + m + 1 ≤ 490) (q : Pn)
include P R hd h
theorem over_run (r0 : r.1 ≠ 0) : mRate_over [rateD p, d] q = some (.ok (rateD (overP p r)), q) := by
  have pv := hd q
  have m1 := mulW P.a R.b (by omega) q
  have m2 := mulW P.b R.a (by omega) q
  have e : (r.1 == 0) = false := beq_eq_false_iff_ne.mpr r0
  have nw := new_run (n := n + m + 1) (Int.mul_ne_zero (by have := P.pos; omega) r0) (up_sz (mul_sz P.a R.b) (by omega)) (up_sz (mul_sz P.b R.a) (by omega)) h q
  refine of_w (w_fn rfl (by walk_at "d") ?_)
  unfold bRate_over
  walk_at "W"
omit h P R
theorem over_no (r0 : r.1 = 0) : mRate_over [rateD p, d] q = some (.ex 2 [.str "other"], q) := by
  have pv := hd q
  have e : (r.1 == 0) = true := beq_iff_eq.mpr r0
  refine of_w (w_fn rfl (by walk_at "d") ?_)
  unfold bRate_over
  walk_at "W"
end
theorem overP_rt {p r : Int × Int} {n m : Nat} (P : Sz n p) (R : Sz m r) (r0 : r.1 ≠ 0) : Rt (n + m + 1) (overP p r) :=
  mk_sz (Int.mul_ne_zero (by have := P.pos; omega) r0) (up_sz (mul_sz P.a R.b) (by omega)) (up_sz (mul_sz P.b R.a) (by omega))
theorem rp_over {p r : Int × Int} {n : Nat} {t b t' b' : Int} (P : Sz n p) (r0 : r.1 ≠ 0) (h : Rp p t b) (h' : Rp r t' b') : Rp (overP p r) (t * b') (b * t') := by
  have z : p.2 * r.1 ≠ 0 := Int.mul_ne_zero (by have := P.pos; omega) r0
  have c := rp_low (t := p.1 * r.2) z
  refine rp_trans z c ?_
  unfold Rp at h h'
  grind
/-! ### the law's own look -/
theorem is_run {p : Int × Int} {h l : Int} {n m : Nat} (lt : Lt p) (P : Sz n p) (hh : h.natAbs < 2 ^ m) (hl : l.natAbs < 2 ^ m) (hn : n + m ≤ 490) (hr : Rp p h l) (q : Pn) : m_law_is [rateD p, .int h, .int l] q = some (.ok (.bl true), q) := by
  have is : dIsi isT [rateD p, .cls 4] q = some (.ok (.bl true), q) := by kernel_rfl
  have tp := top_run p q
  have bt := bottom_run p q
  have e1 : decide (p.2 < 1) = false := decide_eq_false (by have := lt.pos; omega)
  have m1 := mulW P.a hl (by omega) q
  have m2 := mulW hh P.b (by omega) q
  have e2 : (!(p.1 * l == h * p.2)) = false := by
    unfold Rp at hr
    rw [hr, beq_self_eq_true]
    rfl
  have ab := abs_run p.1 q
  have hg := lt.g
  have hsz : p.1.natAbs * p.2.natAbs < 2 ^ 990 := by
    have : p.1.natAbs * p.2.natAbs < 2 ^ n * 2 ^ n := Nat.mul_lt_mul'' P.a P.b
    rw [← Nat.pow_add] at this
    exact up_sz this (by omega)
  have hb : p.2 = ((p.2.natAbs : Nat) : Int) := by have := lt.pos; omega
  refine of_w (w_fn rfl (by walk_at "d") ?_)
  unfold b_law_is
  walk_at "W"
  refine s_while (fun k δ p' => ∃ h' l' : Nat, left h' l' = k ∧ Nat.gcd h' l' = 1 ∧ δ = [some (.d (rateD p)), some (.d (.int h)), some (.d (.int l)), iD h', iD l'] ∧ p' = q) (left p.1.natAbs p.2.natAbs) (left_small hsz) ⟨p.1.natAbs, p.2.natAbs, rfl, hg, by unfold iD; rw [← hb], rfl⟩ ?_
  rintro k δ p' ⟨h', l', rfl, hg, rfl, rfl⟩
  by_cases h0 : l' = 0
  · subst h0
    rw [Nat.gcd_zero_right] at hg
    subst hg
    have e0 : (!(((0 : Nat) : Int) == 0)) = false := rfl
    walk_at "W"
  · have e0 : (!((l' : Int) == 0)) = true := by
      rw [Bool.not_eq_true', beq_eq_false_iff_ne]
      omega
    have hp : (0 : Int) < (l' : Int) := by omega
    walk_at "W"
    refine ⟨left l' (h' % l'), left_step h0, l', h' % l', rfl, by rw [gcd_step, hg], ?_, rfl⟩
    rw [mod_int]
end
section
/-! ### what is heard; operators in place; lists shown -/
theorem heard_r {act : M D} {s : Str} {q q' : Pn} (h : act q = some (.ex 2 [.str s], q')) : m_law_heard act q = some (.ok (.str s), q') := by
  rw [← u_law_heard 0 act q]
  refine (heard_u (i := 1) (j := 0) (fun _ _ => rfl) (Kd := fun _ => .inl _) (fun _ _ _ => rfl) 0 act q).trans ?_
  unfold heardR
  rw [h]
  kernel_rfl
noncomputable def kHd (Λ : Out D → Pn → Prop) : Out D → Pn → Prop
  | .ok _, _ => False
  | .ex c fs, p => ∃ d, (∀ (act : M D) q, act q = some (.ex c fs, p) → m_law_heard act q = some (.ok d, p)) ∧ Λ (.ok d) p
section
variable {e : EX} {δ : DS} {p : Pn} {Λ : Out D → Pn → Prop} {s : Str}
theorem w_hd (h : wm (e δ) p (kHd Λ)) : wm (mLam m_law_heard e δ) p Λ := by
  obtain ⟨o, p', h1, h2⟩ := h
  cases o with
  | ok d => exact h2.elim
  | ex c fs =>
    obtain ⟨d, h3, h4⟩ := h2
    exact ⟨_, _, h3 _ _ h1, h4⟩
noncomputable instance : Step (wm (mLam m_law_heard e δ) p Λ) (wm (e δ) p (kHd Λ)) := ⟨w_hd⟩
noncomputable instance : Step (kHd Λ (.ex 2 [.str s]) p) (Λ (.ok (.str s)) p) := ⟨fun h => ⟨_, fun act q e => heard_r e, h⟩⟩
end
theorem s_augOk {i : Nat} {o : D → D → M D} {e : EX} {δ δ1 : DS} {x y d : D} {p : Pn} {Ψ : Fl → Pn → Prop} (g : gE δ i (.d x)) (he : e δ p = some (.ok y, p)) (ho : o x y p = some (.ok d, p)) (e1 : sE δ i (some (.d d)) δ1) (k : Ψ (.nx δ1) p) : ws (sAug i o e) δ p Ψ := by
  rw [← e1.set] at k
  refine ⟨_, p, ?_, k⟩
  unfold sAug
  rw [g.get]
  unfold sBnd
  dsimp only
  rw [he]
  dsimp only
  rw [ho]
theorem bop_rr {mf : List D → M D} {p r x : Int × Int} {q : Pn} (h : mf [rateD p, rateD r] q = some (.ok (rateD x), q)) : dBop [(4, mf)] [4] (rateD p) (rateD r) q = some (.ok (rateD x), q) := of_w (d_bop rfl rfl (w_of h fin_rfl))
section
variable {p r : Int × Int} {n m : Nat} (P : Sz n p) (R : Sz m r) (h : n + m + 1 ≤ 490) (q : Pn)
include P R h
theorem bound0 : m_law_bound [.int 0, rateD p, rateD r] q = some (.ok (rateD (addP p r)), q) := by
  refine of_w (w_fn rfl (by walk_at "d") ?_)
  unfold b_law_bound
  walk_at "W"
  refine s_augOk (x := rateD p) (y := rateD r) inferInstance rfl (bop_rr (add_run P R (pv_rate r) h q)) inferInstance ?_
  walk_at "W"
theorem bound1 : m_law_bound [.int 1, rateD p, rateD r] q = some (.ok (rateD (subP p r)), q) := by
  refine of_w (w_fn rfl (by walk_at "d") ?_)
  unfold b_law_bound
  walk_at "W"
  refine s_augOk (x := rateD p) (y := rateD r) inferInstance rfl (bop_rr (sub_run P R (pv_rate r) h q)) inferInstance ?_
  walk_at "W"
theorem bound2 : m_law_bound [.int 2, rateD p, rateD r] q = some (.ok (rateD (mulP p r)), q) := by
  refine of_w (w_fn rfl (by walk_at "d") ?_)
  unfold b_law_bound
  walk_at "W"
  refine s_augOk (x := rateD p) (y := rateD r) inferInstance rfl (bop_rr (mul_run P R (pv_rate r) h q)) inferInstance ?_
  walk_at "W"
end
theorem dq3 (a b c : Int × Int) (q : Pn) : eqDD [(4, mRate___eq__)] q 4 (.lst [rateD a, rateD b, rateD c]) (.lst [rateD a, rateD b, rateD c]) = true := by
  have h := fun p => eq_same p q
  have hp : pnB q q = true := by simp [pnB]
  have e : ([(4, mRate___eq__)] : OTab).lookup 4 = some mRate___eq__ := rfl
  simp only [eqDD, List.zip_cons_cons, List.zip_nil_right, List.all_cons, List.all_nil, List.length_cons, List.length_nil, e, h, hp, decide_true, Bool.and_true, Bool.true_and, beq_self_eq_true]
noncomputable def Gi (n : Nat) (d : D) : Prop := ∃ P, toPy d = some P ∧ P.showable = true ∧ P.depth ≤ 5 ∧ P.shown.length ≤ n
theorem gi_all {n : Nat} : ∀ {l : List D}, (∀ d ∈ l, Gi n d) → ∃ Ps, toPyL l = some Ps ∧ PyData.showableAll Ps = true ∧ PyData.depthAll Ps ≤ 5 ∧ ((PyData.shownAll Ps).map (·.length)).sum ≤ n * l.length ∧ (PyData.shownAll Ps).length = l.length
  | [], _ => ⟨[], rfl, rfl, by simp [PyData.depthAll], by simp [PyData.shownAll], rfl⟩
  | d :: r, h => by
    obtain ⟨P, h1, h2, h3, h4⟩ := h d List.mem_cons_self
    obtain ⟨Ps, k1, k2, k3, k4, k5⟩ := gi_all (l := r) fun x hx => h x (List.mem_cons_of_mem _ hx)
    refine ⟨P :: Ps, by simp only [toPyL, h1, k1], by simp only [PyData.showableAll, h2, k2, Bool.and_self], by simp only [PyData.depthAll]; omega, ?_, by simp only [PyData.shownAll, List.length_cons, k5]⟩
    simp only [PyData.shownAll, List.map_cons, List.sum_cons, List.length_cons, Nat.mul_add, Nat.mul_one]
    omega
theorem gd_lst {n : Nat} {l : List D} (h : ∀ d ∈ l, Gi n d) : Gd (n * l.length + 2 * l.length + 3) (.lst l) := by
  obtain ⟨Ps, k1, k2, k3, k4, k5⟩ := gi_all h
  refine ⟨.list Ps, by simp only [toPy, k1, Option.map_some], by simpa only [PyData.showable] using k2, by simp only [PyData.depth]; omega, ?_⟩
  have := listText_len_le (PyData.shownAll Ps)
  simp only [PyData.shown]
  omega
theorem gi_bool (b : Bool) : Gi 100 (.bl b) := ⟨.bool b, rfl, rfl, by simp [PyData.depth], by cases b <;> decide⟩
theorem bools_repr (bs : List Bool) (hl : bs.length ≤ 100) : ∃ s, ∀ q, dRepr [.lst (bs.map D.bl)] q = some (.ok (.str s), q) := by
  refine (gd_lst (n := 100) fun d hd => ?_).repr (by rw [List.length_map]; omega)
  obtain ⟨b, _, rfl⟩ := List.mem_map.mp hd
  exact gi_bool b
theorem other2 (q : Pn) : dEq false (.lst [.str "other", .str "other"]) (.lst [.str "other", .str "other"]) q = some (.ok (.bl true), q) := by kernel_rfl
/-! ### two rates -/
structure In2 (h l : Int) : Prop where
  pos : 0 < l
  a : h.natAbs < 2 ^ 64
  b : l.natAbs < 2 ^ 64
theorem In2.ne {h l : Int} (i : In2 h l) : l ≠ 0 := by have := i.pos; omega
theorem In2.rt {h l : Int} (i : In2 h l) : Rt 64 (low h l) := mk_sz i.ne i.a i.b
theorem two_run {h l t b : Int} (i1 : In2 h l) (i2 : In2 t b) (q : Pn) : m_law_two_right [.tup [.int h, .int l], .tup [.int t, .int b]] q = some (.ok (.bl true), q) := by
  have n1 := new_run i1.ne i1.a i1.b (by decide) q
  have n2 := new_run i2.ne i2.a i2.b (by decide) q
  have P := i1.rt
  have R := i2.rt
  have rp1 := rp_low (t := h) i1.ne
  have rp2 := rp_low (t := t) i2.ne
  have hp1 := i1.pos
  have hp2 := i2.pos
  have ha := i1.a
  have hb := i1.b
  have hc := i2.a
  have hd := i2.b
  generalize low h l = p at *
  generalize low t b = r at *
  -- products of the law
  have m1 := mulW ha hd (by decide) q
  have m2 := mulW hc hb (by decide) q
  have m3 := mulW hb hd (by decide) q
  have m4 := mulW ha hc (by decide) q
  have z1 := mul_sz ha hd
  have z2 := mul_sz hc hb
  have z3 := mul_sz hb hd
  have z4 := mul_sz ha hc
  -- what the operators give
  have o1 := add_run P.sz R.sz (pv_rate r) (by decide) q
  have o2 := sub_run P.sz R.sz (pv_rate r) (by decide) q
  have o3 := mul_run P.sz R.sz (pv_rate r) (by decide) q
  have o4 := neg_run P.sz (by decide) q
  have A := addP_rt P.sz R.sz
  have S := subP_rt P.sz R.sz
  have M := mulP_rt P.sz R.sz
  have N := negP_rt P.sz
  have s1 := is_run A.lt A.sz (add_sz z1 z2) (up_sz z3 (by decide)) (by decide) (rp_add P.sz R.sz rp1 rp2) q
  have s2 := is_run S.lt S.sz (sub_sz z1 z2) (up_sz z3 (by decide)) (by decide) (rp_sub P.sz R.sz rp1 rp2) q
  have s3 := is_run M.lt M.sz z4 z3 (by decide) (rp_mul P.sz R.sz rp1 rp2) q
  have s4 := is_run (h := 0 - h) N.lt N.sz (by rw [Int.zero_sub, Int.natAbs_neg]; exact ha) hb (by decide) (by rw [Int.zero_sub]; exact rp_neg P.sz rp1) q
  have b0 : m_law_bound [.int ((0 : Nat) : Int), rateD p, rateD r] q = _ := bound0 P.sz R.sz (by decide) q
  have b1 : m_law_bound [.int ((1 : Nat) : Int), rateD p, rateD r] q = _ := bound1 P.sz R.sz (by decide) q
  have b2 : m_law_bound [.int ((2 : Nat) : Int), rateD p, rateD r] q = _ := bound2 P.sz R.sz (by decide) q
  have d3 := dq3 (addP p r) (subP p r) (mulP p r) q
  -- comparisons
  have cm := rp_cmp P.sz.pos R.sz.pos hp1 hp2 rp1 rp2
  have c1 := lt_run P.sz R.sz (pv_rate r) (by decide) q
  have c2 := le_run P.sz R.sz (pv_rate r) (by decide) q
  have c3 := gt_run P.sz R.sz (pv_rate r) (by decide) q
  have c4 := ge_run P.sz R.sz (pv_rate r) (by decide) q
  have c5 := eq_run (p := p) (pv_rate r) q
  have e1 : decide (p.1 * r.2 < r.1 * p.2) = decide (h * b < t * l) := by rw [decide_eq_decide]; exact cm.1
  have e2 : decide (p.1 * r.2 ≤ r.1 * p.2) = decide (h * b ≤ t * l) := by rw [decide_eq_decide]; have := cm.1; have := cm.2; omega
  have e3 : decide (r.1 * p.2 < p.1 * r.2) = decide (t * l < h * b) := by rw [decide_eq_decide]; have := cm.1; have := cm.2; omega
  have e4 : decide (r.1 * p.2 ≤ p.1 * r.2) = decide (t * l ≤ h * b) := by rw [decide_eq_decide]; have := cm.1; have := cm.2; omega
  have e5 : (r.1 == p.1 && r.2 == p.2) = (h * b == t * l) := by
    rw [Bool.eq_iff_iff, Bool.and_eq_true, beq_iff_eq, beq_iff_eq, beq_iff_eq]
    constructor
    · rintro ⟨x, y⟩
      refine cm.2.mp ?_
      rw [x, y]
    · intro x
      have := rp_uniq P.lt R.lt i1.ne i2.ne rp1 rp2 x
      rw [this]
      exact ⟨rfl, rfl⟩
  rw [e1] at c1
  rw [e2] at c2
  rw [e3] at c3
  rw [e4] at c4
  rw [e5] at c5
  obtain ⟨s, hs⟩ := bools_repr [decide (h * b < t * l), decide (h * b ≤ t * l), decide (t * l < h * b), decide (t * l ≤ h * b), (h * b == t * l), !(h * b == t * l)] (by simp)
  have hs := hs q
  simp only [List.map_cons, List.map_nil] at hs
  have ns : dEq true (.str s) (.str s) q = some (.ok (.bl false), q) := of_w (d_nes (by simp [fin]))
  have hlst : ((List.range 3).map fun i => if i = 0 then rateD (addP p r) else if i = 1 then rateD (subP p r) else rateD (mulP p r)) = [rateD (addP p r), rateD (subP p r), rateD (mulP p r)] := rfl
  clear e1 e2 e3 e4 e5 cm
  refine of_w (w_fn rfl (by walk_at "d") ?_)
  unfold b_law_two_right
  walk_at "W"
  refine w_comp (xs := List.range 3) (a := fun (i : Nat) => D.int (i : Int)) (b := fun i => if i = 0 then rateD (addP p r) else if i = 1 then rateD (subP p r) else rateD (mulP p r)) (q := q) (by walk_at "W") (fun i hi => ?_) (by decide) ?_
  · have hi := List.mem_range.mp hi
    refine ⟨_, gV.eq, ?_⟩
    obtain rfl | rfl | rfl : i = 0 ∨ i = 1 ∨ i = 2 := by omega
    · walk_at "W"
    · walk_at "W"
    · walk_at "W"
  · rw [hlst]
    have t0 : (t == 0) = decide (r.1 = 0) := by
      rw [Bool.eq_iff_iff, beq_iff_eq, decide_eq_true_eq]
      unfold Rp at rp2
      have rpos := R.sz.pos
      constructor
      · intro z
        rw [z, Int.zero_mul] at rp2
        rcases Int.mul_eq_zero.mp rp2.symm with c | c
        · exact c
        · omega
      · intro z
        rw [z, Int.zero_mul] at rp2
        rcases Int.mul_eq_zero.mp rp2 with c | c
        · exact c
        · omega
    by_cases r0 : r.1 = 0
    · rw [decide_eq_true r0] at t0
      have v1 := over_no (p := p) (pv_rate r) q r0
      have v2 := over_no (p := p) (pv_int 0) q rfl
      have o2 := other2 q
      walk_at "W"
      refine w_of (m := dEq false _ _) o2 ?_
      walk_at "W"
    · rw [decide_eq_false r0] at t0
      have v1 := over_run P.sz R.sz (pv_rate r) (by decide) q r0
      have V := overP_rt P.sz R.sz r0
      have v2 := mul_run V.sz R.sz (pv_rate r) (by decide) q
      have tz : t ≠ 0 := by
        have := beq_eq_false_iff_ne.mp t0
        exact this
      have ve : mulP (overP p r) r = p := rp_uniq (mulP_rt V.sz R.sz).lt P.lt (Int.mul_ne_zero (Int.mul_ne_zero i1.ne tz) i2.ne) i1.ne (rp_mul V.sz R.sz (rp_over P.sz r0 rp1 rp2) rp2) rp1 (by grind)
      rw [ve] at v2
      have es := eq_same p q
      walk_at "W"
end
section
/-! ### integers on either side -/
theorem bop_ri {mf : List D → M D} {p x : Int × Int} {k : Int} {q : Pn} (h : mf [rateD p, .int k] q = some (.ok (rateD x), q)) : dBop [(4, mf)] [4] (rateD p) (.int k) q = some (.ok (rateD x), q) := of_w (d_bopV rfl rfl (by intro c fs z; cases z) (w_of h fin_rfl))
theorem eqr_of {mf : List D → M D} {o : D → D → M D} {p : Int × Int} {k : Int} {b : Bool} {q : Pn} (h : mf [rateD p, .int k] q = some (.ok (.bl b), q)) : dEqR [(4, mf)] o (.int k) (rateD p) q = some (.ok (.bl b), q) := by
  unfold dEqR
  dsimp only
  rw [show ([(4, mf)] : OTab).lookup 4 = some mf from rfl]
  dsimp only
  rw [h]
section
variable {p : Int × Int} {n : Nat} {k : Int} (P : Rt n p) (hk : k.natAbs < 2 ^ 70) (h : n + 71 ≤ 480) (q : Pn)
theorem szK (hk : k.natAbs < 2 ^ 70) : Sz 70 (k, 1) := ⟨by show (0 : Int) < 1; decide, hk, by show (1 : Int).natAbs < _; decide⟩
theorem ltK (k : Int) : Lt (k, 1) := ⟨by show (0 : Int) < 1; decide, by show Nat.gcd _ 1 = 1; exact Nat.gcd_one_right _⟩
theorem rpK (k : Int) : Rp (k, 1) k 1 := rfl
include P hk h
theorem radd_run : mRate___radd__ [rateD p, .int k] q = some (.ok (rateD (addP p (k, 1))), q) := by
  have f := bop_ri (add_run P.sz (szK hk) (pv_int k) (by omega) q)
  refine of_w (w_fn rfl (by walk_at "d") ?_)
  unfold bRate___radd__
  walk_at "W"
theorem rmul_run : mRate___rmul__ [rateD p, .int k] q = some (.ok (rateD (mulP p (k, 1))), q) := by
  have f := bop_ri (mul_run P.sz (szK hk) (pv_int k) (by omega) q)
  refine of_w (w_fn rfl (by walk_at "d") ?_)
  unfold bRate___rmul__
  walk_at "W"
theorem rsub_run : mRate___rsub__ [rateD p, .int k] q = some (.ok (rateD (addP (negP p) (k, 1))), q) := by
  have g := neg_run P.sz (by omega) q
  have f := bop_ri (add_run (negP_rt P.sz).sz (szK hk) (pv_int k) (by omega) q)
  refine of_w (w_fn rfl (by walk_at "d") ?_)
  unfold bRate___rsub__
  walk_at "W"
end
theorem bools_eq (bs : List Bool) (q : Pn) : dEq false (.lst (bs.map D.bl)) (.lst (bs.map D.bl)) q = some (.ok (.bl true), q) := by
  refine sh_self ?_ false q
  have : ∀ bs : List Bool, toPyL (bs.map D.bl) = some (bs.map PyData.bool) ∧ PyData.canLayAll0 (bs.map PyData.bool) = true ∧ PyData.depthAll (bs.map PyData.bool) ≤ 1 := by
    intro bs
    induction bs with
    | nil => exact ⟨rfl, rfl, by simp [PyData.depthAll]⟩
    | cons b r ih =>
      obtain ⟨a, c, d⟩ := ih
      refine ⟨?_, ?_, ?_⟩
      · simp only [List.map_cons, toPyL, toPy, a]
      · simp only [List.map_cons, PyData.canLayAll0, PyData.canLay0, c, Bool.and_self]
      · simp only [List.map_cons, PyData.depthAll, PyData.depth]; omega
  obtain ⟨a, c, d⟩ := this bs
  exact ⟨.list (bs.map PyData.bool), by simp only [toPy, a, Option.map_some], by simpa only [PyData.canLay0] using c, by simp only [PyData.depth]; omega⟩
theorem ints_run {h l k : Int} (i1 : In2 h l) (hk : k.natAbs < 2 ^ 70) (q : Pn) : m_law_integers_right [.tup [.int h, .int l], .int k] q = some (.ok (.bl true), q) := by
  have n1 := new_run i1.ne i1.a i1.b (by decide) q
  have P := i1.rt
  have rp1 := rp_low (t := h) i1.ne
  have hp1 := i1.pos
  have ha := i1.a
  have hb := i1.b
  generalize low h l = p at *
  have K := szK hk
  have m1 := mulW hk hb (by decide) q
  have m2 := mulW ha hk (by decide) q
  have z1 := mul_sz hk hb
  have z2 := mul_sz ha hk
  have ha2 : h.natAbs < 2 ^ (70 + 64) := up_sz ha (by decide)
  have hb2 : l.natAbs < 2 ^ (70 + 64 + 1) := up_sz hb (by decide)
  have o1 := add_run P.sz K (pv_int k) (by decide) q
  have o2 := sub_run P.sz K (pv_int k) (by decide) q
  have o3 := mul_run P.sz K (pv_int k) (by decide) q
  have o4 : dAddO [(4, mRate___add__)] [(4, mRate___radd__)] [4] (.int k) (rateD p) q = some (.ok (rateD (addP p (k, 1))), q) := radd_run P hk (by decide) q
  have o5 : dSubO [(4, mRate___sub__)] [(4, mRate___rsub__)] [4] (.int k) (rateD p) q = some (.ok (rateD (addP (negP p) (k, 1))), q) := rsub_run P hk (by decide) q
  have o6 : dMulO [(4, mRate___mul__)] [(4, mRate___rmul__)] [4] (.int k) (rateD p) q = some (.ok (rateD (mulP p (k, 1))), q) := rmul_run P hk (by decide) q
  have A := addP_rt P.sz K
  have S := subP_rt P.sz K
  have M := mulP_rt P.sz K
  have N := negP_rt P.sz
  have B := addP_rt N.sz K
  have r1 := rp_add P.sz K rp1 (rpK k)
  have r2 := rp_sub P.sz K rp1 (rpK k)
  have r3 := rp_mul P.sz K rp1 (rpK k)
  have r4 := rp_add N.sz K (rp_neg P.sz rp1) (rpK k)
  rw [Int.mul_one, Int.mul_one] at r1 r2 r4
  rw [Int.mul_one] at r3
  have r5 : Rp (addP (negP p) (k, 1)) (k * l - h) l := by
    have : k * l - h = -h + k * l := by omega
    rw [this]
    exact r4
  have s1 := is_run A.lt A.sz (add_sz ha2 z1) hb2 (by decide) r1 q
  have s2 := is_run S.lt S.sz (sub_sz ha2 z1) hb2 (by decide) r2 q
  have s3 := is_run M.lt M.sz z2 (up_sz hb (by decide)) (by decide) r3 q
  have s4 := is_run B.lt B.sz (sub_sz z1 ha2) hb2 (by decide) r5 q
  have cm := rp_cmp P.sz.pos K.pos hp1 (by decide) rp1 (rpK k)
  have hm : h * 1 = h := Int.mul_one h
  rw [hm] at cm
  have c1 := lt_run P.sz K (pv_int k) (by decide) q
  have c2 := le_run P.sz K (pv_int k) (by decide) q
  have c3 := gt_run P.sz K (pv_int k) (by decide) q
  have c4 := ge_run P.sz K (pv_int k) (by decide) q
  have c5 := eq_run (p := p) (pv_int k) q
  have e1 : decide (p.1 * (k, (1 : Int)).2 < (k, (1 : Int)).1 * p.2) = decide (h < k * l) := by rw [decide_eq_decide]; exact cm.1
  have e2 : decide (p.1 * (k, (1 : Int)).2 ≤ (k, (1 : Int)).1 * p.2) = decide (h ≤ k * l) := by rw [decide_eq_decide]; have := cm.1; have := cm.2; omega
  have e3 : decide ((k, (1 : Int)).1 * p.2 < p.1 * (k, (1 : Int)).2) = decide (k * l < h) := by rw [decide_eq_decide]; have := cm.1; have := cm.2; omega
  have e4 : decide ((k, (1 : Int)).1 * p.2 ≤ p.1 * (k, (1 : Int)).2) = decide (k * l ≤ h) := by rw [decide_eq_decide]; have := cm.1; have := cm.2; omega
  have e5 : ((k, (1 : Int)).1 == p.1 && (k, (1 : Int)).2 == p.2) = (h == k * l) := by
    rw [Bool.eq_iff_iff, Bool.and_eq_true, beq_iff_eq, beq_iff_eq, beq_iff_eq]
    constructor
    · rintro ⟨x, y⟩
      refine cm.2.mp ?_
      rw [x, y]
    · intro x
      have := rp_uniq P.lt (ltK k) i1.ne (by decide) rp1 (rpK k) (by rw [Int.mul_one]; exact x)
      rw [this]
      exact ⟨rfl, rfl⟩
  rw [e1] at c1
  rw [e2] at c2
  rw [e3] at c3
  rw [e4] at c4
  rw [e5] at c5
  have d1 := eqr_of (o := dCmpI fun i j => decide (i < j)) c3
  have d2 := eqr_of (o := dCmpI fun i j => decide (i ≤ j)) c4
  have d3 := eqr_of (o := dCmpI fun i j => decide (j < i)) c1
  have d4 := eqr_of (o := dCmpI fun i j => decide (j ≤ i)) c2
  have bq := bools_eq [decide (h < k * l), decide (h ≤ k * l), decide (k * l < h), decide (k * l ≤ h), decide (k * l < h), decide (k * l ≤ h), decide (h < k * l), decide (h ≤ k * l), (h == k * l)] q
  clear e1 e2 e3 e4 e5 cm
  refine of_w (w_fn rfl (by walk_at "d") ?_)
  unfold b_law_integers_right
  walk_at "W"
  refine w_of (m := dEq false _ _) bq ?_
  walk_at "W"
/-! ### totals -/
noncomputable def totP (rs : List (Int × Int)) : Int × Int := rs.foldl addP (0, 1)
theorem zero_rt : Rt 1 ((0 : Int), (1 : Int)) := ⟨ltK 0, by show (0 : Int) < 1; decide, by show (0 : Int).natAbs < _; decide, by show (1 : Int).natAbs < _; decide⟩
theorem zero_new (q : Pn) : nK 4 iRate [.int 0, .int 1] q = some (.ok (rateD (0, 1)), q) := by kernel_rfl
theorem tot_rt : ∀ (rs : List (Int × Int)) (x : Int × Int) (n : Nat), Rt n x → (∀ r ∈ rs, Sz 64 r) → Rt (n + 65 * rs.length) (rs.foldl addP x)
  | [], _, _, h, _ => h
  | r :: rs, x, n, h, hr => by
    have := tot_rt rs (addP x r) (n + 64 + 1) (addP_rt h.sz (hr r List.mem_cons_self)) fun s hs => hr s (List.mem_cons_of_mem _ hs)
    rw [List.length_cons, List.foldl_cons]
    rw [show n + 65 * (rs.length + 1) = n + 64 + 1 + 65 * rs.length by omega]
    exact this
theorem total_gen {vs : List (D × (Int × Int))} (hv : ∀ v ∈ vs, Pv v.1 v.2 ∧ Sz 64 v.2) (hk : ∀ v ∈ vs, v.1 = rateD v.2 ∨ ∃ k, v.1 = .int k) (hl : vs.length ≤ 5) {d : D} (hd : d = .lst (vs.map (·.1)) ∨ d = .tup (vs.map (·.1))) (q : Pn) : mRate_total [d] q = some (.ok (rateD (totP (vs.map (·.2)))), q) := by
  have z := zero_new q
  have body : ∀ δ0 : Option Sl, ws (forGo (gN 2) (sSet 1 (mBin (dBop [(4, mRate___add__)] [4]) (mVar 1) (mVar 2))) (vs.map (·.1))) [δ0, some (.d (rateD (0, 1))), none] q (kQ (sRet (mVar 1)) (kF (fin (.ok (rateD (totP (vs.map (·.2))))) q))) := by
    intro δ0
    refine for_inv vs (·.1) (fun n δ q' => ∃ b2, δ = [δ0, some (.d (rateD (((vs.take n).map (·.2)).foldl addP (0, 1)))), b2] ∧ q' = q) rfl ⟨none, rfl, rfl⟩ ?_ ?_
    · rintro n ⟨e, r⟩ δ q' hx ⟨b2, rfl, rfl⟩
      have pv : Pv e r := (hv _ (List.mem_of_getElem? hx)).1
      have sz : Sz 64 r := (hv _ (List.mem_of_getElem? hx)).2
      have hk' : e = rateD r ∨ ∃ k, e = .int k := hk _ (List.mem_of_getElem? hx)
      have hn := (List.getElem?_eq_some_iff.mp hx).1
      have X := tot_rt ((vs.take n).map (·.2)) (0, 1) 1 zero_rt fun r hr => by
        obtain ⟨v, hv', rfl⟩ := List.mem_map.mp hr
        exact (hv v (List.mem_of_mem_take hv')).2
      have hlen : ((vs.take n).map (·.2)).length = n := by rw [List.length_map, List.length_take]; omega
      rw [hlen] at X
      have next : ((vs.take (n + 1)).map (·.2)).foldl addP (0, 1) = addP (((vs.take n).map (·.2)).foldl addP (0, 1)) r := by
        rw [List.take_succ, hx]
        simp
      rw [next]
      generalize ((vs.take n).map (·.2)).foldl addP (0, 1) = x at *
      have ad := add_run X.sz sz pv (by omega) q'
      refine ⟨_, gV.eq, ?_⟩
      dsimp only
      rcases hk' with rfl | ⟨k, rfl⟩
      · walk_at "W"
        exact ⟨_, rfl, rfl⟩
      · walk_at "W"
        exact ⟨_, rfl, rfl⟩
    · rintro δ q' ⟨b2, rfl, rfl⟩
      rw [List.take_length]
      walk_at "W"
  refine of_w (w_fn rfl (by walk_at "d") ?_)
  unfold bRate_total
  rcases hd with rfl | rfl
  · walk_at "W"
    exact body _
  · walk_at "W"
    exact body _
end
section
/-! ### three rates -/
theorem zero_add' {p : Int × Int} {n : Nat} (P : Rt n p) : addP (0, 1) p = p := by
  have r := rp_add zero_rt.sz P.sz (rp_self (0, 1)) (rp_self p)
  refine rp_uniq (addP_rt zero_rt.sz P.sz).lt P.lt (b := 1 * p.2) (b' := p.2) (by have := P.sz.pos; omega) (by have := P.sz.pos; omega) r (rp_self p) ?_
  grind
theorem isi_rate (x : Int × Int) (q : Pn) : dIsi isT [rateD x, .cls 4] q = some (.ok (.bl true), q) := by kernel_rfl
theorem sz_int {k : Int} (h : k.natAbs < 2 ^ 64) : Sz 64 (k, 1) := ⟨by show (0 : Int) < 1; decide, h, by show (1 : Int).natAbs < _; decide⟩
theorem three_run {p r s : Int × Int} (P : Rt 64 p) (R : Rt 64 r) (S : Rt 64 s) (q : Pn) : m_law_three_right [rateD p, rateD r, rateD s] q = some (.ok (.bl true), q) := by
  have p0 := P.sz.pos
  have r0 := R.sz.pos
  have s0 := S.sz.pos
  have a1 := add_run P.sz R.sz (pv_rate r) (by decide) q
  have A1 := addP_rt P.sz R.sz
  have a2 := add_run A1.sz S.sz (pv_rate s) (by decide) q
  have A2 := addP_rt A1.sz S.sz
  have b1 := add_run R.sz S.sz (pv_rate s) (by decide) q
  have B1 := addP_rt R.sz S.sz
  have b2 := add_run P.sz B1.sz (pv_rate _) (by decide) q
  have B2 := addP_rt P.sz B1.sz
  have c1 := mul_run P.sz B1.sz (pv_rate _) (by decide) q
  have C1 := mulP_rt P.sz B1.sz
  have d1 := mul_run P.sz R.sz (pv_rate r) (by decide) q
  have D1 := mulP_rt P.sz R.sz
  have d2 := mul_run P.sz S.sz (pv_rate s) (by decide) q
  have D2 := mulP_rt P.sz S.sz
  have d3 := add_run D1.sz D2.sz (pv_rate _) (by decide) q
  have D3 := addP_rt D1.sz D2.sz
  have x1 := add_run P.sz S.sz (pv_rate s) (by decide) q
  have X1 := addP_rt P.sz S.sz
  have y1 := mul_run R.sz S.sz (pv_rate s) (by decide) q
  have Y1 := mulP_rt R.sz S.sz
  have ra1 := rp_add P.sz R.sz (rp_self p) (rp_self r)
  have ra2 := rp_add A1.sz S.sz ra1 (rp_self s)
  have rb1 := rp_add R.sz S.sz (rp_self r) (rp_self s)
  have rb2 := rp_add P.sz B1.sz (rp_self p) rb1
  have rc1 := rp_mul P.sz B1.sz (rp_self p) rb1
  have rd1 := rp_mul P.sz R.sz (rp_self p) (rp_self r)
  have rd2 := rp_mul P.sz S.sz (rp_self p) (rp_self s)
  have rd3 := rp_add D1.sz D2.sz rd1 rd2
  have rx1 := rp_add P.sz S.sz (rp_self p) (rp_self s)
  have ry1 := rp_mul R.sz S.sz (rp_self r) (rp_self s)
  have q1 : 0 < p.2 * r.2 := Int.mul_pos p0 r0
  have q2 : 0 < r.2 * s.2 := Int.mul_pos r0 s0
  have q3 : 0 < p.2 * s.2 := Int.mul_pos p0 s0
  have q4 : 0 < s.2 * s.2 := Int.mul_pos s0 s0
  have q5 : 0 < p.2 * r.2 * s.2 := Int.mul_pos q1 s0
  have q6 : 0 < p.2 * (r.2 * s.2) := Int.mul_pos p0 q2
  have q7 : 0 < (p.2 * r.2) * (p.2 * s.2) := Int.mul_pos q1 q3
  have e1 : addP p (addP r s) = addP (addP p r) s := rp_uniq B2.lt A2.lt (by omega) (by omega) rb2 ra2 (by grind)
  have e2 : addP (mulP p r) (mulP p s) = mulP p (addP r s) := rp_uniq D3.lt C1.lt (by omega) (by omega) rd3 rc1 (by grind)
  rw [e1] at b2
  rw [e2] at d3
  have es1 := eq_same (addP (addP p r) s) q
  have es2 := eq_same (mulP p (addP r s)) q
  -- order
  have l1 := lt_run P.sz R.sz (pv_rate r) (by decide) q
  have l2 := lt_run X1.sz B1.sz (pv_rate _) (by decide) q
  have cmx := rp_cmp X1.sz.pos B1.sz.pos q3 q2 rx1 rb1
  have sx := sg_lt (X := (p.1 * s.2 + s.1 * p.2) * (r.2 * s.2) - (r.1 * s.2 + s.1 * r.2) * (p.2 * s.2)) (Y := p.1 * r.2 - r.1 * p.2) (A := 1) (B := s.2 * s.2) (by decide) q4 (by grind)
  have f1 : decide ((addP p s).1 * (addP r s).2 < (addP r s).1 * (addP p s).2) = decide (p.1 * r.2 < r.1 * p.2) := by
    rw [decide_eq_decide]
    have := cmx.1
    have := sx.1
    omega
  rw [f1] at l2
  have bn : ∀ b : Bool, dEq true (.bl b) (.bl b) q = some (.ok (.bl false), q) := fun b => by cases b <;> kernel_rfl
  have bn1 := bn (decide (p.1 * r.2 < r.1 * p.2))
  have g0 := gt_run S.sz (sz_int (k := 0) (by decide)) (pv_int 0) (by decide) q
  have g1 : decide (((0 : Int), (1 : Int)).1 * s.2 < s.1 * ((0 : Int), (1 : Int)).2) = decide (0 < s.1) := by
    rw [decide_eq_decide]
    show 0 * s.2 < s.1 * 1 ↔ _
    rw [Int.zero_mul, Int.mul_one]
  rw [g1] at g0
  have le1 := le_run P.sz R.sz (pv_rate r) (by decide) q
  have le2 := le_run D2.sz Y1.sz (pv_rate _) (by decide) q
  have bn2 := bn (decide (p.1 * r.2 ≤ r.1 * p.2))
  have cmy := rp_cmp D2.sz.pos Y1.sz.pos q3 q2 rd2 ry1
  -- totals
  have pvs : ∀ v ∈ [(rateD p, p), (rateD r, r), (rateD s, s)], Pv v.1 v.2 ∧ Sz 64 v.2 := by
    intro v hv
    simp only [List.mem_cons, List.not_mem_nil, or_false] at hv
    rcases hv with rfl | rfl | rfl
    · exact ⟨pv_rate _, P.sz⟩
    · exact ⟨pv_rate _, R.sz⟩
    · exact ⟨pv_rate _, S.sz⟩
  have pk : ∀ v ∈ [(rateD p, p), (rateD r, r), (rateD s, s)], v.1 = rateD v.2 ∨ ∃ k, v.1 = .int k := by
    intro v hv
    simp only [List.mem_cons, List.not_mem_nil, or_false] at hv
    rcases hv with rfl | rfl | rfl <;> exact .inl rfl
  have pvs4 : ∀ v ∈ [(rateD p, p), (rateD r, r), (rateD s, s), (D.int 4, ((4 : Int), (1 : Int)))], Pv v.1 v.2 ∧ Sz 64 v.2 := by
    intro v hv
    simp only [List.mem_cons, List.not_mem_nil, or_false] at hv
    rcases hv with rfl | rfl | rfl | rfl
    · exact ⟨pv_rate _, P.sz⟩
    · exact ⟨pv_rate _, R.sz⟩
    · exact ⟨pv_rate _, S.sz⟩
    · exact ⟨pv_int 4, sz_int (by decide)⟩
  have pk4 : ∀ v ∈ [(rateD p, p), (rateD r, r), (rateD s, s), (D.int 4, ((4 : Int), (1 : Int)))], v.1 = rateD v.2 ∨ ∃ k, v.1 = .int k := by
    intro v hv
    simp only [List.mem_cons, List.not_mem_nil, or_false] at hv
    rcases hv with rfl | rfl | rfl | rfl
    · exact .inl rfl
    · exact .inl rfl
    · exact .inl rfl
    · exact .inr ⟨4, rfl⟩
  have zp := zero_add' P
  have t1 := total_gen pvs pk (by simp) (.inl rfl) q
  have t1e : totP ([(rateD p, p), (rateD r, r), (rateD s, s)].map (·.2)) = addP (addP p r) s := by
    show addP (addP (addP (0, 1) p) r) s = _
    rw [zp]
  rw [t1e] at t1
  have t2 := total_gen pvs4 pk4 (by simp) (.inr rfl) q
  have t2e : totP ([(rateD p, p), (rateD r, r), (rateD s, s), (D.int 4, ((4 : Int), (1 : Int)))].map (·.2)) = addP (addP (addP p r) s) (4, 1) := by
    show addP (addP (addP (addP (0, 1) p) r) s) (4, 1) = _
    rw [zp]
  rw [t2e] at t2
  simp only [List.map_cons, List.map_nil] at t1 t2
  have t2 : mRate_total [.tup ([rateD p, rateD r, rateD s] ++ [D.int 4])] q = _ := t2
  have w4 := add_run A2.sz (sz_int (k := 4) (by decide)) (pv_int 4) (by decide) q
  have es3 := eq_same (addP (addP (addP p r) s) (4, 1)) q
  have t0 : mRate_total [.lst []] q = some (.ok (rateD (0, 1)), q) := total_gen (vs := []) (by simp) (by simp) (by decide) (.inl rfl) q
  have e0 : mRate___eq__ [rateD (0, 1), .int 0] q = some (.ok (.bl true), q) := eq_run (p := (0, 1)) (pv_int 0) q
  have d3' := dq3 p r s q
  have ar : m_law_are_rates [.lst [.lst [], .lst [.int 4], .tup [.int 1, .int 2], .tup [rateD p], .lst [rateD s, .int 5]]] q = some (.ok (.bl true), q) := by
    have u1 := total_gen (vs := [(D.int 4, ((4 : Int), (1 : Int)))]) (by intro v hv; rw [List.mem_singleton.mp hv]; exact ⟨pv_int 4, sz_int (by decide)⟩) (by intro v hv; rw [List.mem_singleton.mp hv]; exact .inr ⟨4, rfl⟩) (by decide) (.inl rfl) q
    have u2 := total_gen (vs := [(D.int 1, ((1 : Int), (1 : Int))), (D.int 2, ((2 : Int), (1 : Int)))]) (by
      intro v hv
      simp only [List.mem_cons, List.not_mem_nil, or_false] at hv
      rcases hv with rfl | rfl
      · exact ⟨pv_int 1, sz_int (by decide)⟩
      · exact ⟨pv_int 2, sz_int (by decide)⟩) (by
      intro v hv
      simp only [List.mem_cons, List.not_mem_nil, or_false] at hv
      rcases hv with rfl | rfl
      · exact .inr ⟨1, rfl⟩
      · exact .inr ⟨2, rfl⟩) (by decide) (.inr rfl) q
    have u3 := total_gen (vs := [(rateD p, p)]) (by intro v hv; rw [List.mem_singleton.mp hv]; exact ⟨pv_rate p, P.sz⟩) (by intro v hv; rw [List.mem_singleton.mp hv]; exact .inl rfl) (by simp) (.inr rfl) q
    have u4 := total_gen (vs := [(rateD s, s), (D.int 5, ((5 : Int), (1 : Int)))]) (by
      intro v hv
      simp only [List.mem_cons, List.not_mem_nil, or_false] at hv
      rcases hv with rfl | rfl
      · exact ⟨pv_rate s, S.sz⟩
      · exact ⟨pv_int 5, sz_int (by decide)⟩) (by
      intro v hv
      simp only [List.mem_cons, List.not_mem_nil, or_false] at hv
      rcases hv with rfl | rfl
      · exact .inl rfl
      · exact .inr ⟨5, rfl⟩) (by simp) (.inl rfl) q
    simp only [List.map_cons, List.map_nil] at u1 u2 u3 u4
    have n0 : dEq false (.lst []) (.lst []) q = some (.ok (.bl true), q) := by kernel_rfl
    have tot : ∀ d ∈ [D.lst [], .lst [.int 4], .tup [.int 1, .int 2], .tup [rateD p], .lst [rateD s, .int 5]], ∃ x, mRate_total [d] q = some (.ok (rateD x), q) := by
      intro d hd
      simp only [List.mem_cons, List.not_mem_nil, or_false] at hd
      rcases hd with rfl | rfl | rfl | rfl | rfl
      · exact ⟨_, t0⟩
      · exact ⟨_, u1⟩
      · exact ⟨_, u2⟩
      · exact ⟨_, u3⟩
      · exact ⟨_, u4⟩
    refine of_w (w_fn rfl (by walk_at "d") ?_)
    unfold b_law_are_rates
    walk_at "W"
    refine w_compF (xs := [D.lst [], .lst [.int 4], .tup [.int 1, .int 2], .tup [rateD p], .lst [rateD s, .int 5]]) (a := id) (b := id) (T := fun _ => false) (q := q) (by walk_at "W") (fun d hd => ?_) (by simp) ?_
    · obtain ⟨x, hx⟩ := tot d hd
      have ix := isi_rate x q
      refine ⟨_, gV.eq, ?_, fun h => by cases h⟩
      dsimp only [id]
      walk_at "W"
    · have e0 : (([D.lst [], .lst [.int 4], .tup [.int 1, .int 2], .tup [rateD p], .lst [rateD s, .int 5]].filter fun _ => false).map id) = [] := rfl
      rw [e0]
      walk_at "W"
  by_cases hs1 : 0 < s.1
  · rw [decide_eq_true hs1] at g0
    have sy := sg_lt (X := p.1 * s.1 * (r.2 * s.2) - r.1 * s.1 * (p.2 * s.2)) (Y := p.1 * r.2 - r.1 * p.2) (A := 1) (B := s.1 * s.2) (by decide) (Int.mul_pos hs1 s0) (by grind)
    have f2 : decide ((mulP p s).1 * (mulP r s).2 ≤ (mulP r s).1 * (mulP p s).2) = decide (p.1 * r.2 ≤ r.1 * p.2) := by
      rw [decide_eq_decide]
      have := cmy.1
      have := cmy.2
      have := sy.1
      have := sy.2
      omega
    rw [f2] at le2
    refine of_w (w_fn rfl (by walk_at "d") ?_)
    unfold b_law_three_right
    walk_at "W"
  · rw [decide_eq_false hs1] at g0
    refine of_w (w_fn rfl (by walk_at "d") ?_)
    unfold b_law_three_right
    walk_at "W"
/-! ### drawn rates -/
theorem w_drawB {many b : Int} {q : Pn} {Λ : Out D → Pn → Prop} (hp : PnB b q) (hb : b + 1 ≤ 1000000) (h0 : 0 < many) (h1 : many ≤ 10 ^ 18) (h : ∀ r q', 0 ≤ r → r < many → PnB (b + 1) q' → Λ (.ok (.int r)) q') : wm (m_law_draw [.pen, .int many]) q Λ := by
  have hb18 : (10 ^ 18 : Int) < 2 ^ 8999 := by decide +kernel
  obtain ⟨_, p', e, ⟨r, rfl, r0, r1⟩, hq⟩ := hd_draw h0 (Int.lt_of_le_of_lt h1 hb18) b q hp hb
  exact ⟨_, _, e, h r p' r0 r1 hq⟩
theorem pow6 (q : Pn) : dPow (.int 10) (.int 6) q = some (.ok (.int (10 ^ 6)), q) := by kernel_rfl
theorem pow18 (q : Pn) : dPow (.int 10) (.int 18) q = some (.ok (.int (10 ^ 18)), q) := by kernel_rfl
theorem pow12 (q : Pn) : dPow (.int 10) (.int 12) q = some (.ok (.int (10 ^ 12)), q) := by kernel_rfl
theorem pow20 (q : Pn) : dPow (.int 10) (.int 20) q = some (.ok (.int (10 ^ 20)), q) := by kernel_rfl
local macro_rules | `(tactic| infer_instance) => `(tactic| first | with_reducible refine w_of (pow6 _) ?_ | with_reducible refine w_of (pow18 _) ?_ | with_reducible refine w_of (pow12 _) ?_ | with_reducible refine w_of (pow20 _) ?_)
/-- a drawn pair -/
structure Dr (h l : Int) : Prop where
  pos : 0 < l
  a : h.natAbs < 10 ^ 18
  b : l ≤ 10 ^ 12
theorem pair_run {b : Int} {q : Pn} (hp : PnB b q) (hb : b + 20 ≤ 1000000) : wm (m_law_pair [.pen]) q (PostH b 5 fun d => ∃ h l : Int, d = .tup [.int h, .int l] ∧ Dr h l) := by
  have k18 : (10 ^ 18 : Int) = 1000000000000000000 := by decide +kernel
  have k18n : (10 ^ 18 : Nat) = 1000000000000000000 := by decide +kernel
  have k12 : (10 ^ 12 : Int) = 1000000000000 := by decide +kernel
  have k6 : (10 ^ 6 : Int) = 1000000 := by decide +kernel
  refine w_fn rfl (by walk_at "d") ?_
  unfold b_law_pair
  walk_at "W"
  refine w_pick hp (by omega) (by simp) (by simp) fun d q1 hd hq1 => ?_
  obtain ⟨v, rfl, v0, v1⟩ : ∃ v, d = .int v ∧ 0 < v ∧ v ≤ 10 ^ 18 := by
    simp only [List.mem_cons, List.not_mem_nil, or_false] at hd
    rcases hd with rfl | rfl | rfl | rfl
    all_goals exact ⟨_, rfl, by omega, by omega⟩
  walk_at "W"
  refine w_drawB hq1 (by omega) v0 v1 fun h q2 h0 h1 hq2 => ?_
  walk_at "W"
  refine w_pick hq2 (by omega) (by simp) (by simp) fun d q3 hd hq3 => ?_
  obtain ⟨u, rfl, u0, u1⟩ : ∃ u, d = .int u ∧ 0 < u ∧ u ≤ 10 ^ 12 := by
    simp only [List.mem_cons, List.not_mem_nil, or_false] at hd
    rcases hd with rfl | rfl | rfl | rfl
    all_goals exact ⟨_, rfl, by omega, by omega⟩
  walk_at "W"
  refine w_drawB hq3 (by omega) u0 (by omega) fun l q4 l0 l1 hq4 => ?_
  walk_at "W"
  refine w_drawB hq4 (by omega) (by omega) (by omega) fun z q5 z0 z1 hq5 => ?_
  walk_at "W"
  · exact ⟨_, rfl, ⟨_, _, rfl, by omega, by rw [k18n]; omega, by omega⟩, pnb_mono hq5 (by omega)⟩
  · exact ⟨_, rfl, ⟨_, _, rfl, by omega, by rw [k18n]; omega, by omega⟩, pnb_mono hq5 (by omega)⟩
theorem Dr.in2 {h l : Int} (d : Dr h l) : In2 h l := by
  have k18n : (10 ^ 18 : Nat) < 2 ^ 60 := by decide +kernel
  have k12 : (10 ^ 12 : Int) = 1000000000000 := by decide +kernel
  have k64 : (2 ^ 64 : Nat) = 18446744073709551616 := by decide +kernel
  have hb := d.b
  have hp := d.pos
  exact ⟨d.pos, Nat.lt_trans d.a (by decide +kernel), by rw [k64]; omega⟩
theorem Dr.six {h l w : Int} (d : Dr h l) (w0 : 0 ≤ w) (w1 : w < 2) : In2 (h * 6 + w) (l * 6) := by
  have k18n : (10 ^ 18 : Nat) = 1000000000000000000 := by decide +kernel
  have k12 : (10 ^ 12 : Int) = 1000000000000 := by decide +kernel
  have k64 : (2 ^ 64 : Nat) = 18446744073709551616 := by decide +kernel
  have ha := d.a
  have hb := d.b
  have hp := d.pos
  rw [k18n] at ha
  exact ⟨by omega, by rw [k64]; omega, by rw [k64]; omega⟩
theorem plain (cells : List Int) (h : cells.length ≤ 63) : ∃ p, blaw (lawDs Nlaw.length) ⟨cells, 0, 0⟩ = some (.rt (.bl true), p) := by
  have key : ws blaw (lawDs Nlaw.length) ⟨cells, 0, 0⟩ (fun f p => f = .rt (.bl true)) := by
    have e : lawDs Nlaw.length = [none, some (.d .pen), none, none, none, none, none, none] := rfl
    rw [e]
    unfold blaw
    walk_at "W"
    refine for_inv (List.range 8) (fun (i : Nat) => .int (i : Int)) (fun n δ q => (∃ b2 b3 b4 b5 b6 b7, δ = [none, some (.d .pen), b2, b3, b4, b5, b6, b7]) ∧ PnB (30 * n) q) rfl ⟨⟨none, none, none, none, none, none, rfl⟩, ⟨Int.le_refl 0, by show (0 : Int) ≤ _; exact Int.le_refl 0, h⟩⟩ ?_ ?_
    · rintro n x δ q hx ⟨⟨b2, b3, b4, b5, b6, b7, rfl⟩, hq⟩
      have hn : n < 8 := by simpa using (List.getElem?_eq_some_iff.mp hx).1
      refine ⟨_, gV.eq, ?_⟩
      walk_at "W"
      refine (pair_run hq (by omega)).imp ?_
      rintro o q1 ⟨d, rfl, ⟨h, l, rfl, i1⟩, hq1⟩
      walk_at "W"
      refine (pair_run hq1 (by omega)).imp ?_
      rintro o q2 ⟨d, rfl, ⟨t, b, rfl, i2⟩, hq2⟩
      walk_at "W"
      refine w_draw hq2 (by omega) (by omega) (by omega) fun w q3 w0 w1 hq3 => ?_
      by_cases cw : w < 2
      · have ew : decide (w < 2) = true := decide_eq_true cw
        have I2 := i1.six w0 cw
        have m1 := mulW (i := h) (j := 6) (n := 64) (m := 3) i1.in2.a (by decide) (by decide) q3
        have m2 := mulW (i := l) (j := 6) (n := 64) (m := 3) i1.in2.b (by decide) (by decide) q3
        walk_at "W"
        refine (pair_run hq3 (by omega)).imp ?_
        rintro o q4 ⟨d, rfl, ⟨u, v, rfl, i3⟩, hq4⟩
        have dv := div_run (i := h) (j := l) i1.pos (up_sz i1.in2.b (by decide)) q4
        walk_at "W"
        refine w_pick hq4 (by omega) (by simp) (by simp) fun d q5 hd hq5 => ?_
        obtain ⟨k, rfl, hk⟩ : ∃ k, d = .int k ∧ k.natAbs < 2 ^ 70 := by
          have hdl : (h / l).natAbs < 2 ^ 70 := by
            have a := Int.natAbs_ediv_le_natAbs h l
            have b := i1.in2.a
            exact Nat.lt_of_le_of_lt a (up_sz b (by decide))
          simp only [List.mem_cons, List.not_mem_nil, or_false] at hd
          rcases hd with rfl | rfl | rfl | rfl | rfl | rfl
          · exact ⟨_, rfl, by decide +kernel⟩
          · exact ⟨_, rfl, by decide +kernel⟩
          · exact ⟨_, rfl, by decide +kernel⟩
          · exact ⟨_, rfl, by decide +kernel⟩
          · exact ⟨_, rfl, hdl⟩
          · exact ⟨_, rfl, by decide +kernel⟩
        have tw := two_run i1.in2 I2 q5
        have it := ints_run i1.in2 hk q5
        have n1 := new_run i1.in2.ne i1.in2.a i1.in2.b (by decide) q5
        have n2 := new_run I2.ne I2.a I2.b (by decide) q5
        have n3 := new_run i3.in2.ne i3.in2.a i3.in2.b (by decide) q5
        have th := three_run i1.in2.rt I2.rt i3.in2.rt q5
        walk_at "W"
        exact ⟨⟨_, _, _, _, _, _, rfl⟩, pnb_mono hq5 (by omega)⟩
      · have ew : decide (w < 2) = false := decide_eq_false cw
        have I2 := i2.in2
        walk_at "W"
        refine (pair_run hq3 (by omega)).imp ?_
        rintro o q4 ⟨d, rfl, ⟨u, v, rfl, i3⟩, hq4⟩
        have dv := div_run (i := h) (j := l) i1.pos (up_sz i1.in2.b (by decide)) q4
        walk_at "W"
        refine w_pick hq4 (by omega) (by simp) (by simp) fun d q5 hd hq5 => ?_
        obtain ⟨k, rfl, hk⟩ : ∃ k, d = .int k ∧ k.natAbs < 2 ^ 70 := by
          have hdl : (h / l).natAbs < 2 ^ 70 := by
            have a := Int.natAbs_ediv_le_natAbs h l
            have b := i1.in2.a
            exact Nat.lt_of_le_of_lt a (up_sz b (by decide))
          simp only [List.mem_cons, List.not_mem_nil, or_false] at hd
          rcases hd with rfl | rfl | rfl | rfl | rfl | rfl
          · exact ⟨_, rfl, by decide +kernel⟩
          · exact ⟨_, rfl, by decide +kernel⟩
          · exact ⟨_, rfl, by decide +kernel⟩
          · exact ⟨_, rfl, by decide +kernel⟩
          · exact ⟨_, rfl, hdl⟩
          · exact ⟨_, rfl, by decide +kernel⟩
        have tw := two_run i1.in2 I2 q5
        have it := ints_run i1.in2 hk q5
        have n1 := new_run i1.in2.ne i1.in2.a i1.in2.b (by decide) q5
        have n2 := new_run I2.ne I2.a I2.b (by decide) q5
        have n3 := new_run i3.in2.ne i3.in2.a i3.in2.b (by decide) q5
        have th := three_run i1.in2.rt I2.rt i3.in2.rt q5
        walk_at "W"
        exact ⟨⟨_, _, _, _, _, _, rfl⟩, pnb_mono hq5 (by omega)⟩
    · rintro δ q ⟨⟨b2, b3, b4, b5, b6, b7, rfl⟩, hq⟩
      refine s_of (f := .rt (.bl true)) (p' := q) (by kernel_rfl) rfl
  obtain ⟨f, p, h1, h2⟩ := key
  exact ⟨p, by rw [h1, h2]⟩
end
end Lw
namespace Lw
open PySem PySem.Spec PyProof.Rows L2 ME
/-! ### what the top has written -/
noncomputable def chk (K : PySem.W.Frag) (cs : List Addr) (tb : List (Addr × Addr)) : Bool :=
  bltB K && (isfB K (sg K cs tb).ca isT && ((isT.os.all fun c => oclB K (cs.getD c 0)) && ((ex0.all fun c => PySem.W.excIn K (cs.getD c 0) [.type "ValueError", .type "Exception", .type "BaseException", .type "object"] "ValueError.__new__") && ((isT.xs.all fun c => noAt K (cs.getD c 0) (nmL.getD c [])) && (((clsN.zip cs).all fun q => PySem.W.nsIn K mainGlobals q.1 == some (some (.ref q.2))) && ((clsN.length == cs.length) && ((blts.all fun x => PySem.W.nsIn K mainGlobals x == some none) && (cnsB K cnL && (tbsB tb lamQ && ((putB K (sg K cs tb) 4 0 "parts") && (((PySem.W.makesIn K (cs.getD 4 0) && PySem.W.keepIn K (.ref (cs.getD 4 0)))) && ((fldO K (sg K cs tb) "parts" [(4, 0)]) && ((nfB K (sg K cs tb) [4] [4]) && ((neB K (sg K cs tb) [4]) && ((bopB K (sg K cs tb) [4] [4] "add") && ((bopB K (sg K cs tb) [4] [4] "sub") && ((bopB K (sg K cs tb) [4] [4] "mul") && ((augB K (sg K cs tb) [4] "add") && ((augB K (sg K cs tb) [4] "sub") && ((augB K (sg K cs tb) [4] "mul") && ((exmB K (sg K cs tb).ca isT 0) && ((fldB K (sg K cs tb) "part" [(2, 0)]) && ((clsB K (cs.getD 4 0)) && ((rmBA K (sg K cs tb) [4]) && ((rmBS K (sg K cs tb) [4]) && ((rmB K (sg K cs tb) [4]) && ((sepB K (sg K cs tb) [4]))))))))))))))))))))))))))))
theorem tp_mk {K : PySem.W.Frag} {h : Heap} {mg : Str → Option Value} {cs : List Addr} {tb : List (Addr × Addr)} (X : K.In h) (G : h.Ns mainGlobals mg) (c : chk K cs tb = true) (xi2 : XinAt K (cs.getD 2 0) "BadRate.__init__" (inClass (top 8) 0)) (d_law_pen : DefW K mg "_law_pen" (top 16) []) (d_law_draw : DefW K mg "_law_draw" (top 17) []) (d_law_pick : DefW K mg "_law_pick" (top 18) []) (d_law_pair : DefW K mg "_law_pair" (top 19) []) (dis_integer : DefW K mg "is_integer" (top 2) []) (dcommon_divisor : DefW K mg "common_divisor" (top 4) []) (dlowest : DefW K mg "lowest" (top 11) []) (wRate___init__ : MemW K (cs.getD 4 0) "__init__" "Rate.__init__" (inClass (top 13) 0) [.int 1]) (wRate_bottom : PrW K (cs.getD 4 0) "bottom" "Rate.bottom" (inClass (top 13) 2)) (wRate_top : PrW K (cs.getD 4 0) "top" "Rate.top" (inClass (top 13) 1)) (dparts_of : DefW K mg "parts_of" (top 12) []) (wRate___eq__ : MemW K (cs.getD 4 0) "__eq__" "Rate.__eq__" (inClass (top 13) 15) []) (d_law_is : DefW K mg "_law_is" (top 20) []) (wRate___add__ : MemW K (cs.getD 4 0) "__add__" "Rate.__add__" (inClass (top 13) 7) []) (wRate___neg__ : MemW K (cs.getD 4 0) "__neg__" "Rate.__neg__" (inClass (top 13) 13) []) (wRate___sub__ : MemW K (cs.getD 4 0) "__sub__" "Rate.__sub__" (inClass (top 13) 9) []) (wRate___mul__ : MemW K (cs.getD 4 0) "__mul__" "Rate.__mul__" (inClass (top 13) 11) []) (d_law_bound : DefW K mg "_law_bound" (top 22) []) (wRate___ge__ : MemW K (cs.getD 4 0) "__ge__" "Rate.__ge__" (inClass (top 13) 19) []) (wRate___gt__ : MemW K (cs.getD 4 0) "__gt__" "Rate.__gt__" (inClass (top 13) 18) []) (wRate___le__ : MemW K (cs.getD 4 0) "__le__" "Rate.__le__" (inClass (top 13) 17) []) (wRate___lt__ : MemW K (cs.getD 4 0) "__lt__" "Rate.__lt__" (inClass (top 13) 16) []) (d_law_heard : DefW K mg "_law_heard" (top 21) []) (wRate_over : MemW K (cs.getD 4 0) "over" "Rate.over" (inClass (top 13) 6) []) (d_law_two_right : DefC K mg "_law_two_right" (top 23) [] (tb.getD 0 (0, 0)).1) (wRate___radd__ : MemW K (cs.getD 4 0) "__radd__" "Rate.__radd__" (inClass (top 13) 8) []) (wRate___rsub__ : MemW K (cs.getD 4 0) "__rsub__" "Rate.__rsub__" (inClass (top 13) 10) []) (wRate___rmul__ : MemW K (cs.getD 4 0) "__rmul__" "Rate.__rmul__" (inClass (top 13) 12) []) (d_law_integers_right : DefW K mg "_law_integers_right" (top 24) []) (wRate_total : SmW K (cs.getD 4 0) "total" "Rate.total" (inClass (top 13) 4) []) (d_law_are_rates : DefW K mg "_law_are_rates" (top 25) []) (d_law_three_right : DefW K mg "_law_three_right" (top 26) []) (wRate___str__ : MemW K (cs.getD 4 0) "__str__" "Rate.__str__" (inClass (top 13) 20) []) (dlaw : DefW K mg "law" (top 27) []) : Tp K mg cs tb := by
  unfold chk at c
  obtain ⟨c1, c⟩ := Bool.and_eq_true_iff.mp c
  obtain ⟨c2, c⟩ := Bool.and_eq_true_iff.mp c
  obtain ⟨co, c⟩ := Bool.and_eq_true_iff.mp c
  obtain ⟨c3, c⟩ := Bool.and_eq_true_iff.mp c
  obtain ⟨c4, c⟩ := Bool.and_eq_true_iff.mp c
  obtain ⟨c6, c⟩ := Bool.and_eq_true_iff.mp c
  obtain ⟨c7, c⟩ := Bool.and_eq_true_iff.mp c
  obtain ⟨c8, c⟩ := Bool.and_eq_true_iff.mp c
  obtain ⟨c9, c⟩ := Bool.and_eq_true_iff.mp c
  obtain ⟨ct, c⟩ := Bool.and_eq_true_iff.mp c
  obtain ⟨f0, c⟩ := Bool.and_eq_true_iff.mp c
  obtain ⟨f1, c⟩ := Bool.and_eq_true_iff.mp c
  obtain ⟨f2, c⟩ := Bool.and_eq_true_iff.mp c
  obtain ⟨f3, c⟩ := Bool.and_eq_true_iff.mp c
  obtain ⟨f4, c⟩ := Bool.and_eq_true_iff.mp c
  obtain ⟨f5, c⟩ := Bool.and_eq_true_iff.mp c
  obtain ⟨f6, c⟩ := Bool.and_eq_true_iff.mp c
  obtain ⟨f7, c⟩ := Bool.and_eq_true_iff.mp c
  obtain ⟨f8, c⟩ := Bool.and_eq_true_iff.mp c
  obtain ⟨f9, c⟩ := Bool.and_eq_true_iff.mp c
  obtain ⟨f10, c⟩ := Bool.and_eq_true_iff.mp c
  obtain ⟨f11, c⟩ := Bool.and_eq_true_iff.mp c
  obtain ⟨f12, c⟩ := Bool.and_eq_true_iff.mp c
  obtain ⟨f13, c⟩ := Bool.and_eq_true_iff.mp c
  obtain ⟨f14, c⟩ := Bool.and_eq_true_iff.mp c
  obtain ⟨f15, c⟩ := Bool.and_eq_true_iff.mp c
  obtain ⟨f16, c⟩ := Bool.and_eq_true_iff.mp c
  have f17 := c
  have c4x : ∀ c, isT.xs.contains c = true → xcB K (cs.getD c 0) = true := by
    have q := c2
    unfold isfB at q
    exact all_in (Bool.and_eq_true_iff.mp q).2
  exact ⟨mgn_of X G c8, cm_of X G c6 (beq_iff_eq.mp c7), cns_of X G c9, c4x, all_in c3, all_in c4, isf_of c2 c1 (fun c hc => ocl_of (List.all_eq_true.mp co c hc) c1), ct, f0, f1, f2, f3, f4, f5, f6, f7, f8, f9, f10, f11, f12, f13, f14, f15, f16, f17, xi2, d_law_pen, d_law_draw, d_law_pick, d_law_pair, dis_integer, dcommon_divisor, dlowest, wRate___init__, wRate_bottom, wRate_top, dparts_of, wRate___eq__, d_law_is, wRate___add__, wRate___neg__, wRate___sub__, wRate___mul__, d_law_bound, wRate___ge__, wRate___gt__, wRate___le__, wRate___lt__, d_law_heard, wRate_over, d_law_two_right, wRate___radd__, wRate___rsub__, wRate___rmul__, d_law_integers_right, wRate_total, d_law_are_rates, d_law_three_right, wRate___str__, dlaw⟩
theorem law_at {l : PySem.W.OpenLaw} {w : World} {K : PySem.W.Frag} {h : Heap} {mg : Str → Option Value} {fa : Addr} {cs : List Addr} {tb : List (Addr × Addr)} (X : K.In h) (hfa : mg "law" = some (.ref fa)) (T : Tp K mg cs tb) (hd : hdsB K tb = true) (hT : ∀ p ∈ tb, h.get? p.2 = some objT) : LawAtG l w K 9 63 "_law_script" mg fa h := by
  obtain ⟨f, fd, F, hm, hk⟩ := T.dlaw
  have e := hfa.symm.trans hm
  cases e
  have hds := hds_of X hd
  refine ⟨fd, tb, spLaw (sg K cs tb) Nlaw.length blaw, hT, hds.1, hds.2, ?_, fun H a ns hl hH hS => ?_, fun base _ _ hS hTB => fn_law hS hTB T F⟩
  · have bd := bdW0 (ps := ["_law_script"]) (n := 1) (ks := []) (l := [.p 0]) F (fun s kV doc pm an cdv ct us ws h1 h2 => match us, ws, h1, h2 with | [_], [], _, _ => .of_eq (by kernel_rfl))
    obtain ⟨oc, od, dV, kV, doc, pm, an, cdv, ct, osl, rfl, _, _, h4⟩ := F
    have e : dV = .none := by
      unfold dflB at h4
      cases dV <;> first | rfl | (simp at h4; done)
    subst e
    exact fun s u => .of_eq (by kernel_rfl)
  · obtain ⟨p, hp⟩ := plain (ns.take 63) (by rw [List.length_take]; exact Nat.min_le_left _ _)
    exact ⟨a, ns, rfl, hS, tabs_start hH, p, hp, fun _ => rfl⟩
theorem all_mk {l : PySem.W.OpenLaw} {w : World} {K : PySem.W.Frag} {h : Heap} {mg : Str → Option Value} {fa : Addr} {C0 C1 C2 C3 C4 q0 P0 : Addr} {o0 : Value} {d0 : Option Addr} {v0 : Array Value} {s0 : Array (Option Value)} {ts : List Addr} (X : K.In h) (G : h.Ns mainGlobals mg) (hfa : mg "law" = some (.ref fa)) (hY : ∀ P ∈ ts, h.get? P = some (PySem.W.tabObj #[])) (a0 : PySem.W.nsIn K mainGlobals "PullError" = some (some (.ref C0))) (a1 : PySem.W.nsIn K mainGlobals "BadInput" = some (some (.ref C1))) (a2 : PySem.W.nsIn K mainGlobals "BadRate" = some (some (.ref C2))) (a3 : PySem.W.nsIn K mainGlobals "BadText" = some (some (.ref C3))) (a4 : PySem.W.nsIn K mainGlobals "Rate" = some (some (.ref C4))) (t0 : K.lookup q0 = some ⟨o0, d0, .fields v0, s0⟩) (u0 : v0[11]? = some (.ref P0)) (c : chk K [C0, C1, C2, C3, C4] [(q0, P0)] = true) (hd : hdsB K [(q0, P0)] = true) (hts : (([(q0, P0)] : List (Addr × Addr)).all fun p => ts.contains p.2) = true) (xi2 : XinAt K C2 "BadRate.__init__" (inClass (top 8) 0)) (d_law_pen : DefW K mg "_law_pen" (top 16) []) (d_law_draw : DefW K mg "_law_draw" (top 17) []) (d_law_pick : DefW K mg "_law_pick" (top 18) []) (d_law_pair : DefW K mg "_law_pair" (top 19) []) (dis_integer : DefW K mg "is_integer" (top 2) []) (dcommon_divisor : DefW K mg "common_divisor" (top 4) []) (dlowest : DefW K mg "lowest" (top 11) []) (wRate___init__ : MemW K C4 "__init__" "Rate.__init__" (inClass (top 13) 0) [.int 1]) (wRate_bottom : PrW K C4 "bottom" "Rate.bottom" (inClass (top 13) 2)) (wRate_top : PrW K C4 "top" "Rate.top" (inClass (top 13) 1)) (dparts_of : DefW K mg "parts_of" (top 12) []) (wRate___eq__ : MemW K C4 "__eq__" "Rate.__eq__" (inClass (top 13) 15) []) (d_law_is : DefW K mg "_law_is" (top 20) []) (wRate___add__ : MemW K C4 "__add__" "Rate.__add__" (inClass (top 13) 7) []) (wRate___neg__ : MemW K C4 "__neg__" "Rate.__neg__" (inClass (top 13) 13) []) (wRate___sub__ : MemW K C4 "__sub__" "Rate.__sub__" (inClass (top 13) 9) []) (wRate___mul__ : MemW K C4 "__mul__" "Rate.__mul__" (inClass (top 13) 11) []) (d_law_bound : DefW K mg "_law_bound" (top 22) []) (wRate___ge__ : MemW K C4 "__ge__" "Rate.__ge__" (inClass (top 13) 19) []) (wRate___gt__ : MemW K C4 "__gt__" "Rate.__gt__" (inClass (top 13) 18) []) (wRate___le__ : MemW K C4 "__le__" "Rate.__le__" (inClass (top 13) 17) []) (wRate___lt__ : MemW K C4 "__lt__" "Rate.__lt__" (inClass (top 13) 16) []) (d_law_heard : DefW K mg "_law_heard" (top 21) []) (wRate_over : MemW K C4 "over" "Rate.over" (inClass (top 13) 6) []) (d_law_two_right : DefC K mg "_law_two_right" (top 23) [] q0) (wRate___radd__ : MemW K C4 "__radd__" "Rate.__radd__" (inClass (top 13) 8) []) (wRate___rsub__ : MemW K C4 "__rsub__" "Rate.__rsub__" (inClass (top 13) 10) []) (wRate___rmul__ : MemW K C4 "__rmul__" "Rate.__rmul__" (inClass (top 13) 12) []) (d_law_integers_right : DefW K mg "_law_integers_right" (top 24) []) (wRate_total : SmW K C4 "total" "Rate.total" (inClass (top 13) 4) []) (d_law_are_rates : DefW K mg "_law_are_rates" (top 25) []) (d_law_three_right : DefW K mg "_law_three_right" (top 26) []) (wRate___str__ : MemW K C4 "__str__" "Rate.__str__" (inClass (top 13) 20) []) (dlaw : DefW K mg "law" (top 27) []) : LawAtG l w K 9 63 "_law_script" mg fa h :=
  law_at (cs := [C0, C1, C2, C3, C4]) (tb := [(q0, P0)]) X hfa (tp_mk X G c xi2 d_law_pen d_law_draw d_law_pick d_law_pair dis_integer dcommon_divisor dlowest wRate___init__ wRate_bottom wRate_top dparts_of wRate___eq__ d_law_is wRate___add__ wRate___neg__ wRate___sub__ wRate___mul__ d_law_bound wRate___ge__ wRate___gt__ wRate___le__ wRate___lt__ d_law_heard wRate_over d_law_two_right wRate___radd__ wRate___rsub__ wRate___rmul__ d_law_integers_right wRate_total d_law_are_rates d_law_three_right wRate___str__ dlaw) hd (tbs_in hY hts)
end Lw
open PySem PySem.W PyProof.Rows
set_option maxRecDepth 100000 in
set_option maxHeartbeats 0 in
theorem PySem.Challenge.cw_emptypulls_k03_whole_rates_reckoned_and_holds : PySem.Challenge.rw_emptypulls_k03_whole_rates_reckoned_and.Holds := by
  w_on; o_law; k_head; (case hw => w_witness2)
  k_fill
  refine ME.walk_ofG (l := PySem.Challenge.rw_emptypulls_k03_whole_rates_reckoned_and) (n := 63) (k := 9) (x := "_law_script") rfl (by decide) rfl ⟨rfl, by decide, by decide⟩ (by kernel_rfl) (fun w h Y => PySem.W.km_in_of Y) ?F
  case F =>
    intro w mg fa h Y KX G hmg
    refine' Lw.all_mk KX G hmg (PySem.W.km_tabs_of Y) ?a0 ?a1 ?a2 ?a3 ?a4 ?t0 ?u0 ?chk ?hd ?hts ?xi2 ?d_law_pen ?d_law_draw ?d_law_pick ?d_law_pair ?dis_integer ?dcommon_divisor ?dlowest ?wRate___init__ ?wRate_bottom ?wRate_top ?dparts_of ?wRate___eq__ ?d_law_is ?wRate___add__ ?wRate___neg__ ?wRate___sub__ ?wRate___mul__ ?d_law_bound ?wRate___ge__ ?wRate___gt__ ?wRate___le__ ?wRate___lt__ ?d_law_heard ?wRate_over ?d_law_two_right ?wRate___radd__ ?wRate___rsub__ ?wRate___rmul__ ?d_law_integers_right ?wRate_total ?d_law_are_rates ?d_law_three_right ?wRate___str__ ?dlaw
    (case a0 => k_is)
    (case a1 => k_is)
    (case a2 => k_is)
    (case a3 => k_is)
    (case a4 => k_is)
    (case d_law_two_right => (refine' ME.defC_mk KX G ?a ?l ?c ?k ?d; (case a => k_is); (case l => k_is); (case c => k_is); (case k => k_is); (case d => kernel_rfl)))
    (case t0 => k_is)
    (case u0 => rfl)
    (case chk => kernel_rfl)
    (case hd => kernel_rfl)
    (case hts => kernel_rfl)
    (case xi2 => (refine' ME.xinAt_mk ?a ?l ?c ?k; (case a => k_is); (case l => k_is); (case c => k_is); (case k => k_is)))
    (case d_law_pen => (refine' ME.defW_mk KX G ?a ?l ?c ?k ?d; (case a => k_is); (case l => k_is); (case c => k_is); (case k => k_is); (case d => kernel_rfl)))
    (case d_law_draw => (refine' ME.defW_mk KX G ?a ?l ?c ?k ?d; (case a => k_is); (case l => k_is); (case c => k_is); (case k => k_is); (case d => kernel_rfl)))
    (case d_law_pick => (refine' ME.defW_mk KX G ?a ?l ?c ?k ?d; (case a => k_is); (case l => k_is); (case c => k_is); (case k => k_is); (case d => kernel_rfl)))
    (case d_law_pair => (refine' ME.defW_mk KX G ?a ?l ?c ?k ?d; (case a => k_is); (case l => k_is); (case c => k_is); (case k => k_is); (case d => kernel_rfl)))
    (case dis_integer => (refine' ME.defW_mk KX G ?a ?l ?c ?k ?d; (case a => k_is); (case l => k_is); (case c => k_is); (case k => k_is); (case d => kernel_rfl)))
    (case dcommon_divisor => (refine' ME.defW_mk KX G ?a ?l ?c ?k ?d; (case a => k_is); (case l => k_is); (case c => k_is); (case k => k_is); (case d => kernel_rfl)))
    (case dlowest => (refine' ME.defW_mk KX G ?a ?l ?c ?k ?d; (case a => k_is); (case l => k_is); (case c => k_is); (case k => k_is); (case d => kernel_rfl)))
    (case wRate___init__ => (refine' ME.memW_mk ?a ?l ?c ?k; (case a => k_is); (case l => k_is); (case c => k_is); (case k => kernel_rfl)))
    (case wRate_bottom => (refine' ME.prW_mk ?a ?r ?l ?c ?k; (case a => k_is); (case r => k_is); (case l => k_is); (case c => k_is); (case k => kernel_rfl)))
    (case wRate_top => (refine' ME.prW_mk ?a ?r ?l ?c ?k; (case a => k_is); (case r => k_is); (case l => k_is); (case c => k_is); (case k => kernel_rfl)))
    (case dparts_of => (refine' ME.defW_mk KX G ?a ?l ?c ?k ?d; (case a => k_is); (case l => k_is); (case c => k_is); (case k => k_is); (case d => kernel_rfl)))
    (case wRate___eq__ => (refine' ME.memW_mk ?a ?l ?c ?k; (case a => k_is); (case l => k_is); (case c => k_is); (case k => kernel_rfl)))
    (case d_law_is => (refine' ME.defW_mk KX G ?a ?l ?c ?k ?d; (case a => k_is); (case l => k_is); (case c => k_is); (case k => k_is); (case d => kernel_rfl)))
    (case wRate___add__ => (refine' ME.memW_mk ?a ?l ?c ?k; (case a => k_is); (case l => k_is); (case c => k_is); (case k => kernel_rfl)))
    (case wRate___neg__ => (refine' ME.memW_mk ?a ?l ?c ?k; (case a => k_is); (case l => k_is); (case c => k_is); (case k => kernel_rfl)))
    (case wRate___sub__ => (refine' ME.memW_mk ?a ?l ?c ?k; (case a => k_is); (case l => k_is); (case c => k_is); (case k => kernel_rfl)))
    (case wRate___mul__ => (refine' ME.memW_mk ?a ?l ?c ?k; (case a => k_is); (case l => k_is); (case c => k_is); (case k => kernel_rfl)))
    (case d_law_bound => (refine' ME.defW_mk KX G ?a ?l ?c ?k ?d; (case a => k_is); (case l => k_is); (case c => k_is); (case k => k_is); (case d => kernel_rfl)))
    (case wRate___ge__ => (refine' ME.memW_mk ?a ?l ?c ?k; (case a => k_is); (case l => k_is); (case c => k_is); (case k => kernel_rfl)))
    (case wRate___gt__ => (refine' ME.memW_mk ?a ?l ?c ?k; (case a => k_is); (case l => k_is); (case c => k_is); (case k => kernel_rfl)))
    (case wRate___le__ => (refine' ME.memW_mk ?a ?l ?c ?k; (case a => k_is); (case l => k_is); (case c => k_is); (case k => kernel_rfl)))
    (case wRate___lt__ => (refine' ME.memW_mk ?a ?l ?c ?k; (case a => k_is); (case l => k_is); (case c => k_is); (case k => kernel_rfl)))
    (case d_law_heard => (refine' ME.defW_mk KX G ?a ?l ?c ?k ?d; (case a => k_is); (case l => k_is); (case c => k_is); (case k => k_is); (case d => kernel_rfl)))
    (case wRate_over => (refine' ME.memW_mk ?a ?l ?c ?k; (case a => k_is); (case l => k_is); (case c => k_is); (case k => kernel_rfl)))
    (case wRate___radd__ => (refine' ME.memW_mk ?a ?l ?c ?k; (case a => k_is); (case l => k_is); (case c => k_is); (case k => kernel_rfl)))
    (case wRate___rsub__ => (refine' ME.memW_mk ?a ?l ?c ?k; (case a => k_is); (case l => k_is); (case c => k_is); (case k => kernel_rfl)))
    (case wRate___rmul__ => (refine' ME.memW_mk ?a ?l ?c ?k; (case a => k_is); (case l => k_is); (case c => k_is); (case k => kernel_rfl)))
    (case d_law_integers_right => (refine' ME.defW_mk KX G ?a ?l ?c ?k ?d; (case a => k_is); (case l => k_is); (case c => k_is); (case k => k_is); (case d => kernel_rfl)))
    (case wRate_total => (refine' ME.smW_mk ?a ?r ?l ?c ?k; (case a => k_is); (case r => k_is); (case l => k_is); (case c => k_is); (case k => kernel_rfl)))
    (case d_law_are_rates => (refine' ME.defW_mk KX G ?a ?l ?c ?k ?d; (case a => k_is); (case l => k_is); (case c => k_is); (case k => k_is); (case d => kernel_rfl)))
    (case d_law_three_right => (refine' ME.defW_mk KX G ?a ?l ?c ?k ?d; (case a => k_is); (case l => k_is); (case c => k_is); (case k => k_is); (case d => kernel_rfl)))
    (case wRate___str__ => (refine' ME.memW_mk ?a ?l ?c ?k; (case a => k_is); (case l => k_is); (case c => k_is); (case k => kernel_rfl)))
    (case dlaw => (refine' ME.defW_mk KX G ?a ?l ?c ?k ?d; (case a => k_is); (case l => k_is); (case c => k_is); (case k => k_is); (case d => kernel_rfl)))

