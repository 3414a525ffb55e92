import PyProof.Rows.All
import HandS.ForMost
import HandS.Wide
import HandS.Defaults
import HandS.TupAny
import HandS.TupLe
import HandS.Deep
import HandS.IsInst
import HandS.RaiseMore
import HandS.WordsExc
import HandS.ExcIs
import PyProof.ExcStr
import HandS.Strs
import HandS.NoneIn
import HandS.ExcInit
import HandS.Style
import HandS.TryMany
import KE.KExcStr
import KE.KUnpackStar
import HandS.Dict
import HandS.StrMore
import HandS.Replace
import HandS.ExcField
import HandS.HeadHook2
import PySem.Challenge.RW_callwide_k01_things_and_plain_numbers
import KE.KIntText
import KE.KStateDown
import HandS.Head0
import HandS.Head1
import HandS.Head2
import HandS.HeadEnd
import HandS.HeadHook1
section
set_option Elab.async false
set_option linter.all false
set_option maxRecDepth 100000
/-! FD0: data, frozen heaps, own objects; expressions as functions of data. -/
namespace FD
open PySem L2

inductive D where
  | non | bl (b : Bool) | int (i : Int) | str (s : Str) | tup (l : List D) | lst (l : List D) | scr (l : List D) | dct (l : List (Key × D)) | obj (a : Addr) | ty (n : String) | exc (nm : Str) (l : List D) | cau (a d : Addr) (fs : List (Str × D))
  deriving Inhabited
/-- what the written part says of an own exception class, whose instances are held as values -/
structure ExK (K : PySem.W.Frag) (C : Addr) (nm : Str) : Prop where
  ex : L2.ExcC K C
  rp : PySem.W.findIn K (.ref C) "__repr__" = some (some (.builtin "BaseException.__repr__"))
  no : ∀ n ∈ ["int", "bool", "str", "tuple", "list", "dict"], PySem.W.kitOne K (.ref C) (.type n) = some false
  nm : ∃ cd, PySem.W.clsIn K C = some cd ∧ excReprHead cd.name.toString = nm
/-- such an instance: its arguments' tuple at t, its dict at dx -/
def exq (a C t dx : Addr) : HO := .ext fun h => h.get? a = some ({ cls := .ref C, dict := some dx, data := .fields #[.ref t, .none, .none, .none, .bool false, .none] } : Obj)

mutual
inductive RepD (K : PySem.W.Frag) (F : Hp) : V → D → Prop
  | non : RepD K F .non .non
  | bl (b : Bool) : RepD K F (.bl b) (.bl b)
  | int (i : Int) : RepD K F (.int i) (.int i)
  | str (s : Str) : RepD K F (.str s) (.str s)
  | tup {a : Addr} {vs : List V} {ds : List D} : SqT K F a vs → RepL K F vs ds → RepD K F (.ref a) (.tup ds)
  | lst {a : Addr} {vs : List V} {ds : List D} : F a = some (.lst vs) → RepL K F vs ds → RepD K F (.ref a) (.lst ds)
  | scr {a : Addr} {vs : List V} {ds : List D} : SqL K F a vs → RepL K F vs ds → RepD K F (.ref a) (.scr ds)
  | dct {a : Addr} {kvs : List (Key × V)} {ms : List (Key × D)} : F a = some (.dK kvs) → RepM K F kvs ms → RepD K F (.ref a) (.dct ms)
  | obj {a : Addr} : RepD K F (.ref a) (.obj a)
  | ty (n : String) : RepD K F (.ty n) (.ty n)
  | exc {a C t dx : Addr} {nm : Str} {vs : List V} {ds : List D} {o : HO} : ExK K C nm → F a = some (exq a C t dx) → F dx = some o → SqT K F t vs → RepL K F vs ds → RepD K F (.ref a) (.exc nm ds)
  | cau {a d : Addr} {vs : List (Str × V)} {fs : List (Str × D)} : F d = some (.xd vs) → vs.map (·.1) = fs.map (·.1) → RepL K F (vs.map (·.2)) (fs.map (·.2)) → RepD K F (.ref a) (.cau a d fs)
inductive RepL (K : PySem.W.Frag) (F : Hp) : List V → List D → Prop
  | nil : RepL K F [] []
  | cons {v : V} {vs : List V} {d : D} {ds : List D} : RepD K F v d → RepL K F vs ds → RepL K F (v :: vs) (d :: ds)
inductive RepM (K : PySem.W.Frag) (F : Hp) : List (Key × V) → List (Key × D) → Prop
  | nil : RepM K F [] []
  | cons {k : Key} {v : V} {vs : List (Key × V)} {d : D} {ds : List (Key × D)} : RepD K F v d → RepM K F vs ds → RepM K F ((k, v) :: vs) ((k, d) :: ds)
end

theorem same_seqT {K : PySem.W.Frag} {H H' : Hp} {a : Addr} {xs : List V} (e : Same H H') (h : SqT K H a xs) : SqT K H' a xs := by
  rcases h with (h | ⟨o, h⟩) | h
  · exact .inl (.inl (e _ _ h))
  · exact .inl (.inr ⟨o, e _ _ h⟩)
  · exact .inr h

mutual
theorem RepD.mono {K : PySem.W.Frag} {F F' : Hp} (s : Same F F') : ∀ {v : V} {d : D}, RepD K F v d → RepD K F' v d
  | _, _, .non => .non
  | _, _, .bl b => .bl b
  | _, _, .int i => .int i
  | _, _, .str x => .str x
  | _, _, .tup h r => .tup (same_seqT s h) (RepL.mono s r)
  | _, _, .lst h r => .lst (s _ _ h) (RepL.mono s r)
  | _, _, .scr h r => .scr (s.seq h) (RepL.mono s r)
  | _, _, .dct h r => .dct (s _ _ h) (RepM.mono s r)
  | _, _, .obj => .obj
  | _, _, .ty n => .ty n
  | _, _, .exc k h1 h2 h3 r => .exc k (s _ _ h1) (s _ _ h2) (same_seqT s h3) (RepL.mono s r)
  | _, _, .cau h1 h2 r => .cau (s _ _ h1) h2 (RepL.mono s r)
theorem RepL.mono {K : PySem.W.Frag} {F F' : Hp} (s : Same F F') : ∀ {vs : List V} {ds : List D}, RepL K F vs ds → RepL K F' vs ds
  | _, _, .nil => .nil
  | _, _, .cons h r => .cons (RepD.mono s h) (RepL.mono s r)
theorem RepM.mono {K : PySem.W.Frag} {F F' : Hp} (s : Same F F') : ∀ {vs : List (Key × V)} {ds : List (Key × D)}, RepM K F vs ds → RepM K F' vs ds
  | _, _, .nil => .nil
  | _, _, .cons h r => .cons (RepD.mono s h) (RepM.mono s r)
end

theorem RepL.length {K : PySem.W.Frag} {F : Hp} : ∀ {vs : List V} {ds : List D}, RepL K F vs ds → vs.length = ds.length
  | _, _, .nil => rfl
  | _, _, .cons _ r => by simp [RepL.length r]
theorem RepL.get {K : PySem.W.Frag} {F : Hp} : ∀ {vs : List V} {ds : List D} {i : Nat} {d : D}, RepL K F vs ds → ds[i]? = some d → ∃ v, vs[i]? = some v ∧ RepD K F v d
  | _, _, _, _, .nil, e => by simp at e
  | _, _, 0, _, .cons h _, e => by simp at e; subst e; exact ⟨_, rfl, h⟩
  | _, _, i + 1, _, .cons _ r, e => by
    obtain ⟨v, h1, h2⟩ := RepL.get (i := i) r (by simpa using e)
    exact ⟨v, by simpa using h1, h2⟩
theorem RepL.getV {K : PySem.W.Frag} {F : Hp} : ∀ {vs : List V} {ds : List D} {i : Nat} {v : V}, RepL K F vs ds → vs[i]? = some v → ∃ d, ds[i]? = some d ∧ RepD K F v d
  | _, _, _, _, .nil, e => by simp at e
  | _, _, 0, _, .cons h _, e => by simp at e; subst e; exact ⟨_, rfl, h⟩
  | _, _, i + 1, _, .cons _ r, e => by
    obtain ⟨v, h1, h2⟩ := RepL.getV (i := i) r (by simpa using e)
    exact ⟨v, by simpa using h1, h2⟩
theorem RepL.append {K : PySem.W.Frag} {F : Hp} : ∀ {vs ws : List V} {ds es : List D}, RepL K F vs ds → RepL K F ws es → RepL K F (vs ++ ws) (ds ++ es)
  | _, _, _, _, .nil, s => s
  | _, _, _, _, .cons h r, s => .cons h (RepL.append r s)
theorem RepL.take {K : PySem.W.Frag} {F : Hp} : ∀ {vs : List V} {ds : List D} (n : Nat), RepL K F vs ds → RepL K F (vs.take n) (ds.take n)
  | _, _, 0, _ => by simpa using RepL.nil
  | _, _, _ + 1, .nil => by simpa using RepL.nil
  | _, _, n + 1, .cons h r => .cons h (RepL.take n r)
theorem RepL.drop {K : PySem.W.Frag} {F : Hp} : ∀ {vs : List V} {ds : List D} (n : Nat), RepL K F vs ds → RepL K F (vs.drop n) (ds.drop n)
  | _, _, 0, r => r
  | _, _, _ + 1, .nil => .nil
  | _, _, n + 1, .cons _ r => RepL.drop n r
theorem RepL.set {K : PySem.W.Frag} {F : Hp} {v : V} {d : D} (h : RepD K F v d) : ∀ {vs : List V} {ds : List D} (i : Nat), RepL K F vs ds → RepL K F (vs.set i v) (ds.set i d)
  | _, _, _, .nil => .nil
  | _, _, 0, .cons _ r => .cons h r
  | _, _, i + 1, .cons q r => .cons q (RepL.set h i r)
theorem RepL.reverse {K : PySem.W.Frag} {F : Hp} : ∀ {vs : List V} {ds : List D}, RepL K F vs ds → RepL K F vs.reverse ds.reverse
  | _, _, .nil => .nil
  | _, _, .cons h r => by
    rw [List.reverse_cons, List.reverse_cons]
    exact (RepL.reverse r).append (.cons h .nil)

/-- an object that one name alone holds -/
inductive Ob where
  | lst (l : List D) | dct (l : List (Key × D))
inductive Sl where
  | no | d (x : D) | own (o : Ob)
inductive EV where
  | d (x : D) | own (o : Ob)
def Ob.toD : Ob → D
  | .lst l => .lst l
  | .dct l => .dct l
def EV.toD : EV → D
  | .d x => x
  | .own o => o.toD
def EV.sl : EV → Sl
  | .d x => .d x
  | .own o => .own o
inductive RepO (K : PySem.W.Frag) (F : Hp) : HO → Ob → Prop
  | lst {vs : List V} {ds : List D} : RepL K F vs ds → RepO K F (.lst vs) (.lst ds)
  | dct {vs : List (Key × V)} {ds : List (Key × D)} : RepM K F vs ds → RepO K F (.dK vs) (.dct ds)
theorem RepO.mono {K : PySem.W.Frag} {F F' : Hp} (s : Same F F') {h : HO} {o : Ob} : RepO K F h o → RepO K F' h o
  | .lst r => .lst (r.mono s)
  | .dct r => .dct (r.mono s)
theorem RepO.toD {K : PySem.W.Frag} {F : Hp} {h : HO} {o : Ob} {p : Addr} (e : F p = some h) : RepO K F h o → RepD K F (.ref p) o.toD
  | .lst r => .lst e r
  | .dct r => .dct e r

abbrev Dv := List Sl
def OwnAt (σ : St) (δ : Dv) (p : Addr) : Prop := ∃ (i : Nat) (o : Ob), δ[i]? = some (.own o) ∧ σ[i]? = some (some (.ref p))
structure Stt (K : PySem.W.Frag) (F : Hp) (σ : St) (δ : Dv) (H : Hp) : Prop where
  sub : Same F H
  len : σ.length = δ.length
  dd : ∀ (i : Nat) (x : D), δ[i]? = some (.d x) → ∃ v, σ[i]? = some (some v) ∧ RepD K F v x
  ow : ∀ (i : Nat) (o : Ob), δ[i]? = some (.own o) → ∃ p ho, σ[i]? = some (some (.ref p)) ∧ F p = none ∧ H p = some ho ∧ RepO K F ho o
  ne : ∀ (i j : Nat) (o u : Ob) (p : Addr), δ[i]? = some (.own o) → δ[j]? = some (.own u) → σ[i]? = some (some (.ref p)) → σ[j]? = some (some (.ref p)) → i = j
theorem Stt.at {K : PySem.W.Frag} {F : Hp} {σ : St} {δ : Dv} {H : Hp} (s : Stt K F σ δ H) {p : Addr} (h : OwnAt σ δ p) : F p = none ∧ ∃ ho, H p = some ho := by
  obtain ⟨i, o, h1, h2⟩ := h
  obtain ⟨q, ho, e1, e2, e3, _⟩ := s.ow i o h1
  rw [h2] at e1; cases e1
  exact ⟨e2, ho, e3⟩

structure Ext (F H : Hp) (M : Addr → Prop) (F' H' : Hp) : Prop where
  fr : Same F F'
  keep : ∀ a o, H a = some o → F a = none → ¬ M a → H' a = some o ∧ F' a = none
  dom : ∀ a, H' a = none → H a = none
theorem Ext.refl (F H : Hp) (M : Addr → Prop) : Ext F H M F H := ⟨.refl _, fun _ _ h f _ => ⟨h, f⟩, fun _ h => h⟩
theorem Ext.trans {F H F1 H1 F2 H2 : Hp} {M M1 : Addr → Prop} (a : Ext F H M F1 H1) (b : Ext F1 H1 M1 F2 H2) (m : ∀ p, M1 p → M p ∨ H p = none) : Ext F H M F2 H2 :=
by
  refine ⟨a.fr.trans b.fr, fun p o h f nm => ?_, fun p h => a.dom p (b.dom p h)⟩
  obtain ⟨h1, f1⟩ := a.keep p o h f nm
  refine b.keep p o h1 f1 fun z => ?_
  rcases m p z with q | q
  · exact nm q
  · rw [h] at q; cases q
theorem Ext.wk {F H F' H' : Hp} {M M' : Addr → Prop} (a : Ext F H M F' H') (m : ∀ p, M p → M' p) : Ext F H M' F' H' := ⟨a.fr, fun p o h f nm => a.keep p o h f fun z => nm (m p z), a.dom⟩

/-- what may have been changed: nothing, where quiet -/
def Md (q : Bool) (σ : St) (δ : Dv) : Addr → Prop := fun p => q = false ∧ OwnAt σ δ p
structure Step (K : PySem.W.Frag) (q : Bool) (F H : Hp) (σ : St) (δ : Dv) (F' H' : Hp) (δ' : Dv) : Prop where
  st : Stt K F' σ δ' H'
  ex : Ext F H (Md q σ δ) F' H'
  ow : ∀ (i : Nat) (o : Ob), δ'[i]? = some (.own o) → ∃ u, δ[i]? = some (.own u)
theorem Step.at {K : PySem.W.Frag} {q : Bool} {F H : Hp} {σ : St} {δ : Dv} {F' H' : Hp} {δ' : Dv} (s : Step K q F H σ δ F' H' δ') {p : Addr} (h : OwnAt σ δ' p) : OwnAt σ δ p := by
  obtain ⟨i, o, h1, h2⟩ := h
  obtain ⟨u, e⟩ := s.ow i o h1
  exact ⟨i, u, e, h2⟩
theorem Step.refl {K : PySem.W.Frag} {q : Bool} {F H : Hp} {σ : St} {δ : Dv} (s : Stt K F σ δ H) : Step K q F H σ δ F H δ := ⟨s, .refl _ _ _, fun _ o h => ⟨o, h⟩⟩
theorem Step.trans {K : PySem.W.Frag} {q q' : Bool} {F H F1 H1 F2 H2 : Hp} {σ : St} {δ δ1 δ2 : Dv} (a : Step K q F H σ δ F1 H1 δ1) (b : Step K q' F1 H1 σ δ1 F2 H2 δ2) : Step K (q && q') F H σ δ F2 H2 δ2 :=
  ⟨b.st, (a.ex.wk (M' := Md (q && q') σ δ) fun p h => ⟨by rw [h.1]; rfl, h.2⟩).trans b.ex fun p h => .inl ⟨by rw [h.1, Bool.and_false], a.at h.2⟩, fun i o h => let ⟨u, e⟩ := b.ow i o h; a.ow i u e⟩
theorem Step.wk {K : PySem.W.Frag} {q : Bool} {F H F1 H1 : Hp} {σ : St} {δ δ1 : Dv} (a : Step K q F H σ δ F1 H1 δ1) : Step K false F H σ δ F1 H1 δ1 := ⟨a.st, a.ex.wk fun _ h => ⟨rfl, h.2⟩, a.ow⟩
theorem Step.wk2 {K : PySem.W.Frag} {q : Bool} {F H F1 H1 : Hp} {σ : St} {δ δ1 : Dv} (a : Step K true F H σ δ F1 H1 δ1) : Step K q F H σ δ F1 H1 δ1 := ⟨a.st, a.ex.wk (fun _ h => nomatch h.1), a.ow⟩
/-- quiet: all stays -/
theorem Step.same {K : PySem.W.Frag} {F H F1 H1 : Hp} {σ : St} {δ δ1 : Dv} (s : Stt K F σ δ H) (a : Step K true F H σ δ F1 H1 δ1) : Same H H1 := fun p o h => by
  cases e : F p with
  | none => exact (a.ex.keep p o h e fun z => nomatch z.1).1
  | some u =>
    have h1 := s.sub p u e
    rw [h] at h1; cases h1
    exact a.st.sub p _ (a.ex.fr p _ e)

/-- a value's EV: frozen data, or an own object, new since H -/
inductive RepZ (K : PySem.W.Frag) (F' H' H : Hp) : V → EV → Prop
  | d {v : V} {x : D} : RepD K F' v x → RepZ K F' H' H v (.d x)
  | own {p : Addr} {ho : HO} {o : Ob} : F' p = none → H' p = some ho → RepO K F' ho o → H p = none → RepZ K F' H' H (.ref p) (.own o)
/-- let go of an own object: it is frozen -/
theorem Step.freeze {K : PySem.W.Frag} {q : Bool} {F H F1 H1 : Hp} {σ : St} {δ δ1 : Dv} {v : V} {z : EV} (s : Stt K F σ δ H) (a : Step K q F H σ δ F1 H1 δ1) (r : RepZ K F1 H1 H v z) :
    ∃ F2, Step K q F H σ δ F2 H1 δ1 ∧ RepD K F2 v z.toD := by
  cases r with
  | d r => exact ⟨F1, a, r⟩
  | @own p ho o h1 h2 r h3 =>
    have s2 : Same F1 (upd F1 p ho) := fun b u e => by rw [upd_ne (fun z => by rw [z, h1] at e; cases e)]; exact e
    have np : ∀ b, OwnAt σ δ1 b → b ≠ p := fun b hb z => by
      obtain ⟨_, _, e⟩ := s.at (a.at hb)
      rw [z, h3] at e; cases e
    refine ⟨upd F1 p ho, ⟨⟨fun b u e => ?_, a.st.len, fun i x e => ?_, fun i o' e => ?_, a.st.ne⟩, ⟨a.ex.fr.trans s2, fun b u hb fb nm => ?_, a.ex.dom⟩, a.ow⟩, (r.mono s2).toD upd_same⟩
    · by_cases hb : b = p
      · subst hb; rw [upd_same] at e; cases e; exact h2
      · rw [upd_ne hb] at e; exact a.st.sub b u e
    · obtain ⟨w, e1, e2⟩ := a.st.dd i x e
      exact ⟨w, e1, e2.mono s2⟩
    · obtain ⟨b, hb, e1, e2, e3, e4⟩ := a.st.ow i o' e
      exact ⟨b, hb, e1, by rw [upd_ne (np b ⟨i, o', e, e1⟩)]; exact e2, e3, e4.mono s2⟩
    · obtain ⟨k1, k2⟩ := a.ex.keep b u hb fb nm
      exact ⟨k1, by rw [upd_ne (fun z => by rw [z, h3] at hb; cases hb)]; exact k2⟩

inductive Rs (α : Type) where
  | ok (a : α) | exc (c : Str) (fs : List (Str × D)) | no
def Rs.bind {α β : Type} (r : Rs α) (f : α → Rs β) : Rs β := match r with
  | .ok a => f a
  | .exc c fs => .exc c fs
  | .no => .no
@[simp] theorem Rs.bind_ok {α β : Type} (a : α) (f : α → Rs β) : (Rs.ok a).bind f = f a := rfl
@[simp] theorem Rs.bind_exc {α β : Type} (c : Str) (fs : List (Str × D)) (f : α → Rs β) : (Rs.exc c fs : Rs α).bind f = .exc c fs := rfl
@[simp] theorem Rs.bind_no {α β : Type} (f : α → Rs β) : (Rs.no : Rs α).bind f = .no := rfl
def Rs.of {α : Type} : Option α → Rs α
  | some a => .ok a
  | none => .no
@[simp] theorem Rs.of_some {α : Type} (a : α) : Rs.of (some a) = .ok a := rfl
@[simp] theorem Rs.of_none {α : Type} : Rs.of (none : Option α) = .no := rfl

/-- what is fixed: the written part, the wish for exceptions, the classes' places -/
structure Pm where
  K : PySem.W.Frag
  E : St → XK
  cls : Str → Addr
/-- an exception made: its fields in its own dict at d -/
def XRep (K : PySem.W.Frag) (F H : Hp) (d : Addr) (fs : List (Str × D)) : Prop := ∃ vs : List (Str × V), H d = some (.xd vs) ∧ vs.map (·.1) = fs.map (·.1) ∧ RepL K F (vs.map (·.2)) (fs.map (·.2))
def GX (m : Pm) (F H : Hp) (σ : St) (δ : Dv) (c : Str) (fs : List (Str × D)) : Prop :=
  ∀ d F' H', H d = none → Same F' H' → Ext F H (Md false σ δ) F' H' → XRep m.K F' H' d fs → m.E σ (.ref (m.cls c)) (some d) H'
theorem GX.step {m : Pm} {q : Bool} {F H F1 H1 : Hp} {σ : St} {δ δ1 : Dv} {c : Str} {fs : List (Str × D)} (g : GX m F H σ δ c fs) (s : Step m.K q F H σ δ F1 H1 δ1) : GX m F1 H1 σ δ1 c fs :=
  fun d F' H' h0 h1 h2 h3 => g d F' H' (s.ex.dom d h0) h1 (s.wk.ex.trans h2 fun p z => .inl ⟨rfl, s.at z.2⟩) h3

abbrev XF := Dv → Rs (EV × Dv)
abbrev VF := Dv → Rs (D × Dv)
abbrev LF := Dv → Rs (List D × Dv)
def Gd (m : Pm) (q : Bool) (F H : Hp) (σ : St) (δ : Dv) {α : Type} (r : Rs (α × Dv)) (P : α → Hp → Hp → Prop) : Prop := match r with
  | .ok (a, δ') => ∀ F' H', Step m.K q F H σ δ F' H' δ' → P a F' H'
  | .exc c fs => GX m F H σ δ c fs
  | .no => False
def TX (m : Pm) (q : Bool) (f : XF) : TE := fun σ H Q => ∃ F δ, Stt m.K F σ δ H ∧ Gd m q F H σ δ (f δ) fun z F' H' => ∀ v, RepZ m.K F' H' H v z → Q v H'
def TV (m : Pm) (q : Bool) (f : VF) : TE := fun σ H Q => ∃ F δ, Stt m.K F σ δ H ∧ Gd m q F H σ δ (f δ) fun z F' H' => ∀ v, RepD m.K F' v z → Q v H'
/-- a look: what it gives may be an own object as it stands, read at once -/
def TW (m : Pm) (q : Bool) (f : VF) : TE := fun σ H Q => ∃ F δ, Stt m.K F σ δ H ∧ Gd m q F H σ δ (f δ) fun z F' H' => ∀ v, RepD m.K H' v z → Q v H'
def TL (m : Pm) (q : Bool) (f : LF) : TA := fun σ H Q => ∃ F δ, Stt m.K F σ δ H ∧ Gd m q F H σ δ (f δ) fun z F' H' => ∀ vs, RepL m.K F' vs z → Q vs H'
def PX (X : Cx) (m : Pm) (e : Expr) (q : Bool) (f : XF) : Prop := PE X e (TX m q f)
def PV (X : Cx) (m : Pm) (e : Expr) (q : Bool) (f : VF) : Prop := PE X e (TV m q f)
def PLk (X : Cx) (m : Pm) (e : Expr) (q : Bool) (f : VF) : Prop := PE X e (TW m q f)
def PL (X : Cx) (m : Pm) (es : List Expr) (q : Bool) (f : LF) : Prop := PA X es (TL m q f)

theorem pe_imp {X : Cx} {e : Expr} {t t' : TE} (h : PE X e t) (i : ∀ σ H Q, t' σ H Q → t σ H Q) : PE X e t' := ⟨fun pins s σ H Q I z => h.run pins s σ H Q I (i σ H Q z)⟩
theorem pa_imp {X : Cx} {es : List Expr} {t t' : TA} (h : PA X es t) (i : ∀ σ H Q, t' σ H Q → t σ H Q) : PA X es t' := ⟨fun pos pins s σ H Q I z => h.run pos pins s σ H Q I (i σ H Q z)⟩
theorem pt_imp {X : Cx} {e : Expr} {t t' : TT} (h : PT X e t) (i : ∀ σ H Q, t' σ H Q → t σ H Q) : PT X e t' := ⟨fun pins s σ H Q I z => h.run pins s σ H Q I (i σ H Q z)⟩
theorem ps_imp {X : Cx} {e : Stmt} {t t' : TS} (h : PS X e t) (i : ∀ D σ H, t' D σ H → t D σ H) : PS X e t' := ⟨fun pins s σ H D I z => h.run pins s σ H D I (i D σ H z)⟩
theorem pss_imp {X : Cx} {e : List Stmt} {t t' : TS} (h : PSs X e t) (i : ∀ D σ H, t' D σ H → t D σ H) : PSs X e t' := ⟨fun pins s σ H D I z => h.run pins s σ H D I (i D σ H z)⟩

/-- G goes on behind a step -/
theorem Gd.step {m : Pm} {q q' : Bool} {F H F1 H1 : Hp} {σ : St} {δ δ1 : Dv} {α : Type} {r : Rs (α × Dv)} {P : α → Hp → Hp → Prop} (g : Gd m (q && q') F H σ δ r P) (s : Step m.K q F H σ δ F1 H1 δ1) : Gd m q' F1 H1 σ δ1 r P := by
  cases r with
  | ok a => exact fun F' H' s' => g F' H' (s.trans s')
  | exc c fs => exact GX.step (show GX m F H σ δ c fs from g) s
  | no => exact g
theorem Gd.imp {m : Pm} {q : Bool} {F H : Hp} {σ : St} {δ : Dv} {α : Type} {r : Rs (α × Dv)} {P P' : α → Hp → Hp → Prop} (g : Gd m q F H σ δ r P) (h : ∀ a δ' F' H', Step m.K q F H σ δ F' H' δ' → P a F' H' → P' a F' H') : Gd m q F H σ δ r P' := by
  cases r with
  | ok a => exact fun F' H' s' => h _ _ F' H' s' (g F' H' s')
  | exc c fs => exact g
  | no => exact g
/-- the first part of a bind -/
theorem Gd.first {m : Pm} {q q' : Bool} {F H : Hp} {σ : St} {δ : Dv} {α β : Type} {r : Rs (α × Dv)} {f : α × Dv → Rs (β × Dv)} {P : β → Hp → Hp → Prop} {P1 : α → Hp → Hp → Prop} (g : Gd m (q && q') F H σ δ (r.bind f) P)
    (h : ∀ a δ1 F1 H1, r = .ok (a, δ1) → Gd m (q && q') F H σ δ (f (a, δ1)) P → Step m.K q F H σ δ F1 H1 δ1 → P1 a F1 H1) : Gd m q F H σ δ r P1 := by
  cases r with
  | ok a => exact fun F' H' s' => h _ _ F' H' rfl g s'
  | exc c fs => exact g
  | no => exact g

/-- frozen -/
def fD (f : XF) : VF := fun δ => (f δ).bind fun z => .ok (z.1.toD, z.2)
def fX (f : VF) : XF := fun δ => (f δ).bind fun z => .ok (.d z.1, z.2)
section
variable {X : Cx} {m : Pm} {e : Expr} {q : Bool}
theorem pv_of {f : XF} (h : PX X m e q f) : PV X m e q (fD f) := by
  refine pe_imp h fun σ H Q => ?_
  rintro ⟨F, δ, s, g⟩
  refine ⟨F, δ, s, ?_⟩
  unfold fD at g
  cases hr : f δ with
  | ok a =>
    rw [hr] at g
    intro F' H' st v rz
    obtain ⟨F2, st2, rd⟩ := st.freeze s rz
    exact g F2 H' st2 v rd
  | exc c fs => rw [hr] at g; exact g
  | no => rw [hr] at g; exact g
theorem px_of {f : VF} (h : PV X m e q f) : PX X m e q (fX f) := by
  refine pe_imp h fun σ H Q => ?_
  rintro ⟨F, δ, s, g⟩
  refine ⟨F, δ, s, ?_⟩
  unfold fX at g
  cases hr : f δ with
  | ok a =>
    rw [hr] at g
    intro F' H' st v rd
    exact g F' H' st v (.d rd)
  | exc c fs => rw [hr] at g; exact g
  | no => rw [hr] at g; exact g
theorem pw_of {f : VF} (h : PV X m e q f) : PLk X m e q f := by
  refine pe_imp h fun σ H Q => ?_
  rintro ⟨F, δ, s, g⟩
  exact ⟨F, δ, s, g.imp fun a δ' F' H' st p v rd => p v (rd.mono st.st.sub)⟩
end

/-! ### operations by values -/
structure Alo (F H F' H' : Hp) : Prop where
  fr : Same F F'
  hh : Same H H'
  sub : Same F' H'
  nw : ∀ a o, F' a = some o → F a = some o ∨ H a = none
theorem Alo.refl {F H : Hp} (s : Same F H) : Alo F H F H := ⟨.refl _, .refl _, s, fun _ _ e => .inl e⟩
theorem Alo.step {K : PySem.W.Frag} {q : Bool} {F H F' H' : Hp} {σ : St} {δ : Dv} (a : Alo F H F' H') (s : Stt K F σ δ H) : Step K q F H σ δ F' H' δ := by
  have fn : ∀ p ho, H p = some ho → F p = none → F' p = none := fun p ho h f => by
    cases e : F' p with
    | none => rfl
    | some u =>
      rcases a.nw p u e with z | z
      · rw [f] at z; cases z
      · rw [h] at z; cases z
  refine Step.wk2 ⟨⟨a.sub, s.len, fun i x e => ?_, fun i o e => ?_, s.ne⟩, ⟨a.fr, fun p o h f _ => ⟨a.hh p o h, fn p o h f⟩, fun p h => ?_⟩, fun i o h => ⟨o, h⟩⟩
  · obtain ⟨v, e1, r⟩ := s.dd i x e
    exact ⟨v, e1, r.mono a.fr⟩
  · obtain ⟨p, ho, e1, e2, e3, r⟩ := s.ow i o e
    exact ⟨p, ho, e1, fn p ho e3 e2, a.hh p ho e3, r.mono a.fr⟩
  · cases e : H p with
    | none => rfl
    | some u => rw [a.hh p u e] at h; cases h
/-- a new frozen object -/
theorem Alo.new {F H : Hp} {p : Addr} {o : HO} (s : Same F H) (h : H p = none) : Alo F H (upd F p o) (upd H p o) := by
  have f : F p = none := s.free h
  have hs : ∀ {G : Hp}, G p = none → Same G (upd G p o) := fun hn b u e => by rw [upd_ne (ne_of_none e hn)]; exact e
  refine ⟨hs f, hs h, fun b u e => ?_, fun b u e => ?_⟩
  · by_cases z : b = p
    · subst z; rw [upd_same] at e ⊢; exact e
    · rw [upd_ne z] at e ⊢; exact s b u e
  · by_cases z : b = p
    · subst z; exact .inr h
    · rw [upd_ne z] at e; exact .inl e
/-- a new own object -/
theorem Alo.own {F H : Hp} {p : Addr} {o : HO} (s : Same F H) (h : H p = none) : Alo F H F (upd H p o) := by
  have hs : Same H (upd H p o) := fun b u e => by rw [upd_ne (ne_of_none e h)]; exact e
  exact ⟨.refl _, hs, s.trans hs, fun b u e => .inl e⟩
theorem rz_own {K : PySem.W.Frag} {F H : Hp} {p : Addr} {ho : HO} {o : Ob} (s : Same F H) (h : H p = none) (r : RepO K F ho o) : RepZ K F (upd H p ho) H (.ref p) (.own o) := .own (s.free h) upd_same r h

def Sm2 (K : PySem.W.Frag) (r : R2) (g : D → D → Option EV) : Prop := ∀ F H x y d e z Q, Same F H → RepD K F x d → RepD K F y e → g d e = some z →
  (∀ v F' H', Alo F H F' H' → RepZ K F' H' H v z → Q v H') → r x y H Q
def Sm1 (K : PySem.W.Frag) (r : V → Hp → VK → Prop) (g : D → Option EV) : Prop := ∀ F H x d z Q, Same F H → RepD K F x d → g d = some z →
  (∀ v F' H', Alo F H F' H' → RepZ K F' H' H v z → Q v H') → r x H Q
def SmN (K : PySem.W.Frag) (r : List V → Hp → VK → Prop) (g : List D → Option EV) : Prop := ∀ F H xs ds z Q, Same F H → RepL K F xs ds → g ds = some z →
  (∀ v F' H', Alo F H F' H' → RepZ K F' H' H v z → Q v H') → r xs H Q

def f2 (g : D → D → Option EV) (fa fb : VF) : XF := fun δ => (fa δ).bind fun a => (fb a.2).bind fun b => (Rs.of (g a.1 b.1)).bind fun z => .ok (z, b.2)
def f1 (g : D → Option EV) (fa : VF) : XF := fun δ => (fa δ).bind fun a => (Rs.of (g a.1)).bind fun z => .ok (z, a.2)
def fN (g : List D → Option EV) (fa : LF) : XF := fun δ => (fa δ).bind fun a => (Rs.of (g a.1)).bind fun z => .ok (z, a.2)

section
variable {X : Cx} {m : Pm} {e a b : Expr} {q q' : Bool} {pos : Pos}
theorem RepZ.fresh {K : PySem.W.Frag} {F' H' H H0 : Hp} {v : V} {z : EV} (r : RepZ K F' H' H v z) (h : ∀ p, H p = none → H0 p = none) : RepZ K F' H' H0 v z := by
  cases r with
  | d r => exact .d r
  | own h1 h2 h3 h4 => exact .own h1 h2 h3 (h _ h4)
/-- the last step of an operation: its value, told -/
theorem last1 {F H F1 H1 : Hp} {σ : St} {δ δ1 : Dv} {r : Option EV} {Q : VK} (g : Gd m (q && true) F H σ δ ((Rs.of r).bind fun z => .ok (z, δ1)) fun z F' H' => ∀ v, RepZ m.K F' H' H v z → Q v H') (s1 : Step m.K q F H σ δ F1 H1 δ1) :
    ∃ z, r = some z ∧ ∀ v F' H', Alo F1 H1 F' H' → RepZ m.K F' H' H1 v z → Q v H' := by
  cases r with
  | none => exact False.elim g
  | some z =>
    refine ⟨z, rfl, fun v F' H' al rz => ?_⟩
    exact g F' H' (s1.trans (al.step (q := true) s1.st)) v (rz.fresh s1.ex.dom)
theorem two {r : R2} {g : D → D → Option EV} {fa fb : VF} (sm : Sm2 m.K r g) (σ : St) (H : Hp) (Q : VK) (h : TX m (q && q') (f2 g fa fb) σ H Q) : TV m q fa σ H fun x H1 => TV m q' fb σ H1 fun y H2 => r x y H2 Q := by
  obtain ⟨F, δ, s, h⟩ := h
  refine ⟨F, δ, s, Gd.first (q' := q') h fun d δ1 F1 H1 e1 g1 s1 x rx => ?_⟩
  refine ⟨F1, δ1, s1.st, ?_⟩
  cases hb : fb δ1 with
  | exc c fs => dsimp only at g1; rw [hb] at g1; exact GX.step (show GX m F H σ δ c fs from g1) s1
  | no => dsimp only at g1; rw [hb] at g1; exact g1
  | ok bb =>
    obtain ⟨y1, δ2⟩ := bb
    dsimp only at g1
    rw [hb] at g1
    intro F2 H2 s2 y ry
    have s12 := s1.trans s2
    obtain ⟨z, ez, k⟩ := last1 (q := q && q') (by rw [Bool.and_true]; exact g1) s12
    exact sm F2 H2 x y d y1 z Q s2.st.sub (rx.mono s2.ex.fr) ry ez k
theorem one {r : V → Hp → VK → Prop} {g : D → Option EV} {fa : VF} (sm : Sm1 m.K r g) (σ : St) (H : Hp) (Q : VK) (h : TX m q (f1 g fa) σ H Q) : TV m q fa σ H fun x H1 => r x H1 Q := by
  obtain ⟨F, δ, s, h⟩ := h
  refine ⟨F, δ, s, Gd.first (q' := true) (by rw [Bool.and_true]; exact h) fun d δ1 F1 H1 e1 g1 s1 x rx => ?_⟩
  obtain ⟨z, ez, k⟩ := last1 g1 s1
  exact sm F1 H1 x d z Q s1.st.sub rx ez k
/-- one, by a look -/
theorem oneW {r : V → Hp → VK → Prop} {g : D → Option EV} {fa : VF} (sm : Sm1 m.K r g) (σ : St) (H : Hp) (Q : VK) (hz : ∀ d z, g d = some z → ∃ x, z = .d x ∧ ∀ F v, RepD m.K F v x → ∀ F', RepD m.K F' v x) (h : TX m q (f1 g fa) σ H Q) : TW m q fa σ H fun x H1 => r x H1 Q := by
  obtain ⟨F, δ, s, h⟩ := h
  refine ⟨F, δ, s, Gd.first (q' := true) (by rw [Bool.and_true]; exact h) fun d δ1 F1 H1 e1 g1 s1 x rx => ?_⟩
  obtain ⟨z, ez, k⟩ := last1 g1 s1
  refine sm H1 H1 x d z Q (.refl _) rx ez fun v F' H' al rz => ?_
  obtain ⟨y, rfl, hy⟩ := hz d z ez
  cases rz with
  | d ry =>
    refine k v F1 H' ⟨.refl _, al.hh, s1.st.sub.trans al.hh, fun _ _ e => .inl e⟩ (.d (hy _ _ ry _))
theorem many {r : List V → Hp → VK → Prop} {g : List D → Option EV} {fa : LF} (sm : SmN m.K r g) (σ : St) (H : Hp) (Q : VK) (h : TX m q (fN g fa) σ H Q) : TL m q fa σ H fun x H1 => r x H1 Q := by
  obtain ⟨F, δ, s, h⟩ := h
  refine ⟨F, δ, s, Gd.first (q' := true) (by rw [Bool.and_true]; exact h) fun d δ1 F1 H1 e1 g1 s1 x rx => ?_⟩
  obtain ⟨z, ez, k⟩ := last1 g1 s1
  exact sm F1 H1 x d z Q s1.st.sub rx ez k
theorem px_op {op : Operator} {r : R2} {g : D → D → Option EV} {fa fb : VF} (ho : OpR X (binaryOp op) r) (sm : Sm2 m.K r g) (ha : PV X m a q fa) (hb : PV X m b q' fb) : PX X m (.BinOp a op b pos) (q && q') (f2 g fa fb) :=
  pe_imp (pe_op ho ha hb) (two sm)
end
end FD
end
section
set_option Elab.async false
set_option linter.all false
set_option maxRecDepth 100000
/-! FD1: leaves, displays, tests, statements. -/
namespace FD
open PySem L2

/-! ### leaves -/
section
variable {X : Cx} {m : Pm} {e a b : Expr} {q q' : Bool} {pos : Pos}
def fC (x : D) : VF := fun δ => .ok (x, δ)
theorem pv_c {v : V} {x : D} (h : PE X e (tC v)) (r : ∀ F, RepD m.K F v x) : PV X m e true (fC x) := pe_imp h fun σ H Q => by
  rintro ⟨F, δ, s, g⟩
  exact g F H (.refl s) v (r F)
theorem pv_int {i : Int} {j : Nat} : PV X m (.Constant (.int i) j pos) true (fC (.int i)) := pv_c pe_int fun _ => .int i
theorem pv_bl {i : Bool} {j : Nat} : PV X m (.Constant (.bool i) j pos) true (fC (.bl i)) := pv_c pe_bl fun _ => .bl i
theorem pv_non {j : Nat} : PV X m (.Constant .none j pos) true (fC .non) := pv_c pe_non fun _ => .non
theorem pv_str {x : Str} {j : Nat} : PV X m (.Constant (.str x) j pos) true (fC (.str x)) := pv_c pe_str fun _ => .str x
/-- a name of data -/
def fV (i : Nat) : VF := fun δ => match δ[i]? with
  | some (.d x) => .ok (x, δ)
  | _ => .no
theorem pv_v {i : Nat} (h : PE X e (tVar i)) : PV X m e true (fV i) := pe_imp h fun σ H Q => by
  rintro ⟨F, δ, s, g⟩
  unfold fV at g
  split at g
  · rename_i x hx
    obtain ⟨v, e1, r⟩ := s.dd i x hx
    exact ⟨v, e1, g F H (.refl s) v r⟩
  · exact g.elim
/-- a name whose own object is let go -/
def fVF (i : Nat) : VF := fun δ => match δ[i]? with
  | some (.d x) => .ok (x, δ)
  | some (.own o) => .ok (o.toD, δ.set i (.d o.toD))
  | _ => .no
theorem thaw {K : PySem.W.Frag} {F H : Hp} {σ : St} {δ : Dv} {i : Nat} {o : Ob} (s : Stt K F σ δ H) (h : δ[i]? = some (.own o)) :
    ∃ p F', σ[i]? = some (some (.ref p)) ∧ Step K false F H σ δ F' H (δ.set i (.d o.toD)) ∧ RepD K F' (.ref p) o.toD := by
  obtain ⟨p, ho, e1, e2, e3, r⟩ := s.ow i o h
  have hi : i < δ.length := (List.getElem?_eq_some_iff.mp h).1
  have s2 : Same F (upd F p ho) := fun b u e => by rw [upd_ne (ne_of_none e e2)]; exact e
  have rr : RepD K (upd F p ho) (.ref p) o.toD := (r.mono s2).toD upd_same
  refine ⟨p, upd F p ho, e1, ⟨⟨fun b u e => ?_, by rw [List.length_set]; exact s.len, fun j x e => ?_, fun j u e => ?_, fun j k u w b e e' => ?_⟩, ⟨s2, fun b u hb fb nm => ?_, fun _ z => z⟩, fun j u e => ?_⟩, rr⟩
  · by_cases hb : b = p
    · subst hb; rw [upd_same] at e; cases e; exact e3
    · rw [upd_ne hb] at e; exact s.sub b u e
  · by_cases hj : j = i
    · subst hj
      rw [List.getElem?_set_self hi] at e
      injection e with e; injection e with e; subst e
      exact ⟨_, e1, rr⟩
    · rw [List.getElem?_set_ne (Ne.symm hj)] at e
      obtain ⟨v, z1, z2⟩ := s.dd j x e
      exact ⟨v, z1, z2.mono s2⟩
  · by_cases hj : j = i
    · subst hj
      rw [List.getElem?_set_self hi] at e
      injection e with e; cases e
    · rw [List.getElem?_set_ne (Ne.symm hj)] at e
      obtain ⟨b, hb, z1, z2, z3, z4⟩ := s.ow j u e
      refine ⟨b, hb, z1, ?_, z3, z4.mono s2⟩
      rw [upd_ne]
      · exact z2
      · intro z
        subst z
        exact hj (s.ne j i u o b e h z1 e1)
  · by_cases hj : j = i
    · subst hj
      rw [List.getElem?_set_self hi] at e
      injection e with e; cases e
    · by_cases hk : k = i
      · subst hk
        rw [List.getElem?_set_self hi] at e'
        injection e' with e'; cases e'
      · rw [List.getElem?_set_ne (Ne.symm hj)] at e
        rw [List.getElem?_set_ne (Ne.symm hk)] at e'
        exact s.ne j k u w b e e'
  · have z : b ≠ p := fun z => nm ⟨rfl, i, o, h, by rw [z]; exact e1⟩
    exact ⟨hb, by rw [upd_ne z]; exact fb⟩
  · by_cases hj : j = i
    · subst hj
      rw [List.getElem?_set_self hi] at e
      injection e with e; cases e
    · rw [List.getElem?_set_ne (Ne.symm hj)] at e
      exact ⟨u, e⟩
theorem pv_vF {i : Nat} (h : PE X e (tVar i)) : PV X m e false (fVF i) := pe_imp h fun σ H Q => by
  rintro ⟨F, δ, s, g⟩
  unfold fVF at g
  split at g
  · rename_i x hx
    obtain ⟨v, e1, r⟩ := s.dd i x hx
    exact ⟨v, e1, g F H (.refl s) v r⟩
  · rename_i o hx
    obtain ⟨p, F', e1, st, r⟩ := thaw s hx
    exact ⟨_, e1, g F' H st _ r⟩
  · exact g.elim
/-- a look at a name -/
def fVW (i : Nat) : VF := fun δ => match δ[i]? with
  | some (.d x) => .ok (x, δ)
  | some (.own o) => .ok (o.toD, δ)
  | _ => .no
theorem pk_v {i : Nat} (h : PE X e (tVar i)) : PLk X m e true (fVW i) := pe_imp h fun σ H Q => by
  rintro ⟨F, δ, s, g⟩
  unfold fVW at g
  split at g
  · rename_i x hx
    obtain ⟨v, e1, r⟩ := s.dd i x hx
    exact ⟨v, e1, g F H (.refl s) v (r.mono s.sub)⟩
  · rename_i o hx
    obtain ⟨p, ho, e1, e2, e3, r⟩ := s.ow i o hx
    exact ⟨_, e1, g F H (.refl s) _ ((r.mono s.sub).toD e3)⟩
  · exact g.elim

/-! ### argument lists, displays -/
def fNil : LF := fun δ => .ok ([], δ)
def fCons (fa : VF) (fs : LF) : LF := fun δ => (fa δ).bind fun a => (fs a.2).bind fun b => .ok (a.1 :: b.1, b.2)
theorem pl_nil : PL X m [] true fNil := pa_imp pa_nil fun σ H Q => by
  rintro ⟨F, δ, s, g⟩
  exact g F H (.refl s) [] .nil
theorem pl_cons {es : List Expr} {fa : VF} {fs : LF} (ha : PV X m e q fa) (hr : PL X m es q' fs) (hs : starEach (e :: es) X.env = (false, eval e X.env) :: starEach es X.env := by rfl) : PL X m (e :: es) (q && q') (fCons fa fs) := by
  refine pa_imp (pa_cons ha hr hs) fun σ H Q => ?_
  rintro ⟨F, δ, s, h⟩
  refine ⟨F, δ, s, Gd.first (q' := q') h fun d δ1 F1 H1 e1 g1 s1 x rx => ?_⟩
  refine ⟨F1, δ1, s1.st, ?_⟩
  cases hb : fs δ1 with
  | exc c fs' => dsimp only at g1; rw [hb] at g1; exact GX.step (show GX m F H σ δ c fs' from g1) s1
  | no => dsimp only at g1; rw [hb] at g1; exact g1
  | ok bb =>
    dsimp only at g1
    rw [hb] at g1
    intro F2 H2 s2 ys ry
    exact g1 F2 H2 (s1.trans s2) _ (.cons (rx.mono s2.ex.fr) ry)
def vTup (l : List D) : Option EV := if l.length ≤ 1000 then some (.d (.tup l)) else none
def vLst (l : List D) : Option EV := if l.length ≤ 1000 then some (.own (.lst l)) else none
theorem line_ge : 1000 ≤ sizeLine := by rw [sizeLine_eq]; decide
theorem sm_tup {K : PySem.W.Frag} : SmN K (fun xs H Q => xs.length ≤ sizeLine ∧ ∀ p, H p = none → Q (.ref p) (upd H p (.tup xs))) vTup := by
  intro F H xs ds z Q s r e k
  unfold vTup at e
  split at e
  · rename_i hl
    cases e
    refine ⟨by rw [r.length]; exact Nat.le_trans hl line_ge, fun p hp => ?_⟩
    have al := Alo.new (o := .tup xs) s hp
    exact k _ _ _ al (.d (.tup (SqT.of upd_same) (r.mono al.fr)))
  · cases e
theorem sm_lst {K : PySem.W.Frag} : SmN K (fun xs H Q => xs.length ≤ sizeLine ∧ ∀ p, H p = none → Q (.ref p) (upd H p (.lst xs))) vLst := by
  intro F H xs ds z Q s r e k
  unfold vLst at e
  split at e
  · rename_i hl
    cases e
    refine ⟨by rw [r.length]; exact Nat.le_trans hl line_ge, fun p hp => ?_⟩
    exact k _ _ _ (.own s hp) (rz_own s hp (.lst r))
  · cases e
theorem px_tup {es : List Expr} {fs : LF} {j : Nat} (h : PL X m es q fs) : PX X m (.Tuple es j pos) q (fN vTup fs) := pe_imp (pe_tup h) (many sm_tup)
theorem px_lst {es : List Expr} {fs : LF} (h : PL X m es q fs) : PX X m (.List es pos) q (fN vLst fs) := pe_imp (pe_lst h) (many sm_lst)

/-! ### comparisons, tests -/
theorem px_cmp {op : CmpOp} {r : R2} {g : D → D → Option EV} {fa fb : VF} (ho : OpR X (compareOp op) r) (sm : Sm2 m.K r g) (ha : PV X m a q fa) (hb : PV X m b q' fb) (hm : behindInMarks op b = false) : PX X m (.Compare a [op] [b] pos) (q && q') (f2 g fa fb) :=
  pe_imp (pe_cmpR ho ha hb hm) (two sm)
abbrev BF := Dv → Rs (Bool × Dv)
def TB (m : Pm) (q : Bool) (f : BF) : TT := fun σ H Q => ∃ F δ, Stt m.K F σ δ H ∧ Gd m q F H σ δ (f δ) fun b _ H' => Q b H'
def PB (X : Cx) (m : Pm) (e : Expr) (q : Bool) (f : BF) : Prop := PT X e (TB m q f)
def fB (f : XF) : BF := fun δ => (f δ).bind fun a => match a.1 with
  | .d (.bl b) => .ok (b, a.2)
  | _ => .no
theorem tb_tx {f : XF} (σ : St) (H : Hp) (Q : Bool → Hp → Prop) (h : TB m q (fB f) σ H Q) : TX m q f σ H fun x H1 => ∃ k, x = .bl k ∧ Q k H1 := by
  obtain ⟨F, δ, s, h⟩ := h
  refine ⟨F, δ, s, Gd.first (q' := true) (by rw [Bool.and_true]; exact h) fun z δ1 F1 H1 e1 g1 s1 v rz => ?_⟩
  dsimp only at g1
  split at g1
  · rename_i b
    cases rz with
    | d r =>
      cases r
      exact ⟨b, rfl, g1 F1 H1 (by rw [Bool.and_true]; exact s1)⟩
  · exact g1.elim
theorem pb_val {f : XF} (h : PX X m e q f) (he : ∀ whole, isTrue e X.env whole = (do let v ← whole; standAt e.pos; holding [v] (truthy v)) := by intro _; rfl) : PB X m e q (fB f) := pt_imp (pt_val h he) tb_tx
theorem pb_cmp {op : CmpOp} {r : R2} {g : D → D → Option EV} {fa fb : VF} (ho : OpR X (compareOp op) r) (sm : Sm2 m.K r g) (ha : PV X m a q fa) (hb : PV X m b q' fb) (hm : behindInMarks op b = false) : PB X m (.Compare a [op] [b] pos) (q && q') (fB (f2 g fa fb)) :=
  pt_imp (pt_cmpR ho ha hb hm) fun σ H Q h => two sm σ H _ (tb_tx σ H Q h)
def fNotB (f : BF) : BF := fun δ => (f δ).bind fun a => .ok (!a.1, a.2)
theorem pb_not {f : BF} (h : PB X m a q f) : PB X m (.UnaryOp .Not a pos) q (fNotB f) := pt_imp (pt_not h) fun σ H Q => by
  rintro ⟨F, δ, s, h⟩
  refine ⟨F, δ, s, Gd.first (q' := true) (by rw [Bool.and_true]; exact h) fun b δ1 F1 H1 e1 g1 s1 => ?_⟩
  exact g1 F1 H1 (by rw [Bool.and_true]; exact s1)
def fAndB (f g : BF) : BF := fun δ => (f δ).bind fun a => if a.1 = true then g a.2 else .ok (false, a.2)
def fOrB (f g : BF) : BF := fun δ => (f δ).bind fun a => if a.1 = true then .ok (true, a.2) else g a.2
def PBw (X : Cx) (m : Pm) (e : Expr) (q : Bool) (f : BF) : Prop := L2.PW X e (TB m q f)
theorem pb_w {f : BF} (h : PBw X m e q f) : PB X m e q f := PW.pt h
theorem pw_imp {t t' : TT} (h : L2.PW X e t) (i : ∀ σ H Q, t' σ H Q → t σ H Q) : L2.PW X e t' := ⟨fun wh pins s σ H Q I z => h.run wh pins s σ H Q I (i σ H Q z)⟩
theorem pb_and1 {f : BF} (h : PB X m a q f) : PBw X m (.BoolOp .And [a] pos) q f := pw_and1 h
theorem pb_or1 {f : BF} (h : PB X m a q f) : PBw X m (.BoolOp .Or [a] pos) q f := pw_or1 h
theorem pb_and {f g : BF} {rest : List Expr} (ha : PB X m a q f) (hb : PBw X m (.BoolOp .And (b :: rest) pos) q' g) : PBw X m (.BoolOp .And (a :: b :: rest) pos) (q && q') (fAndB f g) := by
  refine pw_imp (pw_and ha hb) fun σ H Q => ?_
  rintro ⟨F, δ, s, h⟩
  refine ⟨F, δ, s, Gd.first (q' := q') h fun c δ1 F1 H1 e1 g1 s1 => ?_⟩
  dsimp only at g1
  cases c with
  | true => exact ⟨F1, δ1, s1.st, Gd.step (q := q) (q' := q') g1 s1⟩
  | false => exact g1 F1 H1 (by have := s1.trans (Step.refl (q := q') s1.st); exact this)
theorem pb_or {f g : BF} {rest : List Expr} (ha : PB X m a q f) (hb : PBw X m (.BoolOp .Or (b :: rest) pos) q' g) : PBw X m (.BoolOp .Or (a :: b :: rest) pos) (q && q') (fOrB f g) := by
  refine pw_imp (pw_or ha hb) fun σ H Q => ?_
  rintro ⟨F, δ, s, h⟩
  refine ⟨F, δ, s, Gd.first (q' := q') h fun c δ1 F1 H1 e1 g1 s1 => ?_⟩
  dsimp only at g1
  cases c with
  | false => exact ⟨F1, δ1, s1.st, Gd.step (q := q) (q' := q') g1 s1⟩
  | true => exact g1 F1 H1 (by have := s1.trans (Step.refl (q := q') s1.st); exact this)
/-! .. as values -/
def fAnd (f g : VF) : VF := fun δ => (f δ).bind fun a => match a.1 with
  | .bl true => g a.2
  | .bl false => .ok (.bl false, a.2)
  | _ => .no
def fOr (f g : VF) : VF := fun δ => (f δ).bind fun a => match a.1 with
  | .bl true => .ok (.bl true, a.2)
  | .bl false => g a.2
  | _ => .no
theorem pv_one {f : VF} {op : BoolOp} (h : PV X m a q f) : PV X m (.BoolOp op [a] pos) q f := pe_one h
theorem pv_and {f g : VF} {rest : List Expr} (ha : PV X m a q f) (hb : PV X m (.BoolOp .And (b :: rest) pos) q' g) : PV X m (.BoolOp .And (a :: b :: rest) pos) (q && q') (fAnd f g) := by
  refine pe_imp (pe_and ha hb) fun σ H Q => ?_
  rintro ⟨F, δ, s, h⟩
  refine ⟨F, δ, s, Gd.first (q' := q') h fun c δ1 F1 H1 e1 g1 s1 v rv => ?_⟩
  dsimp only at g1
  cases rv with
  | bl c =>
    cases c with
    | true => exact ⟨true, rfl, F1, δ1, s1.st, Gd.step (q := q) (q' := q') g1 s1⟩
    | false => exact ⟨false, rfl, g1 F1 H1 (by have := s1.trans (Step.refl (q := q') s1.st); exact this) _ (.bl false)⟩
  | _ => exact g1.elim
theorem pv_or {f g : VF} {rest : List Expr} (ha : PV X m a q f) (hb : PV X m (.BoolOp .Or (b :: rest) pos) q' g) : PV X m (.BoolOp .Or (a :: b :: rest) pos) (q && q') (fOr f g) := by
  refine pe_imp (pe_or ha hb) fun σ H Q => ?_
  rintro ⟨F, δ, s, h⟩
  refine ⟨F, δ, s, Gd.first (q' := q') h fun c δ1 F1 H1 e1 g1 s1 v rv => ?_⟩
  dsimp only at g1
  cases rv with
  | bl c =>
    cases c with
    | false => exact ⟨false, rfl, F1, δ1, s1.st, Gd.step (q := q) (q' := q') g1 s1⟩
    | true => exact ⟨true, rfl, g1 F1 H1 (by have := s1.trans (Step.refl (q := q') s1.st); exact this) _ (.bl true)⟩
  | _ => exact g1.elim
def vNot : D → Option EV
  | .bl b => some (.d (.bl (!b)))
  | _ => none
theorem pv_not {f : VF} (h : PV X m a q f) : PX X m (.UnaryOp .Not a pos) q (f1 vNot f) := pe_imp (pe_not h) (one (r := fun x H Q => ∃ c, x = .bl c ∧ Q (.bl (!c)) H) fun F H x d z Q s r e k => by
  cases r with
  | bl b => cases e; exact ⟨b, rfl, k _ _ _ (.refl s) (.d (.bl _))⟩
  | _ => cases e)
def fIf (c : BF) (f g : XF) : XF := fun δ => (c δ).bind fun a => if a.1 = true then f a.2 else g a.2
theorem Step.wkl {K : PySem.W.Frag} {F H F1 H1 : Hp} {σ : St} {δ δ1 : Dv} (a : Step K (q && q') F H σ δ F1 H1 δ1) : Step K q' F H σ δ F1 H1 δ1 → True := fun _ => trivial
theorem RepZ.at {K : PySem.W.Frag} {F' H' H H0 : Hp} {v : V} {z : EV} (r : RepZ K F' H' H v z) (h : ∀ p, H p = none → H0 p = none) : RepZ K F' H' H0 v z := r.fresh h
theorem px_if {c : Expr} {fc : BF} {f g : XF} (hc : PB X m c q fc) (ha : PX X m a q' f) (hb : PX X m b q' g) : PX X m (.IfExp c a b pos) (q && q') (fIf fc f g) := by
  refine pe_imp (pe_ifExp hc ha hb) fun σ H Q => ?_
  rintro ⟨F, δ, s, h⟩
  refine ⟨F, δ, s, Gd.first (q' := q') h fun k δ1 F1 H1 e1 g1 s1 => ?_⟩
  dsimp only at g1
  cases k with
  | true =>
    rw [if_pos rfl] at g1
    exact ⟨F1, δ1, s1.st, (Gd.step (q := q) (q' := q') g1 s1).imp fun z δ2 F2 H2 s2 p v rz => p v (rz.fresh s1.ex.dom)⟩
  | false =>
    rw [if_neg Bool.false_ne_true] at g1
    exact ⟨F1, δ1, s1.st, (Gd.step (q := q) (q' := q') g1 s1).imp fun z δ2 F2 H2 s2 p v rz => p v (rz.fresh s1.ex.dom)⟩
/-- quiet is loud too -/
theorem px_wk {f : XF} (h : PX X m e q f) : PX X m e false f := pe_imp h fun σ H Q => by
  rintro ⟨F, δ, s, g⟩
  refine ⟨F, δ, s, ?_⟩
  cases hr : f δ with
  | ok a => rw [hr] at g; exact fun F' H' st => g F' H' st.wk
  | exc c fs => rw [hr] at g; exact g
  | no => rw [hr] at g; exact g
theorem pv_wk {f : VF} (h : PV X m e q f) : PV X m e false f := pe_imp h fun σ H Q => by
  rintro ⟨F, δ, s, g⟩
  refine ⟨F, δ, s, ?_⟩
  cases hr : f δ with
  | ok a => rw [hr] at g; exact fun F' H' st => g F' H' st.wk
  | exc c fs => rw [hr] at g; exact g
  | no => rw [hr] at g; exact g
/-- a chain -/
def fChain (g g' : D → D → Option EV) (fa fb fc : VF) : VF := fun δ => (fa δ).bind fun x => (fb x.2).bind fun y => (Rs.of (g x.1 y.1)).bind fun k => match k with
  | .d (.bl true) => (fc y.2).bind fun z => (Rs.of (g' y.1 z.1)).bind fun k' => .ok (k'.toD, z.2)
  | .d (.bl false) => .ok (.bl false, y.2)
  | _ => .no
end
end FD
end
section
set_option Elab.async false
set_option linter.all false
set_option maxRecDepth 100000
/-! FD2: statements. -/
namespace FD
open PySem L2

inductive Out where
  | nx (δ : Dv) | rt (z : EV) (δ : Dv) | bk (δ : Dv) | ct (δ : Dv)
abbrev SF := Dv → Rs Out
/-- np: the parameters come first -/
structure SStep (K : PySem.W.Frag) (np : Nat) (F H : Hp) (σ : St) (δ : Dv) (F' H' : Hp) (σ' : St) (δ' : Dv) : Prop where
  st : Stt K F' σ' δ' H'
  ex : Ext F H (OwnAt σ δ) F' H'
  ow : ∀ p, OwnAt σ' δ' p → OwnAt σ δ p ∨ H p = none
  pr : ∀ i, i < np → ∀ o, δ'[i]? = some (.own o) → σ'[i]? = σ[i]? ∧ ∃ u, δ[i]? = some (.own u)
  ln : σ'.length = σ.length
section
variable {K : PySem.W.Frag} {np : Nat} {q : Bool} {F H F1 H1 F2 H2 : Hp} {σ σ1 σ2 : St} {δ δ1 δ2 : Dv}
theorem SStep.refl (s : Stt K F σ δ H) : SStep K np F H σ δ F H σ δ := ⟨s, .refl _ _ _, fun _ h => .inl h, fun _ _ o h => ⟨rfl, o, h⟩, rfl⟩
theorem SStep.trans (a : SStep K np F H σ δ F1 H1 σ1 δ1) (b : SStep K np F1 H1 σ1 δ1 F2 H2 σ2 δ2) : SStep K np F H σ δ F2 H2 σ2 δ2 := by
  refine ⟨b.st, a.ex.trans b.ex a.ow, fun p h => ?_, fun i hi o h => ?_, b.ln.trans a.ln⟩
  · rcases b.ow p h with z | z
    · exact a.ow p z
    · exact .inr (a.ex.dom p z)
  · obtain ⟨e, u, hu⟩ := b.pr i hi o h
    obtain ⟨e', w⟩ := a.pr i hi u hu
    exact ⟨e.trans e', w⟩
theorem Step.s (a : Step K q F H σ δ F1 H1 δ1) : SStep K np F H σ δ F1 H1 σ δ1 := ⟨a.st, a.wk.ex.wk fun _ z => z.2, fun _ h => .inl (a.at h), fun i _ o h => ⟨rfl, a.ow i o h⟩, rfl⟩
end
def GXs (m : Pm) (F H : Hp) (σ : St) (δ : Dv) (c : Str) (fs : List (Str × D)) : Prop := GX m F H σ δ c fs
/-- the wish asks no slot -/
def Flat (m : Pm) : Prop := ∀ σ σ' : St, m.E σ = m.E σ'
theorem GX.sstep {m : Pm} {np : Nat} {F H F1 H1 : Hp} {σ σ1 : St} {δ δ1 : Dv} {c : Str} {fs : List (Str × D)} (hfl : Flat m) (g : GX m F H σ δ c fs) (s : SStep m.K np F H σ δ F1 H1 σ1 δ1) : GX m F1 H1 σ1 δ1 c fs :=
  fun d F' H' h0 h1 h2 h3 => hfl σ σ1 ▸ g d F' H' (s.ex.dom d h0) h1 ((s.ex.wk (M' := Md false σ δ) fun p z => ⟨rfl, z⟩).trans h2 fun p z => (s.ow p z.2).imp (fun w => ⟨rfl, w⟩) id) h3
def GS (m : Pm) (np : Nat) (F H : Hp) (σ : St) (δ : Dv) (r : Rs Out) (Dn : Ends) : Prop := match r with
  | .ok (.nx δ') => ∀ F' H' σ', SStep m.K np F H σ δ F' H' σ' δ' → Dn.nx σ' H'
  | .ok (.rt z δ') => ∀ F' H' σ' v, SStep m.K np F H σ δ F' H' σ' δ' → RepZ m.K F' H' H v z → Dn.rt v H'
  | .ok (.bk δ') => ∀ F' H' σ', SStep m.K np F H σ δ F' H' σ' δ' → Dn.bk σ' H'
  | .ok (.ct δ') => ∀ F' H' σ', SStep m.K np F H σ δ F' H' σ' δ' → Dn.ct σ' H'
  | .exc c fs => GX m F H σ δ c fs
  | .no => False
def TSt (m : Pm) (np : Nat) (g : SF) : TS := fun Dn σ H => ∃ F δ, Stt m.K F σ δ H ∧ GS m np F H σ δ (g δ) Dn
def PSt (X : Cx) (m : Pm) (np : Nat) (st : Stmt) (g : SF) : Prop := PS X st (TSt m np g)
def PSq (X : Cx) (m : Pm) (np : Nat) (st : List Stmt) (g : SF) : Prop := PSs X st (TSt m np g)
theorem GS.step {m : Pm} {np : Nat} {F H F1 H1 : Hp} {σ σ1 : St} {δ δ1 : Dv} {r : Rs Out} {Dn : Ends} (hfl : Flat m) (g : GS m np F H σ δ r Dn) (s : SStep m.K np F H σ δ F1 H1 σ1 δ1) : GS m np F1 H1 σ1 δ1 r Dn := by
  cases r with
  | exc c fs => exact GX.sstep hfl (show GX m F H σ δ c fs from g) s
  | no => exact g
  | ok o =>
    cases o with
    | nx δ' => exact fun F' H' σ' s' => g F' H' σ' (s.trans s')
    | rt z δ' => exact fun F' H' σ' v s' rz => g F' H' σ' v (s.trans s') (rz.fresh s.ex.dom)
    | bk δ' => exact fun F' H' σ' s' => g F' H' σ' (s.trans s')
    | ct δ' => exact fun F' H' σ' s' => g F' H' σ' (s.trans s')
theorem GS.stepE {m : Pm} {np : Nat} {q : Bool} {F H F1 H1 : Hp} {σ : St} {δ δ1 : Dv} {r : Rs Out} {Dn : Ends} (g : GS m np F H σ δ r Dn) (s : Step m.K q F H σ δ F1 H1 δ1) : GS m np F1 H1 σ δ1 r Dn := by
  cases r with
  | exc c fs => exact GX.step (show GX m F H σ δ c fs from g) s
  | no => exact g
  | ok o =>
    cases o with
    | nx δ' => exact fun F' H' σ' s' => g F' H' σ' (s.s.trans s')
    | rt z δ' => exact fun F' H' σ' v s' rz => g F' H' σ' v (s.s.trans s') (rz.fresh s.ex.dom)
    | bk δ' => exact fun F' H' σ' s' => g F' H' σ' (s.s.trans s')
    | ct δ' => exact fun F' H' σ' s' => g F' H' σ' (s.s.trans s')

section
variable {X : Cx} {m : Pm} {np : Nat} {e a b : Expr} {q q' : Bool} {pos : Pos} {st : Stmt} {rest : List Stmt}
def sNil : SF := fun δ => .ok (.nx δ)
def sSeq (g h : SF) : SF := fun δ => (g δ).bind fun o => match o with
  | .nx δ' => h δ'
  | o => .ok o
theorem st_nil : PSq X m np [] sNil := pss_imp pss_nil fun D σ H => by
  rintro ⟨F, δ, s, g⟩
  exact g F H σ (.refl s)
theorem st_cons {g h : SF} (h1 : PSt X m np st g) (h2 : PSq X m np rest h) (hfl : Flat m := by exact fun _ _ => rfl) : PSq X m np (st :: rest) (sSeq g h) := by
  refine pss_imp (pss_cons h1 h2) fun D σ H => ?_
  rintro ⟨F, δ, s, k⟩
  refine ⟨F, δ, s, ?_⟩
  unfold sSeq at k
  cases hr : g δ with
  | exc c fs => rw [hr] at k; exact k
  | no => rw [hr] at k; exact k
  | ok o =>
    rw [hr] at k
    cases o with
    | nx δ' => exact fun F' H' σ' s' => ⟨F', δ', s'.st, GS.step hfl (show GS m np F H σ δ (h δ') D from k) s'⟩
    | rt z δ' => exact k
    | bk δ' => exact k
    | ct δ' => exact k
def sPass : SF := sNil
theorem st_pass : PSt X m np (.Pass pos) sPass := ps_imp ps_pass fun D σ H => by
  rintro ⟨F, δ, s, g⟩
  exact g F H σ (.refl s)
theorem st_break : PSt X m np (.Break pos) (fun δ => .ok (.bk δ)) := ps_imp ps_break fun D σ H => by
  rintro ⟨F, δ, s, g⟩
  exact g F H σ (.refl s)
theorem st_continue : PSt X m np (.Continue pos) (fun δ => .ok (.ct δ)) := ps_imp ps_continue fun D σ H => by
  rintro ⟨F, δ, s, g⟩
  exact g F H σ (.refl s)
def sRet (f : XF) : SF := fun δ => (f δ).bind fun a => .ok (.rt a.1 a.2)
theorem st_ret {f : XF} (h : PX X m e q f) : PSt X m np (.Return (some e) pos) (sRet f) := ps_imp (ps_ret h) fun D σ H => by
  rintro ⟨F, δ, s, g⟩
  refine ⟨F, δ, s, ?_⟩
  unfold sRet at g
  cases hr : f δ with
  | exc c fs => rw [hr] at g; exact g
  | no => rw [hr] at g; exact g
  | ok o => rw [hr] at g; exact fun F' H' s' v rz => g F' H' σ v s'.s rz
theorem st_retN : PSt X m np (.Return none pos) (fun δ => .ok (.rt (.d .non) δ)) := ps_imp ps_retN fun D σ H => by
  rintro ⟨F, δ, s, g⟩
  exact g F H σ _ (.refl s) (.d .non)
def sExpr (f : XF) : SF := fun δ => (f δ).bind fun a => .ok (.nx a.2)
theorem st_expr {f : XF} (h : PX X m e q f) (hs : swapsWith e none pos.line X.env = pure false := by rfl) : PSt X m np (.Expr e pos) (sExpr f) := ps_imp (ps_expr h hs) fun D σ H => by
  rintro ⟨F, δ, s, g⟩
  refine ⟨F, δ, s, ?_⟩
  unfold sExpr at g
  cases hr : f δ with
  | exc c fs => rw [hr] at g; exact g
  | no => rw [hr] at g; exact g
  | ok o => rw [hr] at g; exact fun F' H' s' v rz => g F' H' σ s'.s
def sIf (c : BF) (g h : SF) : SF := fun δ => (c δ).bind fun a => if a.1 = true then g a.2 else h a.2
theorem st_if {c : Expr} {fc : BF} {g h : SF} {xs ys : List Stmt} (hc : PB X m c q fc) (ha : PSq X m np xs g) (hb : PSq X m np ys h) : PSt X m np (.If c xs ys pos) (sIf fc g h) := ps_imp (ps_if hc ha hb) fun D σ H => by
  rintro ⟨F, δ, s, k⟩
  refine ⟨F, δ, s, ?_⟩
  unfold sIf at k
  cases hr : fc δ with
  | exc c fs => rw [hr] at k; exact k
  | no => rw [hr] at k; exact k
  | ok o =>
    rw [hr] at k
    obtain ⟨b, δ1⟩ := o
    intro F' H' s'
    show if b = true then _ else _
    cases b with
    | true => exact ⟨F', δ1, s'.st, GS.stepE (show GS m np F H σ δ (g δ1) D from k) s'⟩
    | false => exact ⟨F', δ1, s'.st, GS.stepE (show GS m np F H σ δ (h δ1) D from k) s'⟩

/-! ### stores -/
def slOf (np i : Nat) (z : EV) : Sl := if i < np then .d z.toD else z.sl
theorem stored {K : PySem.W.Frag} {F H F1 H1 : Hp} {σ : St} {δ δ1 : Dv} {v : V} {z : EV} {i : Nat} (s : Stt K F σ δ H) (a : Step K q F H σ δ F1 H1 δ1) (r : RepZ K F1 H1 H v z) :
    ∃ F2, SStep K np F H σ δ F2 H1 (σ.set i (some v)) (δ1.set i (slOf np i z)) := by
  -- frozen, where it is a parameter's
  have key : ∀ (F2 : Hp) (x : D), Step K q F H σ δ F2 H1 δ1 → RepD K F2 v x → SStep K np F H σ δ F2 H1 (σ.set i (some v)) (δ1.set i (.d x)) := fun F2 x a r => by
    have ne : ∀ (j : Nat) (o : Ob), (δ1.set i (.d x))[j]? = some (.own o) → j ≠ i ∧ δ1[j]? = some (.own o) ∧ (σ.set i (some v))[j]? = σ[j]? := fun j o e => by
      by_cases hj : j = i
      · subst hj
        rw [List.getElem?_set] at e
        simp only [if_true] at e
        split at e <;> cases e
      · rw [List.getElem?_set_ne (Ne.symm hj)] at e
        exact ⟨hj, e, List.getElem?_set_ne (Ne.symm hj)⟩
    refine ⟨⟨a.st.sub, by rw [List.length_set, List.length_set]; exact a.st.len, fun j y e => ?_, fun j o e => ?_, fun j k o u p e e' z z' => ?_⟩, a.wk.ex.wk fun _ z => z.2, fun p h => ?_, fun j hj o e => ?_, by rw [List.length_set]⟩
    · by_cases hj : j = i
      · subst hj
        have hi : j < δ1.length := by
          have := (List.getElem?_eq_some_iff.mp e).1
          rwa [List.length_set] at this
        rw [List.getElem?_set_self hi] at e
        injection e with e; injection e with e; subst e
        exact ⟨v, by rw [List.getElem?_set_self (by rw [a.st.len]; exact hi)], r⟩
      · rw [List.getElem?_set_ne (Ne.symm hj)] at e ⊢
        exact a.st.dd j y e
    · obtain ⟨h1, h2, h3⟩ := ne j o e
      rw [h3]; exact a.st.ow j o h2
    · obtain ⟨h1, h2, h3⟩ := ne j o e
      obtain ⟨h1', h2', h3'⟩ := ne k u e'
      rw [h3] at z; rw [h3'] at z'
      exact a.st.ne j k o u p h2 h2' z z'
    · obtain ⟨j, o, e1, e2⟩ := h
      obtain ⟨h1, h2, h3⟩ := ne j o e1
      rw [h3] at e2
      exact .inl (a.at ⟨j, o, h2, e2⟩)
    · obtain ⟨h1, h2, h3⟩ := ne j o e
      exact ⟨h3, a.ow j o h2⟩
  unfold slOf
  by_cases hn : i < np
  · rw [if_pos hn]
    obtain ⟨F2, a2, r2⟩ := a.freeze s r
    exact ⟨F2, key F2 _ a2 r2⟩
  · rw [if_neg hn]
    cases r with
    | d r => exact ⟨F1, key F1 _ a r⟩
    | @own p ho o h1 h2 r h3 =>
      have np' : ∀ b, OwnAt σ δ1 b → b ≠ p := fun b hb z => by
        obtain ⟨_, _, e⟩ := s.at (a.at hb)
        rw [z, h3] at e; cases e
      have ne : ∀ (j : Nat) (u : Ob), (δ1.set i (.own o))[j]? = some (.own u) → (j = i ∧ u = o ∧ (σ.set i (some (.ref p)))[j]? = some (some (.ref p))) ∨ (j ≠ i ∧ δ1[j]? = some (.own u) ∧ (σ.set i (some (.ref p)))[j]? = σ[j]?) := fun j u e => by
        by_cases hj : j = i
        · subst hj
          have hi : j < δ1.length := by
            have := (List.getElem?_eq_some_iff.mp e).1
            rwa [List.length_set] at this
          rw [List.getElem?_set_self hi] at e
          injection e with e; injection e with e
          exact .inl ⟨rfl, e.symm, by rw [List.getElem?_set_self (by rw [a.st.len]; exact hi)]⟩
        · rw [List.getElem?_set_ne (Ne.symm hj)] at e
          exact .inr ⟨hj, e, List.getElem?_set_ne (Ne.symm hj)⟩
      refine ⟨F1, ⟨a.st.sub, by rw [List.length_set]; show _ = (δ1.set i (.own o)).length; rw [List.length_set]; exact a.st.len, fun j y e => ?_, fun j u e => ?_, fun j k u w b e e' z z' => ?_⟩, a.wk.ex.wk fun _ z => z.2, fun b h => ?_, fun j hj u e => ?_, by rw [List.length_set]⟩
      · have hj : j ≠ i := fun hj => by
          subst hj
          have hi : j < δ1.length := by
            have := (List.getElem?_eq_some_iff.mp e).1
            rwa [List.length_set] at this
          rw [List.getElem?_set_self hi] at e
          injection e with e; cases e
        rw [List.getElem?_set_ne (Ne.symm hj)] at e ⊢
        exact a.st.dd j y e
      · rcases ne j u e with ⟨_, rfl, z⟩ | ⟨_, z1, z2⟩
        · exact ⟨p, ho, z, h1, h2, r⟩
        · rw [z2]; exact a.st.ow j u z1
      · rcases ne j u e with ⟨h1', h2', h3'⟩ | ⟨h1', h2', h3'⟩
        · rcases ne k w e' with ⟨k1, k2, k3⟩ | ⟨k1, k2, k3⟩
          · exact h1'.trans k1.symm
          · rw [h3'] at z; cases z
            rw [k3] at z'
            exact absurd rfl (np' _ ⟨k, w, k2, z'⟩)
        · rcases ne k w e' with ⟨k1, k2, k3⟩ | ⟨k1, k2, k3⟩
          · rw [k3] at z'; cases z'
            rw [h3'] at z
            exact absurd rfl (np' _ ⟨j, u, h2', z⟩)
          · rw [h3'] at z; rw [k3] at z'
            exact a.st.ne j k u w b h2' k2 z z'
      · obtain ⟨j, u, e1, e2⟩ := h
        rcases ne j u e1 with ⟨h1', h2', h3'⟩ | ⟨h1', h2', h3'⟩
        · rw [h3'] at e2; cases e2; exact .inr h3
        · rw [h3'] at e2
          exact .inl (a.at ⟨j, u, h2', e2⟩)
      · rcases ne j u e with ⟨h1', h2', h3'⟩ | ⟨h1', h2', h3'⟩
        · exact absurd (h1' ▸ hj) hn
        · exact ⟨h3', a.ow j u h2'⟩
/-- name = value -/
def sSet (np i : Nat) (f : XF) : SF := fun δ => (f δ).bind fun a => .ok (.nx (a.2.set i (slOf np i a.1)))
theorem st_set0 {i : Nat} {f : XF} {te : TE} (hp : PS X st (tAsg te (gName i))) (imp : ∀ σ H Q, TX m q f σ H Q → te σ H Q) : PSt X m np st (sSet np i f) := ps_imp hp fun D σ H => by
  intro h0
  refine imp σ H _ ?_
  revert h0
  rintro ⟨F, δ, s, g⟩
  refine ⟨F, δ, s, ?_⟩
  unfold sSet at g
  cases hr : f δ with
  | exc c fs => rw [hr] at g; exact g
  | no => rw [hr] at g; exact g
  | ok o =>
    rw [hr] at g
    intro F' H' s' v rz
    obtain ⟨F2, st2⟩ := stored (np := np) (i := i) s s' rz
    exact g F2 H' _ st2
theorem st_set {i : Nat} {x : Str} {f : XF} {pos' : Pos} (hN : X.N.Nodup) (hi : X.N[i]? = some x) (hx : Loc X.env.scope x) (h : PX X m e q f) (hs : swapsWith e (some (.Name x pos')) pos.line X.env = pure false := by rfl) (hf : X.fn x = true ∨ X.env.scope.names.lookup x = some .local := by first | exact .inl rfl | exact .inr rfl | assumption) :
    PSt X m np (.Assign [.Name x pos'] e pos) (sSet np i f) := st_set0 (ps_set hN hi hx h hs hf) fun _ _ _ z => z
end

/-! ### loops -/
/-- over the items -/
def forL (g : D → Dv → Dv) (body : SF) : List D → Dv → Rs Out
  | [], δ => .ok (.nx δ)
  | x :: xs, δ => (body (g x δ)).bind fun o => match o with
    | .nx δ' => forL g body xs δ'
    | .ct δ' => forL g body xs δ'
    | .bk δ' => .ok (.nx δ')
    | .rt z δ' => .ok (.rt z δ')
end FD
end
section
set_option Elab.async false
set_option linter.all false
set_option maxRecDepth 100000
/-! FD3: loops, comprehensions, calls. -/
namespace FD
open PySem L2

/-- what is walked: the items ds. L: addresses that must stay as they are -/
structure Src (K : PySem.W.Frag) (J : It) (ds : List D) (L : List Addr) (I : Hp → Hp → Prop) : Prop where
  stay : ∀ F H F1 H1 (M : Addr → Prop), I F H → Ext F H M F1 H1 → (∀ a ∈ L, ¬ M a) → I F1 H1
  go : ∀ F H i, I F H → Same F H → i < ds.length → J.go i H
  yl : ∀ F H i d x H', I F H → Same F H → ds[i]? = some d → J.yld i H x H' → ∃ F', Alo F H F' H' ∧ RepD K F' x d
  stop : ∀ F H, I F H → Same F H → J.stop ds.length H
def TI0 (m : Pm) (q : Bool) (f : LF) : TI := fun σ H R => ∃ F δ, Stt m.K F σ δ H ∧ Gd m q F H σ δ (f δ) fun ds F' H' => ∀ J I, Src m.K J ds [] I → I F' H' → R J H'
def PIt (X : Cx) (m : Pm) (tg iter : Expr) (q : Bool) (f : LF) : Prop := PI X tg iter (TI0 m q f)
theorem pi_imp {X : Cx} {tg iter : Expr} {t t' : TI} (h : PI X tg iter t) (i : ∀ σ H R, t' σ H R → t σ H R) : PI X tg iter t' := ⟨fun pins s σ H R I z => h.run pins s σ H R I (i σ H R z)⟩

/-- a target: names that take data -/
structure TgOk (K : PySem.W.Frag) (t : TG) (g : D → Dv → Option Dv) (is : List Nat) : Prop where
  ok : ∀ F H σ δ x d δ' (Q : St → Hp → Prop), Stt K F σ δ H → RepD K F x d → g d δ = some δ' → (∀ σ', (∀ np, SStep K np F H σ δ F H σ' δ') → σ'.length = σ.length → (∀ j, j ∉ is → σ'[j]? = σ[j]?) → Q σ' H) → t x σ H Q
section
variable {K : PySem.W.Frag} {F H : Hp} {σ : St} {δ : Dv} {np i : Nat} {v : V} {x : D}
theorem set_d (s : Stt K F σ δ H) (r : RepD K F v x) : SStep K np F H σ δ F H (σ.set i (some v)) (δ.set i (.d x)) := by
  have h := stored (np := i + 1) (i := i) (q := true) s (.refl s) (.d (F' := F) (H' := H) (H := H) r)
  have ne : ∀ (j : Nat) (o : Ob), (δ.set i (.d x))[j]? = some (.own o) → j ≠ i ∧ δ[j]? = some (.own o) ∧ (σ.set i (some v))[j]? = σ[j]? := fun j o e => by
    by_cases hj : j = i
    · subst hj
      rw [List.getElem?_set] at e
      simp only [if_true] at e
      split at e <;> cases e
    · rw [List.getElem?_set_ne (Ne.symm hj)] at e
      exact ⟨hj, e, List.getElem?_set_ne (Ne.symm hj)⟩
  refine ⟨⟨s.sub, by rw [List.length_set, List.length_set]; exact s.len, fun j y e => ?_, fun j o e => ?_, fun j k o u p e e' z z' => ?_⟩, .refl _ _ _, fun p h => ?_, fun j hj o e => ?_, by rw [List.length_set]⟩
  · by_cases hj : j = i
    · subst hj
      have hi : j < δ.length := by
        have := (List.getElem?_eq_some_iff.mp e).1
        rwa [List.length_set] at this
      rw [List.getElem?_set_self hi] at e
      injection e with e; injection e with e; subst e
      exact ⟨v, by rw [List.getElem?_set_self (by rw [s.len]; exact hi)], r⟩
    · rw [List.getElem?_set_ne (Ne.symm hj)] at e ⊢
      exact s.dd j y e
  · obtain ⟨h1, h2, h3⟩ := ne j o e
    rw [h3]; exact s.ow j o h2
  · obtain ⟨h1, h2, h3⟩ := ne j o e
    obtain ⟨h1', h2', h3'⟩ := ne k u e'
    rw [h3] at z; rw [h3'] at z'
    exact s.ne j k o u p h2 h2' z z'
  · obtain ⟨j, o, e1, e2⟩ := h
    obtain ⟨h1, h2, h3⟩ := ne j o e1
    rw [h3] at e2
    exact .inl ⟨j, o, h2, e2⟩
  · obtain ⟨h1, h2, h3⟩ := ne j o e
    exact ⟨h3, o, h2⟩
end
def gNm (i : Nat) : D → Dv → Option Dv := fun d δ => some (δ.set i (.d d))
theorem tg_nm {K : PySem.W.Frag} {i : Nat} : TgOk K (gName i) (gNm i) [i] := ⟨fun F H σ δ x d δ' Q s r e k => by
  cases e
  exact k _ (fun np => set_d s r) (by rw [List.length_set]) fun j hj => List.getElem?_set_ne (fun z => hj (by simp [z]))⟩
/-- several names: a tuple's places, stored from the left -/
def gSeq : List Nat → List D → Dv → Option Dv
  | [], [], δ => some δ
  | i :: is, d :: ds, δ => gSeq is ds (δ.set i (.d d))
  | _, _, _ => none
def gTp (is : List Nat) : D → Dv → Option Dv
  | .tup ds, δ => gSeq is ds δ
  | _, _ => none
def tgs : List Nat → TGs
  | [] => gNil
  | i :: is => gCons (gName i) (tgs is)
theorem tgs_ok {K : PySem.W.Frag} : ∀ (is : List Nat) (F H : Hp) (σ : St) (δ : Dv) (xs : List V) (ds : List D) (δ' : Dv) (Q : St → Hp → Prop), Stt K F σ δ H → RepL K F xs ds → gSeq is ds δ = some δ' → (∀ σ', (∀ np, SStep K np F H σ δ F H σ' δ') → σ'.length = σ.length → (∀ j, j ∉ is → σ'[j]? = σ[j]?) → Q σ' H) → tgs is xs σ H Q
  | [], F, H, σ, δ, xs, ds, δ', Q, s, r, e, k => by
    cases r with
    | nil => cases e; exact ⟨rfl, k σ (fun np => .refl s) rfl fun _ _ => rfl⟩
    | cons _ _ => cases e
  | i :: is, F, H, σ, δ, xs, ds, δ', Q, s, r, e, k => by
    cases r with
    | nil => cases e
    | cons h r =>
      refine ⟨_, _, rfl, tgs_ok is F H _ _ _ _ δ' Q (set_d (np := 0) s h).st r e fun σ' h' hl hj => k σ' (fun np => (set_d (np := np) s h).trans (h' np)) (by rw [hl, List.length_set]) fun j z => (hj j fun w => z (List.mem_cons_of_mem _ w)).trans (List.getElem?_set_ne fun w => z (by simp [w]))⟩
theorem tg_tp {K : PySem.W.Frag} {is : List Nat} : TgOk K (gTup K is.length (tgs is)) (gTp is) is := ⟨fun F H σ δ x d δ' Q s r e k => by
  cases r with
  | @tup a vs ds h r =>
    have hl : ds.length = is.length := by
      clear k h r
      have go : ∀ (is : List Nat) (ds : List D) (δ : Dv), gSeq is ds δ = some δ' → ds.length = is.length := by
        intro is
        induction is with
        | nil => intro ds δ e; cases ds with
          | nil => rfl
          | cons _ _ => cases e
        | cons i is ih => intro ds δ e; cases ds with
          | nil => cases e
          | cons d ds => simp [ih ds _ e]
      exact go is ds δ e
    exact ⟨a, vs, rfl, same_seqT s.sub h, by rw [r.length, hl], tgs_ok is F H σ δ vs ds δ' Q s r e k⟩
  | _ => cases e⟩

def ofG (g : D → Dv → Option Dv) (body : SF) (x : D) : SF := fun δ => (Rs.of (g x δ)).bind body
def forLo (g : D → Dv → Option Dv) (body : SF) : List D → Dv → Rs Out
  | [], δ => .ok (.nx δ)
  | x :: xs, δ => (ofG g body x δ).bind fun o => match o with
    | .nx δ' => forLo g body xs δ'
    | .ct δ' => forLo g body xs δ'
    | .bk δ' => .ok (.nx δ')
    | .rt z δ' => .ok (.rt z δ')
def sFor (f : LF) (g : D → Dv → Option Dv) (body : SF) : SF := fun δ => (f δ).bind fun a => forLo g body a.1 a.2
theorem st_for {X : Cx} {m : Pm} {np : Nat} {q : Bool} {tg iter : Expr} {body : List Stmt} {f : LF} {t : TG} {g : D → Dv → Option Dv} {h : SF} {pos : Pos} (hp : PassesOwn (model X.prog X.w) X.A X.env X.xe) (hc : X.calm = true) (hi : PIt X m tg iter q f) (hg : PG X tg t) {is : List Nat} (ht : TgOk m.K t g is) (hb : PSq X m np body h)
    (hs : ∀ x, foldedSetIterable iter X.env x = pure x := by intro _; rfl) (hfl : Flat m := by exact fun _ _ => rfl) : PSt X m np (.For tg iter body [] pos) (sFor f g h) := by
  refine ps_imp (ps_for hp hc hi hg hb hs) fun Dn σ H => ?_
  rintro ⟨F, δ, s, k⟩
  refine ⟨F, δ, s, ?_⟩
  unfold sFor at k
  cases hr : f δ with
  | exc c fs => rw [hr] at k; exact k
  | no => rw [hr] at k; exact k
  | ok o =>
    rw [hr] at k
    obtain ⟨ds, δ1⟩ := o
    intro F1 H1 s1 J I src i1
    have k1 : GS m np F1 H1 σ δ1 (forLo g h ds δ1) Dn := GS.stepE k s1
    refine ⟨fun i mm σ H => mm = ds.length - i ∧ i ≤ ds.length ∧ ∃ F δ, Stt m.K F σ δ H ∧ I F H ∧ GS m np F H σ δ (forLo g h (ds.drop i) δ) Dn, ⟨ds.length, by simp, Nat.zero_le _, F1, δ1, s1.st, i1, k1⟩, ?_⟩
    rintro i mm σ H ⟨rfl, hi, F, δ, s, inv, k⟩
    by_cases hlt : i < ds.length
    · refine .inr ⟨src.go F H i inv s.sub hlt, fun σ' H' => i + 1 ≤ ds.length ∧ ∃ F δ, Stt m.K F σ' δ H' ∧ I F H' ∧ GS m np F H' σ' δ (forLo g h (ds.drop (i + 1)) δ) Dn, fun σ' H' n => ⟨ds.length - (i + 1), by omega, rfl, n.1, n.2⟩, fun x H2 y => ?_⟩
      have ed : ds[i]? = some ds[i] := by simp [hlt]
      obtain ⟨F2, al, rx⟩ := src.yl F H i _ x H2 inv s.sub ed y
      have s2 := al.step (q := true) s
      have i2 : I F2 H2 := src.stay _ _ _ _ _ inv s2.ex fun a ha => nomatch ha
      rw [List.drop_eq_getElem_cons hlt] at k
      have k2 := GS.stepE (np := np) k s2
      unfold forLo ofG at k2
      cases hgd : g ds[i] δ with
      | none => rw [hgd] at k2; exact k2.elim
      | some δ2 =>
        rw [hgd] at k2
        refine ht.ok F2 H2 σ δ x _ δ2 _ s2.st rx hgd fun σ2 h2 _ _ => ?_
        have k3 := GS.step hfl k2 (h2 np)
        have i3 : I F2 H2 := i2
        refine ⟨F2, δ2, (h2 np).st, ?_⟩
        cases hb : h δ2 with
        | exc c fs => simp only [Rs.of_some, Rs.bind_ok, hb] at k3; exact k3
        | no => simp only [Rs.of_some, Rs.bind_ok, hb] at k3; exact k3
        | ok o =>
          simp only [Rs.of_some, Rs.bind_ok, hb] at k3
          have again : ∀ δ3 F3 H3 σ3, SStep m.K np F2 H2 σ2 δ2 F3 H3 σ3 δ3 → GS m np F2 H2 σ2 δ2 (forLo g h (ds.drop (i + 1)) δ3) Dn → i + 1 ≤ ds.length ∧ ∃ F δ, Stt m.K F σ3 δ H3 ∧ I F H3 ∧ GS m np F H3 σ3 δ (forLo g h (ds.drop (i + 1)) δ) Dn :=
            fun δ3 F3 H3 σ3 s3 k4 => ⟨hlt, F3, δ3, s3.st, src.stay _ _ _ _ _ i3 s3.ex (fun a ha => nomatch ha), GS.step hfl k4 s3⟩
          cases o with
          | nx δ3 => exact fun F3 H3 σ3 s3 => again δ3 F3 H3 σ3 s3 k3
          | ct δ3 => exact fun F3 H3 σ3 s3 => again δ3 F3 H3 σ3 s3 k3
          | bk δ3 => exact fun F3 H3 σ3 s3 => k3 F3 H3 σ3 s3
          | rt z δ3 => exact k3
    · have e : i = ds.length := by omega
      subst e
      refine .inl ⟨src.stop F H inv s.sub, ?_⟩
      rw [List.drop_length] at k
      exact k F H σ (.refl s)

/-! ### what is walked -/
section
variable {X : Cx} {m : Pm} {tg e : Expr} {q : Bool} {pos p : Pos}
/-- a list or a tuple of data -/
def fItems (f : VF) : LF := fun δ => (f δ).bind fun a => match a.1 with
  | .lst l => .ok (l, a.2)
  | .scr l => .ok (l, a.2)
  | _ => .no
def fItemsT (f : VF) : LF := fun δ => (f δ).bind fun a => match a.1 with
  | .tup l => .ok (l, a.2)
  | _ => .no
theorem src_list {K : PySem.W.Frag} {a : Addr} {ds : List D} : Src K (Itl K a) ds [] fun F _ => ∃ vs, SqL K F a vs ∧ RepL K F vs ds where
  stay := by
    rintro F H F1 H1 M ⟨vs, h, r⟩ ex _
    exact ⟨vs, ex.fr.seq h, r.mono ex.fr⟩
  go := by
    rintro F H i ⟨vs, h, r⟩ s hi
    exact ⟨vs, vs[i]'(by rw [r.length]; exact hi), s.seq h, by simp⟩
  yl := by
    rintro F H i d x H' ⟨vs, h, r⟩ s hd ⟨rfl, y⟩
    obtain ⟨v, e1, e2⟩ := r.get hd
    have := y vs (s.seq h)
    rw [e1] at this; cases this
    exact ⟨F, .refl s, e2⟩
  stop := by
    rintro F H ⟨vs, h, r⟩ s
    exact ⟨vs, s.seq h, by rw [r.length]; exact Nat.le_refl _⟩
theorem src_tup {K : PySem.W.Frag} {a : Addr} {ds : List D} : Src K (Itt K a) ds [] fun F _ => ∃ vs, SqT K F a vs ∧ RepL K F vs ds where
  stay := by
    rintro F H F1 H1 M ⟨vs, h, r⟩ ex _
    exact ⟨vs, same_seqT ex.fr h, r.mono ex.fr⟩
  go := by
    rintro F H i ⟨vs, h, r⟩ s hi
    exact ⟨vs, vs[i]'(by rw [r.length]; exact hi), same_seqT s h, by simp⟩
  yl := by
    rintro F H i d x H' ⟨vs, h, r⟩ s hd ⟨rfl, y⟩
    obtain ⟨v, e1, e2⟩ := r.get hd
    have := y vs (same_seqT s h)
    rw [e1] at this; cases this
    exact ⟨F, .refl s, e2⟩
  stop := by
    rintro F H ⟨vs, h, r⟩ s
    exact ⟨vs, same_seqT s h, by rw [r.length]; exact Nat.le_refl _⟩
/-- lo, lo + 1, .. -/
def rngL (lo : Int) (n : Nat) : List D := (List.range n).map fun (i : Nat) => D.int (lo + (i : Int))
theorem src_rng {K : PySem.W.Frag} {lo : Int} {n : Nat} : Src K (Itr lo n) (rngL lo n) [] fun _ _ => True where
  stay := fun _ _ _ _ _ _ _ _ => trivial
  go := by
    intro F H i _ _ hi
    have : i < n := by simpa [rngL] using hi
    exact this
  yl := by
    rintro F H i d x H' _ s hd ⟨rfl, rfl⟩
    have e : d = .int (lo + i) := by
      unfold rngL at hd
      rw [List.getElem?_map] at hd
      cases h : (List.range n)[i]? with
      | none => rw [h] at hd; cases hd
      | some j =>
        rw [h] at hd
        have := (List.getElem?_eq_some_iff.mp h).2
        simp at this
        subst this
        exact (Option.some.inj hd).symm
    subst e
    exact ⟨F, .refl s, .int _⟩
  stop := by
    intro F H _ _
    have e : (rngL lo n).length = n := by simp [rngL]
    show n ≤ (rngL lo n).length
    omega
theorem it_list {f : VF} (h : PV X m e q f) (hK : X.K = m.K := by rfl) : PIt X m tg e q (fItems f) := pi_imp (show PI X tg e (iList m.K (TV m q f)) from hK ▸ pi_list h) fun σ H R => by
  rintro ⟨F, δ, s, g⟩
  refine ⟨F, δ, s, Gd.first (q' := true) (by rw [Bool.and_true]; exact g) fun d δ1 F1 H1 e1 g1 s1 v rv => ?_⟩
  dsimp only at g1
  cases rv with
  | @lst a vs ds hh r => exact ⟨a, rfl, ⟨vs, SqL.of (s1.st.sub _ _ hh)⟩, g1 F1 H1 (by rw [Bool.and_true]; exact s1) _ _ src_list ⟨vs, SqL.of hh, r⟩⟩
  | @scr a vs ds hh r => exact ⟨a, rfl, ⟨vs, s1.st.sub.seq hh⟩, g1 F1 H1 (by rw [Bool.and_true]; exact s1) _ _ src_list ⟨vs, hh, r⟩⟩
  | _ => exact g1.elim
theorem it_tup {f : VF} (h : PV X m e q f) (hK : X.K = m.K := by rfl) : PIt X m tg e q (fItemsT f) := pi_imp (show PI X tg e (iTup m.K (TV m q f)) from hK ▸ pi_tup h) fun σ H R => by
  rintro ⟨F, δ, s, g⟩
  refine ⟨F, δ, s, Gd.first (q' := true) (by rw [Bool.and_true]; exact g) fun d δ1 F1 H1 e1 g1 s1 v rv => ?_⟩
  dsimp only at g1
  cases rv with
  | @tup a vs ds hh r => exact ⟨a, rfl, ⟨vs, same_seqT s1.st.sub hh⟩, g1 F1 H1 (by rw [Bool.and_true]; exact s1) _ _ src_tup ⟨vs, hh, r⟩⟩
  | _ => exact g1.elim
def fRng1 (f : LF) : LF := fun δ => (f δ).bind fun a => match a.1 with
  | [.int j] => if -4611686018427387904 ≤ j ∧ j < 4611686018427387904 then .ok (rngL 0 j.toNat, a.2) else .no
  | _ => .no
def fRng2 (f : LF) : LF := fun δ => (f δ).bind fun a => match a.1 with
  | [.int i, .int j] => if (-4611686018427387904 ≤ i ∧ i < 4611686018427387904) ∧ (-4611686018427387904 ≤ j ∧ j < 4611686018427387904) then .ok (rngL i (j - i).toNat, a.2) else .no
  | _ => .no
theorem it_rng1 {a : Expr} {f : LF} (hg : Gl X "range") (hm : X.mg "range" = none) (h : PL X m [a] q f) (hs : starEach [a] X.env = [(false, eval a X.env)] := by rfl) : PIt X m tg (.Call (.Name "range" p) [a] [] pos) q (fRng1 f) := pi_imp (pi_range1 hg hm h hs) fun σ H R => by
  rintro ⟨F, δ, s, g⟩
  refine ⟨F, δ, s, Gd.first (q' := true) (by rw [Bool.and_true]; exact g) fun d δ1 F1 H1 e1 g1 s1 v rv => ?_⟩
  dsimp only at g1
  split at g1
  · rename_i j
    split at g1
    · rename_i hj
      cases rv with
      | cons h1 h2 =>
        cases h2
        cases h1
        exact ⟨j, rfl, hj.1, hj.2, g1 F1 H1 (by rw [Bool.and_true]; exact s1) _ _ src_rng trivial⟩
    · exact g1.elim
  · exact g1.elim
theorem it_rng2 {a b : Expr} {f : LF} (hg : Gl X "range") (hm : X.mg "range" = none) (h : PL X m [a, b] q f) (hs : starEach [a, b] X.env = [(false, eval a X.env), (false, eval b X.env)] := by rfl) (hs2 : starEach [b] X.env = [(false, eval b X.env)] := by rfl) :
    PIt X m tg (.Call (.Name "range" p) [a, b] [] pos) q (fRng2 f) := pi_imp (pi_range2 hg hm h hs hs2) fun σ H R => by
  rintro ⟨F, δ, s, g⟩
  refine ⟨F, δ, s, Gd.first (q' := true) (by rw [Bool.and_true]; exact g) fun d δ1 F1 H1 e1 g1 s1 v rv => ?_⟩
  dsimp only at g1
  split at g1
  · rename_i i j
    split at g1
    · rename_i hj
      cases rv with
      | cons h1 h2 =>
        cases h1
        cases h2 with
        | cons h3 h4 =>
          cases h3; cases h4
          exact ⟨i, j, rfl, ⟨hj.1.1, hj.1.2, hj.2.1, hj.2.2⟩, g1 F1 H1 (by rw [Bool.and_true]; exact s1) _ _ src_rng trivial⟩
    · exact g1.elim
  · exact g1.elim
/-- a text, sign by sign -/
def signsL (x : Str) : List D := x.cps.toList.map fun c => .str ⟨#[c]⟩
def fSigns (f : VF) : LF := fun δ => (f δ).bind fun a => match a.1 with
  | .str x => .ok (signsL x, a.2)
  | _ => .no
theorem src_str {K : PySem.W.Frag} {x : Str} : Src K (Its x) (signsL x) [] fun _ _ => True where
  stay := fun _ _ _ _ _ _ _ _ => trivial
  go := by
    intro F H i _ _ hi
    have : i < x.cps.size := by simpa [signsL] using hi
    exact this
  yl := by
    rintro F H i d v H' _ s hd ⟨rfl, c, hc, rfl⟩
    have e : d = .str ⟨#[c]⟩ := by
      unfold signsL at hd
      rw [List.getElem?_map, Array.getElem?_toList, hc] at hd
      exact (Option.some.inj hd).symm
    subst e
    exact ⟨F, .refl s, .str _⟩
  stop := by
    intro F H _ _
    have e : (signsL x).length = x.cps.size := by simp [signsL]
    show x.cps.size ≤ (signsL x).length
    omega
theorem it_str {f : VF} (h : PV X m e q f) : PIt X m tg e q (fSigns f) := pi_imp (pi_str h) fun σ H R => by
  rintro ⟨F, δ, s, g⟩
  refine ⟨F, δ, s, Gd.first (q' := true) (by rw [Bool.and_true]; exact g) fun d δ1 F1 H1 e1 g1 s1 v rv => ?_⟩
  dsimp only at g1
  cases rv with
  | str x => exact ⟨x, rfl, g1 F1 H1 (by rw [Bool.and_true]; exact s1) _ _ src_str trivial⟩
  | _ => exact g1.elim
end
end FD
end
section
set_option Elab.async false
set_option linter.all false
set_option maxRecDepth 100000
/-! FD4: list comprehensions. -/
namespace FD
open PySem L2

def wipeD (δ : Dv) (vs : List Nat) : Dv := vs.foldr (fun v d => d.set v .no) δ
theorem wipeD_length (δ : Dv) : ∀ vs : List Nat, (wipeD δ vs).length = δ.length
  | [] => rfl
  | v :: vs => by show ((wipeD δ vs).set v .no).length = _; rw [List.length_set, wipeD_length δ vs]
theorem wipeD_get {δ : Dv} {j : Nat} {s : Sl} : ∀ {vs : List Nat}, (wipeD δ vs)[j]? = some s → s = .no ∨ (j ∉ vs ∧ δ[j]? = some s)
  | [], h => .inr ⟨by simp, h⟩
  | v :: vs, h => by
    have h' : ((wipeD δ vs).set v .no)[j]? = some s := h
    by_cases hj : j = v
    · subst hj
      rw [List.getElem?_set] at h'
      simp only [if_true] at h'
      split at h'
      · injection h' with h'; exact .inl h'.symm
      · cases h'
    · rw [List.getElem?_set_ne (Ne.symm hj)] at h'
      rcases wipeD_get h' with z | ⟨z1, z2⟩
      · exact .inl z
      · exact .inr ⟨by simp [hj, z1], z2⟩
theorem wipe_get {σ : St} {j : Nat} : ∀ {vs : List Nat}, j ∉ vs → (wipe σ vs)[j]? = σ[j]?
  | [], _ => rfl
  | v :: vs, h => by
    show ((wipe σ vs).set v none)[j]? = _
    rw [List.getElem?_set_ne (fun z => h (by simp [z]))]
    exact wipe_get fun z => h (by simp [z])
theorem wipe_at {σ : St} {j : Nat} : ∀ {vs : List Nat}, j ∈ vs → j < σ.length → (wipe σ vs)[j]? = some none
  | v :: vs, h, hl => by
    show ((wipe σ vs).set v none)[j]? = _
    by_cases hj : j = v
    · subst hj
      rw [List.getElem?_set_self (by rw [wipe_length]; exact hl)]
    · rw [List.getElem?_set_ne (Ne.symm hj)]
      exact wipe_at (by simpa [hj] using h) hl
theorem wipe_eq {σ τ : St} {vs : List Nat} (hl : τ.length = σ.length) (h : ∀ j, j ∉ vs → τ[j]? = (wipe σ vs)[j]?) : wipe τ vs = wipe σ vs := by
  apply List.ext_getElem?
  intro j
  by_cases hj : j ∈ vs
  · by_cases hjl : j < σ.length
    · rw [wipe_at hj hjl, wipe_at hj (by omega)]
    · rw [List.getElem?_eq_none (by rw [wipe_length]; omega), List.getElem?_eq_none (by rw [wipe_length]; omega)]
  · rw [wipe_get hj, h j hj]
/-- put back what the comprehension's names held -/
def backD (vs : List Nat) (δ0 δ : Dv) : Dv := vs.foldr (fun v d => d.set v (match δ0[v]? with
  | some (.d x) => .d x
  | _ => .no)) δ
theorem backD_length (δ0 δ : Dv) : ∀ vs : List Nat, (backD vs δ0 δ).length = δ.length
  | [] => rfl
  | v :: vs => by
    show ((backD vs δ0 δ).set v _).length = _
    rw [List.length_set, backD_length δ0 δ vs]
theorem backD_get {δ0 δ : Dv} {j : Nat} {s : Sl} : ∀ {vs : List Nat}, (backD vs δ0 δ)[j]? = some s → s = .no ∨ (∃ x, s = .d x ∧ δ0[j]? = some (.d x)) ∨ (j ∉ vs ∧ δ[j]? = some s)
  | [], h => .inr (.inr ⟨by simp, h⟩)
  | v :: vs, h => by
    have h' : ((backD vs δ0 δ).set v (match δ0[v]? with
      | some (.d x) => .d x
      | _ => .no))[j]? = some s := h
    by_cases hj : j = v
    · subst hj
      rw [List.getElem?_set] at h'
      simp only [if_true] at h'
      split at h'
      · injection h' with h'
        split at h'
        · rename_i x hx
          exact .inr (.inl ⟨x, h'.symm, hx⟩)
        · exact .inl h'.symm
      · cases h'
    · rw [List.getElem?_set_ne (Ne.symm hj)] at h'
      rcases backD_get h' with z | z | ⟨z1, z2⟩
      · exact .inl z
      · exact .inr (.inl z)
      · exact .inr (.inr ⟨by simp [hj, z1], z2⟩)
section
variable {K : PySem.W.Frag} {F H : Hp} {σ : St} {δ : Dv} {vs : List Nat}
theorem wipe_stt (s : Stt K F σ δ H) : Stt K F (wipe σ vs) (wipeD δ vs) H := by
  refine ⟨s.sub, by rw [wipe_length, wipeD_length]; exact s.len, fun i x e => ?_, fun i o e => ?_, fun i j o u p e e' z z' => ?_⟩
  · rcases wipeD_get e with z | ⟨z1, z2⟩
    · cases z
    · rw [wipe_get z1]; exact s.dd i x z2
  · rcases wipeD_get e with z | ⟨z1, z2⟩
    · cases z
    · rw [wipe_get z1]; exact s.ow i o z2
  · rcases wipeD_get e with w | ⟨w1, w2⟩
    · cases w
    rcases wipeD_get e' with w' | ⟨w1', w2'⟩
    · cases w'
    rw [wipe_get w1] at z; rw [wipe_get w1'] at z'
    exact s.ne i j o u p w2 w2' z z'
/-- an own object outside of the slots changes -/
theorem Stt.upd {a : Addr} {o : HO} (s : Stt K F σ δ H) (hF : F a = none) (ho : ¬ OwnAt σ δ a) : Stt K F σ δ (upd H a o) := by
  refine ⟨fun b u e => ?_, s.len, s.dd, fun i u e => ?_, s.ne⟩
  · rw [upd_ne (fun z => by rw [z, hF] at e; cases e)]; exact s.sub b u e
  · obtain ⟨p, ho', e1, e2, e3, r⟩ := s.ow i u e
    exact ⟨p, ho', e1, e2, by rw [upd_ne (fun z => ho (by rw [← z]; exact ⟨i, u, e, e1⟩))]; exact e3, r⟩
end

/-- the turns: what is made of the items that pass -/
def lcLo (g : D → Dv → Option Dv) (c : BF) (f : XF) (vs : List Nat) : List D → Dv → Rs (List D × Dv)
  | [], δ => .ok ([], δ)
  | x :: xs, δ => (Rs.of (g x δ)).bind fun δ1 => match c δ1 with
    | .ok (true, δ2) => match f δ2 with
      | .ok (z, δ3) => (lcLo g c f vs xs (wipeD δ3 vs)).bind fun a => .ok (z.toD :: a.1, a.2)
      | _ => .no
    | .ok (false, δ2) => lcLo g c f vs xs (wipeD δ2 vs)
    | _ => .no
def fLc (it : LF) (g : D → Dv → Option Dv) (c : BF) (f : XF) (vs : List Nat) : XF := fun δ => (it δ).bind fun a => if a.1.length ≤ 100000 then (lcLo g c f vs a.1 (wipeD a.2 vs)).bind fun b => .ok (.own (.lst b.1), backD vs a.2 b.2) else .no

theorem lc_read {m m' : Pm} {q qc qf : Bool} {wi : TI} {t : TG} {tt : TT} {te : TE} {it : LF} {g : D → Dv → Option Dv} {c : BF} {f : XF} {vs is : List Nat} (hK : m'.K = m.K)
    (hi : ∀ σ H R, TI0 m q it σ H R → wi σ H R) (hT : TgOk m.K t g is) (his : ∀ i ∈ is, i ∈ vs) (hc : ∀ σ H Q, TB m' qc c σ H Q → tt σ H Q) (he : ∀ σ H Q, TX m' qf f σ H Q → te σ H Q) :
    ∀ σ H Q, TX m false (fLc it g c f vs) σ H Q → tLc wi t tt te vs σ H Q := by
  intro σ H0 Q h
  refine hi σ H0 _ ?_
  obtain ⟨F0, δ0, s0, k⟩ := h
  refine ⟨F0, δ0, s0, ?_⟩
  unfold fLc at k
  cases hr : it δ0 with
  | exc c fs => rw [hr] at k; exact k
  | no => rw [hr] at k; exact k
  | ok o =>
    rw [hr] at k
    obtain ⟨ds, δ1⟩ := o
    intro F1 H1 s1 J I src i1
    dsimp only [Rs.bind_ok] at k
    split at k
    rotate_left
    · exact k.elim
    rename_i hlen
    cases hrun : lcLo g c f vs ds (wipeD δ1 vs) with
    | exc c0 fs0 =>
      exfalso
      clear k
      have : ∀ (l : List D) (δ : Dv) (c' : Str) (fs : List (Str × D)), lcLo g c f vs l δ ≠ .exc c' fs := by
        intro l
        induction l with
        | nil => intro δ c' fs z; cases z
        | cons x l ih =>
          intro δ c' fs z
          unfold lcLo at z
          cases hg : g x δ with
          | none => rw [hg] at z; cases z
          | some δ1 =>
            rw [hg] at z
            dsimp only [Rs.of_some, Rs.bind_ok] at z
            split at z
            · split at z
              · rename_i z' δ3 hz
                cases h2 : lcLo g c f vs l (wipeD δ3 vs) with
                | ok a => rw [h2] at z; cases z
                | no => rw [h2] at z; cases z
                | exc c2 f2 => exact ih _ _ _ h2
              · cases z
            · exact ih _ _ _ z
            · cases z
      exact this _ _ _ _ hrun
    | no => rw [hrun] at k; exact k.elim
    | ok res =>
      obtain ⟨tot, δe⟩ := res
      rw [hrun] at k
      dsimp only [Rs.bind_ok] at k
      intro A hA
      have hA0 : H0 A = none := s1.ex.dom A hA
      have hAF : F1 A = none := s1.st.sub.free hA
      have nA : ∀ δ : Dv, (∀ (j : Nat) (o : Ob), δ[j]? = some (.own o) → ∃ u, δ0[j]? = some (.own u) ∧ j ∉ vs) → ∀ τ : St, (∀ j, j ∉ vs → τ[j]? = σ[j]?) → ¬ OwnAt τ δ A := by
        rintro δ hδ τ hτ ⟨j, o, e1, e2⟩
        obtain ⟨u, e3, e4⟩ := hδ j o e1
        rw [hτ j e4] at e2
        obtain ⟨_, _, z⟩ := s0.at ⟨j, u, e3, e2⟩
        rw [hA0] at z; cases z
      have hσw : ∀ j, j ∉ vs → (wipe σ vs)[j]? = σ[j]? := fun j hj => wipe_get hj
      refine ⟨fun i mm H => mm = ds.length - i ∧ i ≤ ds.length ∧ ∃ F δ accV accD zs, Stt m.K F (wipe σ vs) δ H ∧ Ext F0 H0 (OwnAt σ δ0) F H ∧ I F H ∧ (∀ (j : Nat) (o : Ob), δ[j]? = some (.own o) → ∃ u, δ0[j]? = some (.own u) ∧ j ∉ vs) ∧
          H A = some (.lst accV) ∧ F A = none ∧ RepL m.K F accV accD ∧ accD.length ≤ i ∧ lcLo g c f vs (ds.drop i) δ = .ok (zs, δe) ∧ accD ++ zs = tot ∧ Same F1 F, ?_, ?_⟩
      · have hw : ∀ (j : Nat) (o : Ob), (wipeD δ1 vs)[j]? = some (.own o) → ∃ u, δ0[j]? = some (.own u) ∧ j ∉ vs := fun j o e => by
          rcases wipeD_get e with z | ⟨z1, z2⟩
          · cases z
          · obtain ⟨u, hu⟩ := s1.ow j o z2
            exact ⟨u, hu, z1⟩
        refine ⟨ds.length, by simp, Nat.zero_le _, F1, wipeD δ1 vs, [], [], tot, (wipe_stt s1.st).upd hAF (nA _ hw _ hσw), ⟨s1.ex.fr, fun p o h fp nm => ?_, fun p h => ?_⟩, ?_, hw, upd_same, hAF, .nil, Nat.zero_le _, by rw [List.drop_zero]; exact hrun, by simp, .refl _⟩
        · obtain ⟨z1, z2⟩ := s1.ex.keep p o h fp fun z => nm z.2
          exact ⟨by rw [upd_ne (fun z => by rw [z, hA0] at h; cases h)]; exact z1, z2⟩
        · by_cases hp : p = A
          · rw [hp]; exact hA0
          · rw [upd_ne hp] at h; exact s1.ex.dom p h
        · refine src.stay F1 H1 F1 _ (fun _ => False) i1 ⟨.refl _, fun p o h fp _ => ⟨by rw [upd_ne (fun z => by rw [z, hA] at h; cases h)]; exact h, fp⟩, fun p h => ?_⟩ fun a ha => nomatch ha
          by_cases hp : p = A
          · rw [hp]; exact hA
          · rw [upd_ne hp] at h; exact h
      · rintro i mm H ⟨rfl, hi', F, δ, accV, accD, zs, s, ex, inv, hδ, hHA, hFA, racc, hal, hlo, htot, h1F⟩
        by_cases hlt : i < ds.length
        · refine .inr ⟨src.go F H i inv s.sub hlt, fun H' => i + 1 ≤ ds.length ∧ ∃ F δ accV accD zs, Stt m.K F (wipe σ vs) δ H' ∧ Ext F0 H0 (OwnAt σ δ0) F H' ∧ I F H' ∧ (∀ (j : Nat) (o : Ob), δ[j]? = some (.own o) → ∃ u, δ0[j]? = some (.own u) ∧ j ∉ vs) ∧
            H' A = some (.lst accV) ∧ F A = none ∧ RepL m.K F accV accD ∧ accD.length ≤ i + 1 ∧ lcLo g c f vs (ds.drop (i + 1)) δ = .ok (zs, δe) ∧ accD ++ zs = tot ∧ Same F1 F, fun H' n => ⟨ds.length - (i + 1), by omega, rfl, n.1, n.2⟩, fun x H2 y => ?_⟩
          have ed : ds[i]? = some ds[i] := by simp [hlt]
          obtain ⟨F2, al, rx⟩ := src.yl F H i _ x H2 inv s.sub ed y
          have s2 := al.step (q := true) s
          have i2 : I F2 H2 := src.stay _ _ _ _ _ inv s2.ex fun a ha => nomatch ha
          rw [List.drop_eq_getElem_cons hlt] at hlo
          unfold lcLo at hlo
          cases hgd : g ds[i] δ with
          | none => rw [hgd] at hlo; cases hlo
          | some δ2 =>
            rw [hgd] at hlo
            dsimp only [Rs.of_some, Rs.bind_ok] at hlo
            refine hT.ok F2 H2 _ δ x _ δ2 _ s2.st rx hgd fun σ2 h2 hl2 hj2 => ?_
            have hσ2 : ∀ j, j ∉ vs → σ2[j]? = σ[j]? := fun j hj => (hj2 j fun z => hj (his j z)).trans (hσw j hj)
            have hwp : wipe σ2 vs = wipe σ vs := wipe_eq (by rw [hl2, wipe_length]) fun j hj => (hσ2 j hj).trans (hσw j hj).symm
            refine ⟨hwp, hc σ2 H2 _ ?_⟩
            have s3 := h2 σ2.length
            have hδ2 : ∀ (j : Nat) (o : Ob), δ2[j]? = some (.own o) → ∃ u, δ0[j]? = some (.own u) ∧ j ∉ vs := fun j o e => by
              have hjl : j < σ2.length := by rw [s3.st.len]; exact (List.getElem?_eq_some_iff.mp e).1
              obtain ⟨_, u, hu⟩ := s3.pr j hjl o e
              exact hδ j u hu
            have ownO : ∀ {δ' : Dv}, (∀ (j : Nat) (o : Ob), δ'[j]? = some (.own o) → ∃ u, δ0[j]? = some (.own u) ∧ j ∉ vs) → ∀ p, OwnAt σ2 δ' p → OwnAt σ δ0 p := fun hd p ⟨j, o, e1, e2⟩ => by
              obtain ⟨u, e3, e4⟩ := hd j o e1
              exact ⟨j, u, e3, by rw [← hσ2 j e4]; exact e2⟩
            have hA2 : H2 A = some (.lst accV) := al.hh A _ hHA
            have hF2 : F2 A = none := by
              cases z : F2 A with
              | none => rfl
              | some u =>
                rcases al.nw A u z with w | w
                · rw [hFA] at w; cases w
                · rw [hHA] at w; cases w
            have s3' : Stt m'.K F2 σ2 δ2 H2 := by rw [hK]; exact s3.st
            have ex2 : Ext F0 H0 (OwnAt σ δ0) F2 H2 := ex.trans s2.ex fun p z => nomatch z.1
            refine ⟨F2, δ2, s3', ?_⟩
            cases hcr : c δ2 with
            | exc c0 fs0 => rw [hcr] at hlo; cases hlo
            | no => rw [hcr] at hlo; cases hlo
            | ok cb =>
              obtain ⟨b, δ3⟩ := cb
              rw [hcr] at hlo
              intro F3 H3 s4
              have hδ3 : ∀ (j : Nat) (o : Ob), δ3[j]? = some (.own o) → ∃ u, δ0[j]? = some (.own u) ∧ j ∉ vs := fun j o e => by
                obtain ⟨u, hu⟩ := s4.ow j o e
                exact hδ2 j u hu
              have ex3 : Ext F0 H0 (OwnAt σ δ0) F3 H3 := ex2.trans s4.ex fun p z => .inl (ownO hδ2 p z.2)
              obtain ⟨hA3, hF3⟩ := s4.ex.keep A _ hA2 hF2 fun z => nA δ2 hδ2 σ2 hσ2 z.2
              have i3 : I F3 H3 := src.stay _ _ _ _ _ i2 s4.ex fun a ha => nomatch ha
              cases b with
              | false =>
                dsimp only
                rw [if_neg Bool.false_ne_true]
                have hw : ∀ (j : Nat) (o : Ob), (wipeD δ3 vs)[j]? = some (.own o) → ∃ u, δ0[j]? = some (.own u) ∧ j ∉ vs := fun j o e => by
                  rcases wipeD_get e with z | ⟨z1, z2⟩
                  · cases z
                  · exact hδ3 j o z2
                refine ⟨hlt, F3, wipeD δ3 vs, accV, accD, zs, ?_, ex3, i3, hw, hA3, hF3, racc.mono (s2.ex.fr.trans s4.ex.fr), Nat.le_succ_of_le hal, hlo, htot, h1F.trans (s2.ex.fr.trans s4.ex.fr)⟩
                rw [← hwp, ← hK]
                exact wipe_stt s4.st
              | true =>
                dsimp only
                rw [if_pos rfl]
                refine he σ2 H3 _ ⟨F3, δ3, s4.st, ?_⟩
                dsimp only at hlo
                cases hfr : f δ3 with
                | exc c0 fs0 => rw [hfr] at hlo; cases hlo
                | no => rw [hfr] at hlo; cases hlo
                | ok fz =>
                  obtain ⟨z, δ4⟩ := fz
                  rw [hfr] at hlo
                  dsimp only at hlo
                  intro F4 H4 s5 v rz
                  obtain ⟨F5, s6, rd⟩ := s5.freeze s4.st rz
                  have hδ4 : ∀ (j : Nat) (o : Ob), δ4[j]? = some (.own o) → ∃ u, δ0[j]? = some (.own u) ∧ j ∉ vs := fun j o e => by
                    obtain ⟨u, hu⟩ := s6.ow j o e
                    exact hδ3 j u hu
                  have hw : ∀ (j : Nat) (o : Ob), (wipeD δ4 vs)[j]? = some (.own o) → ∃ u, δ0[j]? = some (.own u) ∧ j ∉ vs := fun j o e => by
                    rcases wipeD_get e with z | ⟨z1, z2⟩
                    · cases z
                    · exact hδ4 j o z2
                  have ex4 : Ext F0 H0 (OwnAt σ δ0) F5 H4 := ex3.trans s6.ex fun p z => .inl (ownO hδ3 p z.2)
                  obtain ⟨hA4, hF4⟩ := s6.ex.keep A _ hA3 hF3 fun z => nA δ3 hδ3 σ2 hσ2 z.2
                  have i4 : I F5 H4 := src.stay _ _ _ _ _ i3 s6.ex fun a ha => nomatch ha
                  cases hl2 : lcLo g c f vs (ds.drop (i + 1)) (wipeD δ4 vs) with
                  | exc c0 fs0 => rw [hl2] at hlo; cases hlo
                  | no => rw [hl2] at hlo; cases hlo
                  | ok ra =>
                    obtain ⟨zs', δe'⟩ := ra
                    rw [hl2] at hlo
                    cases hlo
                    have fr25 : Same F F5 := s2.ex.fr.trans (s4.ex.fr.trans s6.ex.fr)
                    refine ⟨accV, hA4, ?_, hlt, F5, wipeD δ4 vs, accV ++ [v], accD ++ [z.toD], zs', ?_, ⟨ex4.fr, fun p o h fp nm => ?_, fun p h => ?_⟩, ?_, hw, upd_same, hF4, (racc.mono fr25).append (.cons (by rw [← hK]; exact rd) .nil), ?_, hl2, ?_, h1F.trans fr25⟩
                    · rw [racc.length]
                      have : accD.length < 100001 := by omega
                      exact Nat.lt_of_lt_of_le this (by rw [sizeLine_eq]; decide)
                    · rw [← hwp, ← hK]
                      exact (wipe_stt s6.st).upd hF4 (nA _ hw _ fun j hj => (wipe_get hj).trans (hσ2 j hj))
                    · obtain ⟨z1, z2⟩ := ex4.keep p o h fp nm
                      exact ⟨by rw [upd_ne (fun z => by rw [z, hA0] at h; cases h)]; exact z1, z2⟩
                    · by_cases hp : p = A
                      · rw [hp]; exact hA0
                      · rw [upd_ne hp] at h; exact ex4.dom p h
                    · refine src.stay F5 H4 F5 _ (fun b => b = A) i4 ⟨.refl _, fun p o h fp nm => ⟨by rw [upd_ne nm]; exact h, fp⟩, fun p h => ?_⟩ fun a ha => nomatch ha
                      by_cases hp : p = A
                      · rw [hp, upd_same] at h; cases h
                      · rw [upd_ne hp] at h; exact h
                    · rw [List.length_append]; simp; omega
                    · rw [List.append_assoc]; exact htot
        · have e : i = ds.length := by omega
          subst e
          refine .inl ⟨src.stop F H inv s.sub, ?_⟩
          rw [List.drop_length] at hlo
          unfold lcLo at hlo
          cases hlo
          rw [List.append_nil] at htot
          subst htot
          refine k F H ⟨⟨s.sub, ?_, fun j x e => ?_, fun j o e => ?_, fun j k' o u p e e' z z' => ?_⟩, ex.wk fun p z => ⟨rfl, z⟩, fun j o e => ?_⟩ (.ref A) (.own hFA hHA (.lst racc) hA0)
          · rw [backD_length, ← s.len, wipe_length]
          · rcases backD_get e with z | ⟨y, z1, z2⟩ | ⟨z1, z2⟩
            · cases z
            · cases z1
              obtain ⟨v, e1, r⟩ := s1.st.dd j _ z2
              exact ⟨v, e1, r.mono h1F⟩
            · rw [← hσw j z1]; exact s.dd j x z2
          · rcases backD_get e with z | ⟨y, z1, z2⟩ | ⟨z1, z2⟩
            · cases z
            · cases z1
            · rw [← hσw j z1]; exact s.ow j o z2
          · rcases backD_get e with w | ⟨y, w1, w2⟩ | ⟨w1, w2⟩
            · cases w
            · cases w1
            rcases backD_get e' with v | ⟨y, v1, v2⟩ | ⟨v1, v2⟩
            · cases v
            · cases v1
            rw [← hσw j w1] at z
            rw [← hσw k' v1] at z'
            exact s.ne j k' o u p w2 v2 z z'
          · rcases backD_get e with z | ⟨y, z1, z2⟩ | ⟨z1, z2⟩
            · cases z
            · cases z1
            · obtain ⟨u, hu, _⟩ := hδ j o z2
              exact ⟨u, hu⟩
/-- a comprehension as a value -/
theorem px_lc {X : Cx} {m m' : Pm} {q qc qf : Bool} {elt tg iter : Expr} {ifs : List Expr} {scope : Scope} {own : List (Str × Nat)} {pos : Pos} {t : TG} {tt : TT} {it : LF} {g : D → Dv → Option Dv} {c : BF} {f : XF} {is : List Nat} (hc : X.calm = true) (hN : X.N.Nodup) (hi : PIt X m tg iter q it) (ok : BlkOk X.N X.env.scope scope own)
    (hg : ∀ (s : Shared) (H : Hp) (C : Addr) (cl : List (Str × Addr)) (fp : List Addr), PG (X.blk s H scope (compEnvC scope cl C X.env) fp) tg t) (hT : TgOk m.K t g is) (his : ∀ i ∈ is, i ∈ own.map (·.2))
    (ht : ∀ (s : Shared) (H : Hp) (C : Addr) (cl : List (Str × Addr)) (fp : List Addr), PTs (X.blk s H scope (compEnvC scope cl C X.env) fp) ifs tt) (htt : ∀ σ H Q, TB m' qc c σ H Q → tt σ H Q)
    (he : ∀ (s : Shared) (H : Hp) (C : Addr) (cl : List (Str × Addr)) (fp : List Addr), PX (X.blk s H scope (compEnvC scope cl C X.env) fp) m' elt qf f) (hK : m'.K = m.K := by rfl) (hs : ∀ x, foldedSetIterable iter X.env x = pure x := by intro _; rfl) :
    PX X m (.ListComp elt [⟨tg, iter, ifs, 0⟩] scope pos) false (fLc it g c f (own.map (·.2))) :=
  pe_imp (pe_lc hc hN hi ok hg ht he hs) (lc_read hK (fun _ _ _ z => z) hT his htt fun _ _ _ z => z)
def fYes : BF := fun δ => .ok (true, δ)
theorem tb_yes {m : Pm} (σ : St) (H : Hp) (Q : Bool → Hp → Prop) (h : TB m true fYes σ H Q) : tYes σ H Q := by
  obtain ⟨F, δ, s, k⟩ := h
  exact k F H (.refl s)
end FD
end
section
set_option Elab.async false
set_option linter.all false
set_option maxRecDepth 100000
/-! FD5: defs and their calls. -/
namespace FD
open PySem L2
open PyProof.Rows (envOfC)

/-! ### a def's promise, where nothing is being shown (guards) -/
structure FnG (P : Program) (w : World) (K : PySem.W.Frag) (mg : Str → Option Value) (base : Heap) (k : Nat) (f : Addr) (fd : FuncData) (ps : List Str) (sp : Sp) : Prop where
  len : ∀ vs H Q E, sp vs H Q E → vs.length = ps.length
  run : ∀ (A : Around) (out : List PySem.Env) (s : Shared) (H : Hp) (ar : Args) (us : List Value) (vs : List V) (Q : VK) (E : XK), Room k A → A.guards = some [] → Env0 P w K mg base A out s H → BindsTo s fd ar (ps.zip us) → Vals vs us →
    sp vs H Q E → codeAny (model P w) A (.call (.ref f) ar) (CR (L2.CX P w) out P w H s Q E) s
theorem FnG.mono {P : Program} {w : World} {K : PySem.W.Frag} {mg : Str → Option Value} {base : Heap} {j k : Nat} {f : Addr} {fd : FuncData} {ps : List Str} {sp : Sp} (F : FnG P w K mg base j f fd ps sp) (h : j ≤ k) : FnG P w K mg base k f fd ps sp :=
  ⟨F.len, fun A out s H ar us vs Q E hr hg => F.run A out s H ar us vs Q E (hr.mono h) hg⟩
theorem FnG.of {P : Program} {w : World} {K : PySem.W.Frag} {mg : Str → Option Value} {base : Heap} {k : Nat} {f : Addr} {fd : FuncData} {ps : List Str} {sp : Sp} (F : FnOk P w K mg base (L2.CX P w) k f fd ps sp) : FnG P w K mg base k f fd ps sp :=
  ⟨F.len, fun A out s H ar us vs Q E hr _ => F.run A out s H ar us vs Q E hr⟩

theorem fnG_of {P : Program} {w : World} {K : PySem.W.Frag} {mg : Str → Option Value} {base : Heap} {k : Nat} {x qual : Str} {st : Stmt} {f : Addr} {fd : FuncData} {N ps : List Str} {sp : Sp} {dvs : List V} {kws : List (Str × V)} (F : FunD K x qual (defArgs st) (defBody st) (defScope st) dvs kws f fd) (S : FnScope N ps (defScope st))
    (len : ∀ vs H Q E, sp vs H Q E → vs.length = ps.length)
    (hbody : ∀ (cdv : Value) (A : Around) (out : List PySem.Env) (s : Shared) (H : Hp) (vs : List V) (Q : VK) (E : XK), Room k (A.deeper (envOfC qual (defScope st) s.heap.objs.size f cdv)) → A.guards = some [] → sp vs H Q E →
      ∃ t, PSs (cxOf (L2.CX P w) P w K mg base N qual (defScope st) f cdv A out s H E) (defBody st) t ∧ t { nx := fun _ H' => Q .non H', rt := Q } (L2.start N vs) H) : FnG P w K mg base (k + 1) f fd ps sp := by
  obtain ⟨oc, od, dV, kV, doc, pm, an, cdv, ct, osl, rfl, lk, hcd, _, _⟩ := F.ex
  refine ⟨len, fun A out s H ar us vs Q E hr hgu e0 hb r hsp => ?_⟩
  have hlen := len _ _ _ _ hsp
  have kin : K.In s.heap := e0.mod.kin.keeps fun b o z => (e0.bs b o z).1
  have nol : s.heap.NoLimit := e0.mod.nolimit.keeps fun b o z => (e0.bs b o z).1
  have par : ∀ y ∈ ps.zip us, (defScope st).names.lookup y.1 = some .local ∨ ((defScope st).names.lookup y.1 = some .cell ∧ ((cellsFrom (s.heap.objs.size + 1) (defScope st).names []).lookup y.1).isSome = true) := by
    rintro ⟨n, v⟩ hy
    rcases S.par n (List.of_mem_zip hy).1 with z | z
    · exact .inl z
    · exact .inr ⟨z, PySem.W.cellsFrom_some _ _ _ (.inl z)⟩
  refine codeAny_call_function hr.depth (kin _ _ lk) rfl S.co S.gen rfl (PySem.W.codeRec_of kin hcd) (hb _ _ _ _ ?_)
  refine wpAny_newFunctionEnv_cells S.kind par fun en he s1 y => ?_
  subst he
  refine ⟨nol.keeps y.toInCall.keep, codeAny_func ?_⟩
  obtain ⟨t, ht, hq⟩ := hbody cdv A out s H vs Q E (hr.deeper _) hgu hsp
  have I := inv_start (CX := L2.CX P w) (N := N) (E := E) S hr.hd e0 hlen r y
  refine wpAny_mono (ht.run [] s1 (L2.start N vs) H _ I hq) (fun fl s' hs => ?_) fun e s' hs => hs
  cases fl with
  | ret u =>
    obtain ⟨v, τ, H', J, rv, z⟩ := hs
    exact ⟨v, H', J.os, J.bare, J.base, J.hok, rv, z⟩
  | next =>
    obtain ⟨τ, H', J, z⟩ := hs
    exact ⟨V.non, H', J.os, J.bare, J.base, J.hok, rfl, z⟩
  | brk => obtain ⟨_, _, _, z⟩ := hs; exact z.elim
  | cont => obtain ⟨_, _, _, z⟩ := hs; exact z.elim

theorem runG {X : Cx} {k : Nat} {f : Addr} {fd : FuncData} {ps : List Str} {sp : Sp} {dvs : List V} {dus : List Value} {E : XK} {pins : List (Addr × Obj)} {σ : St} {H : Hp} {s : Shared} {Q : VK} {us : List Value} {vs : List V}
    (F : FnG X.prog X.w X.K X.mg X.base k f fd ps sp) (hr : Room k X.A) (hg : X.A.guards = some []) (hb : Binds X.K fd ps dus) (hd : Vals dvs dus) (hx : PassesAt (L2.CX X.prog X.w) X σ E) (I : Inv X pins σ H s) (r : Vals vs us) (h : sp (vs ++ dvs) H Q E) :
    wpAny (model X.prog X.w) X.A (call (.ref f) us) (EP X pins σ Q) X.xe s := by
  have r2 := r.append hd
  have hl : (us ++ dus).length = ps.length := by rw [← r2.length]; exact F.len _ _ _ _ h
  refine wpAny_call (codeAny_mono (F.run X.A X.stack s H ⟨us, []⟩ _ _ Q E hr hg I.env0 (hb s us I.kIn hl) r2 h) fun res s' hq => ?_)
  match res, hq with
  | .error e, hq => exact hx pins H s e s' I hq
  | .ok (.ret u), hq => exact I.after hq
  | .ok .next, hq => exact False.elim hq
  | .ok .brk, hq => exact False.elim hq
  | .ok .cont, hq => exact False.elim hq
section
variable {X : Cx} {k : Nat} {f : Addr} {fd : FuncData} {ps : List Str} {sp : Sp} {dvs : List V} {dus : List Value} {E : L2.St → XK} {x : Str} {p pos : Pos} {e : Expr} {es : List Expr} {t : TA}
theorem peG_call (F : FnG X.prog X.w X.K X.mg X.base k f fd ps sp) (hr : Room k X.A) (hgu : X.A.guards = some []) (hg : Gl X x) (hm : X.mg x = some (.ref f)) (hk : PySem.W.keepIn X.K (.ref f) = true) (hb : Binds X.K fd ps dus) (hd : Vals dvs dus)
    (hx : ∀ σ, PassesAt (L2.CX X.prog X.w) X σ (E σ)) (ha : PA X (e :: es) t) (hdb : (x == ("__debug__" : Str)) = false := by decide) (he : starEach (e :: es) X.env = (false, eval e X.env) :: starEach es X.env := by rfl)
    (hpl : (backTo pos (starEach es X.env)).any (·.1) = false := by rfl) : PE X (.Call (.Name x p) (e :: es) [] pos) (fun σ H Q => t σ H fun vs H1 => sp (vs ++ dvs) H1 Q (E σ)) := by
  refine ⟨fun pins s σ H Q I h => wpAny_Call_Name_kw (ld_glob I hg hm ?_ hdb)⟩
  refine PySem.W.callWith_K (h₀ := X.base) I.ok.mod.kin hk (thn (ha.run pos pins s σ H _ I h) ?_) he hpl
  rintro us s1 ⟨vs, H1, I1, r, z⟩
  exact ⟨I1.kIn, runG F hr hgu hb hd (hx σ) I1 r z⟩
theorem peG_call0 (F : FnG X.prog X.w X.K X.mg X.base k f fd ps sp) (hr : Room k X.A) (hgu : X.A.guards = some []) (hg : Gl X x) (hm : X.mg x = some (.ref f)) (hk : PySem.W.keepIn X.K (.ref f) = true) (hb : Binds X.K fd ps dus) (hd : Vals dvs dus)
    (hx : ∀ σ, PassesAt (L2.CX X.prog X.w) X σ (E σ)) (hdb : (x == ("__debug__" : Str)) = false := by decide) : PE X (.Call (.Name x p) [] [] pos) (fun σ H Q => sp dvs H Q (E σ)) := by
  refine ⟨fun pins s σ H Q I h => wpAny_Call_Name_kw (ld_glob I hg hm ?_ hdb)⟩
  exact PySem.W.callWith_K0 I.kIn hk (runG (us := []) F hr hgu hb hd (hx σ) I .nil h)
end

/-! ### arguments: data, or an own object lent -/
inductive Ar where
  | d (x : D) | bor (i : Nat)
inductive RepA (K : PySem.W.Frag) (F : Hp) (σ : St) : List V → List Ar → Prop
  | nil : RepA K F σ [] []
  | d {v : V} {x : D} {vs : List V} {as : List Ar} : RepD K F v x → RepA K F σ vs as → RepA K F σ (v :: vs) (.d x :: as)
  | bor {v : V} {i : Nat} {vs : List V} {as : List Ar} : σ[i]? = some (some v) → RepA K F σ vs as → RepA K F σ (v :: vs) (.bor i :: as)
theorem RepA.mono {K : PySem.W.Frag} {F F' : Hp} {σ : St} (s : Same F F') : ∀ {vs : List V} {as : List Ar}, RepA K F σ vs as → RepA K F' σ vs as
  | _, _, .nil => .nil
  | _, _, .d h r => .d (h.mono s) (r.mono s)
  | _, _, .bor h r => .bor h (r.mono s)
theorem RepA.length {K : PySem.W.Frag} {F : Hp} {σ : St} : ∀ {vs : List V} {as : List Ar}, RepA K F σ vs as → vs.length = as.length
  | _, _, .nil => rfl
  | _, _, .d _ r => by simp [r.length]
  | _, _, .bor _ r => by simp [r.length]
theorem RepA.get {K : PySem.W.Frag} {F : Hp} {σ : St} : ∀ {vs : List V} {as : List Ar} {j : Nat} {a : Ar}, RepA K F σ vs as → as[j]? = some a → ∃ v, vs[j]? = some v ∧ match a with
    | .d x => RepD K F v x
    | .bor i => σ[i]? = some (some v)
  | _, _, j, _, .nil, e => by simp at e
  | _, _, 0, _, .d h r, e => by simp at e; subst e; exact ⟨_, rfl, h⟩
  | _, _, 0, _, .bor h r, e => by simp at e; subst e; exact ⟨_, rfl, h⟩
  | _, _, j + 1, _, .d h r, e => by
    obtain ⟨v, h1, h2⟩ := RepA.get (j := j) r (by simpa using e)
    exact ⟨v, by simpa using h1, h2⟩
  | _, _, j + 1, _, .bor h r, e => by
    obtain ⟨v, h1, h2⟩ := RepA.get (j := j) r (by simpa using e)
    exact ⟨v, by simpa using h1, h2⟩
abbrev AF := Dv → Rs (List Ar × Dv)
def TAr (m : Pm) (q : Bool) (f : AF) : TA := fun σ H Q => ∃ F δ, Stt m.K F σ δ H ∧ Gd m q F H σ δ (f δ) fun as F' H' => ∀ vs, RepA m.K F' σ vs as → Q vs H'
def PAr (X : Cx) (m : Pm) (es : List Expr) (q : Bool) (f : AF) : Prop := PA X es (TAr m q f)
def aNil : AF := fun δ => .ok ([], δ)
def aCons (fa : VF) (fs : AF) : AF := fun δ => (fa δ).bind fun a => (fs a.2).bind fun b => .ok (.d a.1 :: b.1, b.2)
def aBor (i : Nat) (fs : AF) : AF := fun δ => match δ[i]? with
  | some (.d x) => (fs δ).bind fun b => .ok (.d x :: b.1, b.2)
  | some (.own _) => (fs δ).bind fun b => .ok (.bor i :: b.1, b.2)
  | _ => .no
section
variable {X : Cx} {m : Pm} {e : Expr} {es : List Expr} {q q' : Bool}
theorem ar_nil : PAr X m [] true aNil := pa_imp pa_nil fun σ H Q => by
  rintro ⟨F, δ, s, g⟩
  exact g F H (.refl s) [] .nil
theorem ar_cons {fa : VF} {fs : AF} (ha : PV X m e q fa) (hr : PAr X m es q' fs) (hs : starEach (e :: es) X.env = (false, eval e X.env) :: starEach es X.env := by rfl) : PAr X m (e :: es) (q && q') (aCons fa fs) := by
  refine pa_imp (pa_cons ha hr hs) fun σ H Q => ?_
  rintro ⟨F, δ, s, h⟩
  refine ⟨F, δ, s, Gd.first (q' := q') h fun d δ1 F1 H1 e1 g1 s1 x rx => ?_⟩
  refine ⟨F1, δ1, s1.st, ?_⟩
  cases hb : fs δ1 with
  | exc c fs' => dsimp only at g1; rw [hb] at g1; exact GX.step (show GX m F H σ δ c fs' from g1) s1
  | no => dsimp only at g1; rw [hb] at g1; exact g1
  | ok bb =>
    dsimp only at g1
    rw [hb] at g1
    intro F2 H2 s2 ys ry
    exact g1 F2 H2 (s1.trans s2) _ (.d (rx.mono s2.ex.fr) ry)
theorem ar_bor {i : Nat} {fs : AF} (ha : PE X e (tVar i)) (hr : PAr X m es q' fs) (hs : starEach (e :: es) X.env = (false, eval e X.env) :: starEach es X.env := by rfl) : PAr X m (e :: es) q' (aBor i fs) := by
  refine pa_imp (pa_cons ha hr hs) fun σ H Q => ?_
  rintro ⟨F, δ, s, h⟩
  unfold aBor at h
  split at h
  · rename_i x hx
    obtain ⟨v, e1, rv⟩ := s.dd i x hx
    refine ⟨v, e1, F, δ, s, ?_⟩
    cases hb : fs δ with
    | exc c fs' => rw [hb] at h; exact h
    | no => rw [hb] at h; exact h
    | ok bb => rw [hb] at h; exact fun F2 H2 s2 ys ry => h F2 H2 s2 _ (.d (rv.mono s2.ex.fr) ry)
  · rename_i o hx
    obtain ⟨p, ho, e1, e2, e3, r⟩ := s.ow i o hx
    refine ⟨_, e1, F, δ, s, ?_⟩
    cases hb : fs δ with
    | exc c fs' => rw [hb] at h; exact h
    | no => rw [hb] at h; exact h
    | ok bb => rw [hb] at h; exact fun F2 H2 s2 ys ry => h F2 H2 s2 _ (.bor e1 ry)
  · exact h.elim
end

/-! ### a def as a function of data -/
def keepS : Sl → Sl
  | .own o => .own o
  | _ => .no
abbrev FnT := List Sl → Rs (EV × List Sl)
def spG (K : PySem.W.Frag) (cls : Str → Addr) (fn : FnT) : Sp := fun vs H Q E => ∃ F args, Stt K F (vs.map some) args H ∧ match fn args with
  | .ok (z, args') => ∀ v F' H', Stt K F' (vs.map some) (args'.map keepS) H' → Ext F H (OwnAt (vs.map some) args) F' H' → (∀ (i : Nat) (o : Ob), args'[i]? = some (.own o) → ∃ u, args[i]? = some (.own u)) → RepZ K F' H' H v z → Q v H'
  | .exc c fs => ∀ d F' H', H d = none → Same F' H' → Ext F H (OwnAt (vs.map some) args) F' H' → XRep K F' H' d fs → E (.ref (cls c)) (some d) H'
  | .no => False
def runF (n N : Nat) (body : SF) : FnT := fun args => if args.length = n then (body (args ++ List.replicate (N - n) .no)).bind fun o => match o with
  | .rt z δ => .ok (z, δ.take n)
  | .nx δ => .ok (.d .non, δ.take n)
  | _ => .no else .no
theorem stt_pad {K : PySem.W.Frag} {F H : Hp} {σ : St} {args : List Sl} {n : Nat} (s : Stt K F σ args H) : Stt K F (σ ++ List.replicate n none) (args ++ List.replicate n .no) H := by
  have get : ∀ {i : Nat} {x : Sl}, (args ++ List.replicate n Sl.no)[i]? = some x → x = .no ∨ (args[i]? = some x ∧ i < args.length) := fun {i x} e => by
    by_cases hi : i < args.length
    · rw [List.getElem?_append_left hi] at e; exact .inr ⟨e, hi⟩
    · rw [List.getElem?_append_right (by omega), List.getElem?_replicate] at e
      split at e
      · injection e with e; exact .inl e.symm
      · cases e
  have getσ : ∀ {i : Nat}, i < args.length → (σ ++ List.replicate n (none : Option V))[i]? = σ[i]? := fun hi => List.getElem?_append_left (by rw [s.len]; exact hi)
  refine ⟨s.sub, by simp [s.len], fun i x e => ?_, fun i o e => ?_, fun i j o u p e e' z z' => ?_⟩
  · rcases get e with w | ⟨w, hi⟩
    · cases w
    · rw [getσ hi]; exact s.dd i x w
  · rcases get e with w | ⟨w, hi⟩
    · cases w
    · rw [getσ hi]; exact s.ow i o w
  · rcases get e with w | ⟨w, hi⟩
    · cases w
    rcases get e' with w' | ⟨w', hi'⟩
    · cases w'
    rw [getσ hi] at z; rw [getσ hi'] at z'
    exact s.ne i j o u p w w' z z'
theorem own_pad {σ : St} {args : List Sl} {n : Nat} (hl : σ.length = args.length) {p : Addr} : OwnAt (σ ++ List.replicate n none) (args ++ List.replicate n .no) p ↔ OwnAt σ args p := by
  constructor
  · rintro ⟨i, o, e1, e2⟩
    by_cases hi : i < args.length
    · rw [List.getElem?_append_left hi] at e1
      rw [List.getElem?_append_left (by omega)] at e2
      exact ⟨i, o, e1, e2⟩
    · rw [List.getElem?_append_right (by omega), List.getElem?_replicate] at e1
      split at e1 <;> cases e1
  · rintro ⟨i, o, e1, e2⟩
    have hi : i < args.length := (List.getElem?_eq_some_iff.mp e1).1
    exact ⟨i, o, by rw [List.getElem?_append_left hi]; exact e1, by rw [List.getElem?_append_left (by omega)]; exact e2⟩

/-- THE RULE for a def: its body as a function of data -/
theorem fn_body {P : Program} {w : World} {K : PySem.W.Frag} {mg : Str → Option Value} {base : Heap} {k : Nat} {x qual : Str} {st : Stmt} {f : Addr} {fd : FuncData} {N ps : List Str} {cls : Str → Addr} {g : SF} {dvs : List V} {kws : List (Str × V)} (F : FunD K x qual (defArgs st) (defBody st) (defScope st) dvs kws f fd) (S : FnScope N ps (defScope st))
    (body : ∀ (cdv : Value) (A : Around) (out : List PySem.Env) (s : Shared) (H : Hp) (E : XK), Room k (A.deeper (envOfC qual (defScope st) s.heap.objs.size f cdv)) → A.guards = some [] →
      PSq (cxOf (L2.CX P w) P w K mg base N qual (defScope st) f cdv A out s H E) ⟨K, fun _ => E, cls⟩ ps.length (defBody st) g) : FnG P w K mg base (k + 1) f fd ps (spG K cls (runF ps.length N.length g)) := by
  refine fnG_of F S (fun vs H Q E h => ?_) fun cdv A out s H vs Q E hr hgu h => ⟨_, body cdv A out s H E hr hgu, ?_⟩
  · obtain ⟨F0, args, st0, h⟩ := h
    by_cases hl : args.length = ps.length
    · have := st0.len
      rw [List.length_map] at this
      omega
    · unfold runF at h
      rw [if_neg hl] at h
      exact h.elim
  · obtain ⟨F0, args, st0, h⟩ := h
    unfold runF at h
    by_cases hl : args.length = ps.length
    rotate_left
    · rw [if_neg hl] at h
      exact h.elim
    rw [if_pos hl] at h
    have hvl : vs.length = ps.length := by
      have := st0.len
      rw [List.length_map] at this
      omega
    have hst : L2.start N vs = vs.map some ++ List.replicate (N.length - ps.length) none := by unfold L2.start; rw [hvl]
    rw [hst]
    have s1 := stt_pad (n := N.length - ps.length) st0
    refine ⟨F0, _, s1, ?_⟩
    have own1 : ∀ p, OwnAt (vs.map some ++ List.replicate (N.length - ps.length) none) (args ++ List.replicate (N.length - ps.length) .no) p ↔ OwnAt (vs.map some) args p := fun p => own_pad st0.len
    have leave : ∀ (z : EV) (δ' : Dv) (F' H' : Hp) (σ' : St) (v : V), SStep K ps.length F0 H (vs.map some ++ List.replicate (N.length - ps.length) none) (args ++ List.replicate (N.length - ps.length) .no) F' H' σ' δ' → RepZ K F' H' H v z →
        (∀ v F' H', Stt K F' (vs.map some) ((δ'.take ps.length).map keepS) H' → Ext F0 H (OwnAt (vs.map some) args) F' H' → (∀ (i : Nat) (o : Ob), (δ'.take ps.length)[i]? = some (.own o) → ∃ u, args[i]? = some (.own u)) → RepZ K F' H' H v z → Q v H') → Q v H' := by
      intro z δ' F' H' σ' v ss rz kk
      have hdl : δ'.length = ps.length + (N.length - ps.length) := by
        rw [← ss.st.len, ss.ln, List.length_append, List.length_map, List.length_replicate, hvl]
      have tk : ∀ {i : Nat} {x : Sl}, (δ'.take ps.length)[i]? = some x → i < ps.length ∧ δ'[i]? = some x := fun {i x} e => by
        have hi : i < ps.length := by
          have := (List.getElem?_eq_some_iff.mp e).1
          rw [List.length_take] at this
          omega
        rw [List.getElem?_take_of_lt hi] at e
        exact ⟨hi, e⟩
      have back : ∀ {i : Nat} {o : Ob}, (δ'.take ps.length)[i]? = some (.own o) → σ'[i]? = (vs.map some)[i]? ∧ ∃ u, args[i]? = some (.own u) := fun {i o} e => by
        obtain ⟨hi, e⟩ := tk e
        obtain ⟨h1, u, h2⟩ := ss.pr i hi o e
        rw [List.getElem?_append_left (by rw [List.length_map]; omega)] at h1
        rw [List.getElem?_append_left (by omega)] at h2
        exact ⟨h1, u, h2⟩
      have kp : ∀ {i : Nat} {x : Sl}, ((δ'.take ps.length).map keepS)[i]? = some x → x = .no ∨ ∃ o, x = .own o ∧ (δ'.take ps.length)[i]? = some (.own o) := fun {i x} e => by
        rw [List.getElem?_map] at e
        cases hh : (δ'.take ps.length)[i]? with
        | none => rw [hh] at e; cases e
        | some y =>
          rw [hh] at e
          injection e with e
          cases y with
          | own o => exact .inr ⟨o, e.symm, rfl⟩
          | d y => exact .inl e.symm
          | no => exact .inl e.symm
      refine kk v F' H' ⟨ss.st.sub, by simp only [List.length_map, List.length_take]; omega, fun i x e => ?_, fun i o e => ?_, fun i j o u p e e' z z' => ?_⟩ (ss.ex.wk fun p z => (own1 p).mp z) (fun i o e => (back e).2) rz
      · rcases kp e with w | ⟨o, w, _⟩ <;> cases w
      · rcases kp e with w | ⟨o', w, w2⟩
        · cases w
        · cases w
          rw [← (back w2).1]
          exact ss.st.ow i o (tk w2).2
      · rcases kp e with w | ⟨o', w, w2⟩
        · cases w
        rcases kp e' with y | ⟨u', y, y2⟩
        · cases y
        rw [← (back w2).1] at z
        rw [← (back y2).1] at z'
        exact ss.st.ne i j _ _ p (tk w2).2 (tk y2).2 z z'
    cases hr : g (args ++ List.replicate (N.length - ps.length) .no) with
    | no => rw [hr] at h; exact h.elim
    | exc c fs =>
      rw [hr] at h
      exact fun d F' H' h0 h1 h2 h3 => h d F' H' h0 h1 (h2.wk fun p z => (own1 p).mp z.2) h3
    | ok o =>
      rw [hr] at h
      cases o with
      | nx δ' => exact fun F' H' σ' ss => leave (.d .non) δ' F' H' σ' .non ss (.d .non) h
      | rt z δ' => exact fun F' H' σ' v ss rz => leave z δ' F' H' σ' v ss rz h
      | bk δ' => exact h.elim
      | ct δ' => exact h.elim
end FD
end
section
set_option Elab.async false
set_option linter.all false
set_option maxRecDepth 100000
/-! FD6: a call of a def, as a function of data; the law's own call. -/
namespace FD
open PySem L2

def argSl (δ : Dv) : Ar → Sl
  | .d x => .d x
  | .bor i => (δ[i]?).getD .no
def borIx : List Ar → List Nat
  | [] => []
  | .d _ :: as => borIx as
  | .bor i :: as => i :: borIx as
def putB : List Ar → List Sl → Dv → Dv
  | .bor i :: as, s :: ss, δ => (putB as ss δ).set i (keepS s)
  | .d _ :: as, _ :: ss, δ => putB as ss δ
  | _, _, δ => δ
def fCall (fn : FnT) (fa : AF) : XF := fun δ => (fa δ).bind fun a => if (borIx a.1).Nodup then (fn (a.1.map (argSl a.2))).bind fun r => .ok (r.1, putB a.1 r.2 a.2) else .no
theorem putB_length : ∀ (as : List Ar) (ss : List Sl) (δ : Dv), (putB as ss δ).length = δ.length
  | [], _, _ => rfl
  | .d _ :: as, [], _ => rfl
  | .bor _ :: as, [], _ => rfl
  | .d _ :: as, s :: ss, δ => putB_length as ss δ
  | .bor i :: as, s :: ss, δ => by
    show ((putB as ss δ).set i (keepS s)).length = _
    rw [List.length_set, putB_length as ss δ]
theorem putB_get : ∀ (as : List Ar) (ss : List Sl) (δ : Dv) {j : Nat} {s : Sl}, as.length = ss.length → (putB as ss δ)[j]? = some s →
    (j ∉ borIx as ∧ δ[j]? = some s) ∨ ∃ (k : Nat) (s0 : Sl), as[k]? = some (.bor j) ∧ ss[k]? = some s0 ∧ s = keepS s0
  | [], _, _, _, _, _, e => .inl ⟨by simp [borIx], e⟩
  | .d _ :: as, [], _, _, _, h, _ => by simp at h
  | .bor _ :: as, [], _, _, _, h, _ => by simp at h
  | .d _ :: as, s :: ss, δ, j, s', h, e => by
    rcases putB_get as ss δ (j := j) (s := s') (by simpa using h) e with z | ⟨k, s0, z1, z2, z3⟩
    · exact .inl z
    · exact .inr ⟨k + 1, s0, by simpa using z1, by simpa using z2, z3⟩
  | .bor i :: as, s :: ss, δ, j, s', h, e => by
    have e' : ((putB as ss δ).set i (keepS s))[j]? = some s' := e
    by_cases hj : j = i
    · subst hj
      have hl : j < (putB as ss δ).length := by
        have := (List.getElem?_eq_some_iff.mp e').1
        rwa [List.length_set] at this
      rw [List.getElem?_set_self hl] at e'
      injection e' with e'
      exact .inr ⟨0, s, rfl, rfl, e'.symm⟩
    · rw [List.getElem?_set_ne (Ne.symm hj)] at e'
      rcases putB_get as ss δ (j := j) (s := s') (by simpa using h) e' with ⟨z1, z2⟩ | ⟨k, s0, z1, z2, z3⟩
      · exact .inl ⟨by simp [borIx, hj, z1], z2⟩
      · exact .inr ⟨k + 1, s0, by simpa using z1, by simpa using z2, z3⟩
theorem bor_mem : ∀ {as : List Ar} {k i : Nat}, as[k]? = some (.bor i) → i ∈ borIx as
  | [], _, _, h => by simp at h
  | .d _ :: as, 0, _, h => by simp at h
  | .bor _ :: as, 0, _, h => by simp at h; subst h; simp [borIx]
  | .d _ :: as, k + 1, i, h => bor_mem (as := as) (k := k) (by simpa using h)
  | .bor _ :: as, k + 1, i, h => by
    have := bor_mem (as := as) (k := k) (i := i) (by simpa using h)
    simp [borIx, this]
theorem bor_inj : ∀ {as : List Ar} {k l i : Nat}, (borIx as).Nodup → as[k]? = some (.bor i) → as[l]? = some (.bor i) → k = l
  | [], _, _, _, _, h, _ => by simp at h
  | .d _ :: as, 0, _, _, _, h, _ => by simp at h
  | .d _ :: as, _ + 1, 0, _, _, _, h => by simp at h
  | .d _ :: as, k + 1, l + 1, i, nd, h, h' => by
    have := bor_inj (as := as) (k := k) (l := l) (i := i) nd (by simpa using h) (by simpa using h')
    omega
  | .bor _ :: as, 0, 0, _, _, _, _ => rfl
  | .bor b :: as, 0, l + 1, i, nd, h, h' => by
    simp at h
    subst h
    have := bor_mem (as := as) (k := l) (i := b) (by simpa using h')
    exact absurd this (List.nodup_cons.mp nd).1
  | .bor b :: as, k + 1, 0, i, nd, h, h' => by
    simp at h'
    subst h'
    have := bor_mem (as := as) (k := k) (i := b) (by simpa using h)
    exact absurd this (List.nodup_cons.mp nd).1
  | .bor _ :: as, k + 1, l + 1, i, nd, h, h' => by
    have := bor_inj (as := as) (k := k) (l := l) (i := i) (List.nodup_cons.mp nd).2 (by simpa using h) (by simpa using h')
    omega

theorem call_read {m : Pm} {q : Bool} {fn : FnT} {fa : AF} (σ : St) (H : Hp) (Q : VK) (h : TX m false (fCall fn fa) σ H Q) : TAr m q fa σ H fun vs H1 => spG m.K m.cls fn vs H1 Q (m.E σ) := by
  obtain ⟨F, δ, s, h⟩ := h
  refine ⟨F, δ, s, ?_⟩
  unfold fCall at h
  cases hfa : fa δ with
  | exc c fs => rw [hfa] at h; exact h
  | no => rw [hfa] at h; exact h
  | ok o =>
    obtain ⟨as, δ1⟩ := o
    rw [hfa] at h
    intro F1 H1 s1 vs ra
    dsimp only [Rs.bind_ok] at h
    by_cases nd : (borIx as).Nodup
    rotate_left
    · rw [if_neg nd] at h; exact h.elim
    rw [if_pos nd] at h
    have hlen : vs.length = as.length := ra.length
    -- what an argument's slot is
    have arg : ∀ {j : Nat} {x : Sl}, (as.map (argSl δ1))[j]? = some x → ∃ v, vs[j]? = some v ∧ ((∃ y, as[j]? = some (.d y) ∧ x = .d y ∧ RepD m.K F1 v y) ∨ ∃ i, as[j]? = some (.bor i) ∧ x = (δ1[i]?).getD .no ∧ σ[i]? = some (some v)) := fun {j x} e => by
      rw [List.getElem?_map] at e
      cases ha : as[j]? with
      | none => rw [ha] at e; cases e
      | some a =>
        rw [ha] at e
        injection e with e
        obtain ⟨v, h1, h2⟩ := ra.get ha
        refine ⟨v, h1, ?_⟩
        cases a with
        | d y => exact .inl ⟨y, rfl, e.symm, h2⟩
        | bor i => exact .inr ⟨i, rfl, e.symm, h2⟩
    have argO : ∀ {j : Nat} {o : Ob}, (as.map (argSl δ1))[j]? = some (.own o) → ∃ v i, vs[j]? = some v ∧ as[j]? = some (.bor i) ∧ δ1[i]? = some (.own o) ∧ σ[i]? = some (some v) := fun {j o} e => by
      obtain ⟨v, h1, ⟨y, _, z, _⟩ | ⟨i, h2, z, h3⟩⟩ := arg e
      · cases z
      · cases hd : δ1[i]? with
        | none => rw [hd] at z; cases z
        | some w =>
          rw [hd] at z
          have z' : Sl.own o = w := z
          subst z'
          exact ⟨v, i, h1, h2, hd, h3⟩
    have stA : Stt m.K F1 (vs.map some) (as.map (argSl δ1)) H1 := by
      refine ⟨s1.st.sub, by simp [hlen], fun j x e => ?_, fun j o e => ?_, fun j k o u p e e' z z' => ?_⟩
      · obtain ⟨v, h1, ⟨y, _, w, h2⟩ | ⟨i, h2, w, h3⟩⟩ := arg e
        · cases w
          exact ⟨v, by rw [List.getElem?_map, h1]; rfl, h2⟩
        · cases hd : δ1[i]? with
          | none => rw [hd] at w; cases w
          | some y =>
            rw [hd] at w
            have w' : Sl.d x = y := w
            subst w'
            obtain ⟨v', e1, e2⟩ := s1.st.dd i x hd
            rw [h3] at e1; cases e1
            exact ⟨v, by rw [List.getElem?_map, h1]; rfl, e2⟩
      · obtain ⟨v, i, h1, h2, h3, h4⟩ := argO e
        obtain ⟨p, ho, e1, e2, e3, r⟩ := s1.st.ow i o h3
        rw [h4] at e1; cases e1
        exact ⟨p, ho, by rw [List.getElem?_map, h1]; rfl, e2, e3, r⟩
      · obtain ⟨v, i, h1, h2, h3, h4⟩ := argO e
        obtain ⟨v', i', h1', h2', h3', h4'⟩ := argO e'
        rw [List.getElem?_map, h1] at z
        rw [List.getElem?_map, h1'] at z'
        cases z; cases z'
        have := s1.st.ne i i' o u p h3 h3' h4 h4'
        subst this
        exact bor_inj nd h2 h2'
    have ownA : ∀ p, OwnAt (vs.map some) (as.map (argSl δ1)) p → ∃ i, i ∈ borIx as ∧ (∃ o, δ1[i]? = some (.own o)) ∧ σ[i]? = some (some (.ref p)) := fun p ⟨j, o, e1, e2⟩ => by
      obtain ⟨v, i, h1, h2, h3, h4⟩ := argO e1
      rw [List.getElem?_map, h1] at e2
      cases e2
      exact ⟨i, bor_mem h2, ⟨o, h3⟩, h4⟩
    refine ⟨F1, _, stA, ?_⟩
    cases hfn : fn (as.map (argSl δ1)) with
    | no => rw [hfn] at h; exact h.elim
    | exc c fs =>
      rw [hfn] at h
      intro d F' H' h0 h1 h2 h3
      refine GX.step (show GX m F H σ δ c fs from h) s1 d F' H' h0 h1 (h2.wk fun p z => ?_) h3
      obtain ⟨i, _, ⟨o, ho⟩, hs⟩ := ownA p z
      exact ⟨rfl, i, o, ho, hs⟩
    | ok r =>
      obtain ⟨z, args'⟩ := r
      rw [hfn] at h
      intro v F2 H2 st2 ex2 ix2 rz
      have hl2 : as.length = args'.length := by
        have := st2.len
        simp only [List.length_map] at this
        omega
      have pg := fun {j : Nat} {s : Sl} => putB_get as args' δ1 (j := j) (s := s) hl2
      have exS : Ext F1 H1 (OwnAt σ δ1) F2 H2 := ex2.wk fun p z => by
        obtain ⟨i, _, ⟨o, ho⟩, hs⟩ := ownA p z
        exact ⟨i, o, ho, hs⟩
      -- a lent object, behind the call
      have lent : ∀ {j k : Nat} {s0 : Sl} {o : Ob}, as[k]? = some (.bor j) → args'[k]? = some s0 → Sl.own o = keepS s0 → (∃ p ho, σ[j]? = some (some (.ref p)) ∧ F2 p = none ∧ H2 p = some ho ∧ RepO m.K F2 ho o) ∧ ∃ u, δ1[j]? = some (.own u) := fun {j k s0 o} e1 e2 e3 => by
        cases s0 with
        | no => cases e3
        | d _ => cases e3
        | own o' =>
          cases e3
          obtain ⟨p, ho, h1, h2, h3, h4⟩ := st2.ow k o (by rw [List.getElem?_map, e2]; rfl)
          obtain ⟨u, hu⟩ := ix2 k o e2
          obtain ⟨v', i', k1, k2, k3, k4⟩ := argO hu
          rw [e1] at k2
          cases k2
          rw [List.getElem?_map, k1] at h1
          cases h1
          exact ⟨⟨p, ho, k4, h2, h3, h4⟩, u, k3⟩
      have ix : ∀ {j : Nat} {o : Ob}, (putB as args' δ1)[j]? = some (.own o) → ∃ u, δ1[j]? = some (.own u) := fun {j o} e => by
        rcases pg e with ⟨_, z⟩ | ⟨k, s0, z1, z2, z3⟩
        · exact ⟨o, z⟩
        · exact (lent z1 z2 z3).2
      have st : Step m.K false F1 H1 σ δ1 F2 H2 (putB as args' δ1) := by
        refine ⟨⟨st2.sub, by rw [putB_length]; exact s1.st.len, fun j x e => ?_, fun j o e => ?_, fun j k o u p e e' z z' => ?_⟩, exS.wk fun p z => ⟨rfl, z⟩, fun j o e => ix e⟩
        · rcases pg e with ⟨_, z⟩ | ⟨k, s0, z1, z2, z3⟩
          · obtain ⟨w, e1, e2⟩ := s1.st.dd j x z
            exact ⟨w, e1, e2.mono exS.fr⟩
          · cases s0 <;> cases z3
        · rcases pg e with ⟨nj, z⟩ | ⟨k, s0, z1, z2, z3⟩
          · obtain ⟨p, ho, e1, e2, e3, r⟩ := s1.st.ow j o z
            obtain ⟨k1, k2⟩ := ex2.keep p ho e3 e2 fun w => by
              obtain ⟨i, hi, ⟨o', ho'⟩, hs⟩ := ownA p w
              have := s1.st.ne i j o' o p ho' z hs e1
              subst this
              exact nj hi
            exact ⟨p, ho, e1, k2, k1, r.mono exS.fr⟩
          · exact (lent z1 z2 z3).1
        · obtain ⟨o1, h1⟩ := ix e
          obtain ⟨o2, h2⟩ := ix e'
          exact s1.st.ne j k o1 o2 p h1 h2 z z'
      exact h F2 H2 (by have := s1.trans st; rw [Bool.and_false] at this; exact this) v (rz.fresh s1.ex.dom)
section
variable {X : Cx} {m : Pm} {k : Nat} {f : Addr} {fd : FuncData} {ps : List Str} {q : Bool} {x : Str} {p pos : Pos} {e : Expr} {es : List Expr} {fn : FnT} {fa : AF}
/-- f(e, ..) -/
theorem px_call (F : FnG X.prog X.w X.K X.mg X.base k f fd ps (spG m.K m.cls fn)) (hr : Room k X.A) (hgu : X.A.guards = some []) (hg : Gl X x) (hm : X.mg x = some (.ref f)) (hk : PySem.W.keepIn X.K (.ref f) = true) (hb : Binds X.K fd ps [])
    (hx : ∀ σ, PassesAt (L2.CX X.prog X.w) X σ (m.E σ)) (ha : PAr X m (e :: es) q fa) (hdb : (x == ("__debug__" : Str)) = false := by decide) (he : starEach (e :: es) X.env = (false, eval e X.env) :: starEach es X.env := by rfl)
    (hpl : (backTo pos (starEach es X.env)).any (·.1) = false := by rfl) : PX X m (.Call (.Name x p) (e :: es) [] pos) false (fCall fn fa) :=
  pe_imp (peG_call F hr hgu hg hm hk hb .nil hx ha hdb he hpl) fun σ H Q h => by
    have := call_read (q := q) σ H Q h
    refine (show TAr m q fa σ H (fun vs H1 => spG m.K m.cls fn (vs ++ []) H1 Q (m.E σ)) from ?_)
    simpa only [List.append_nil] using this
end
end FD
end
section
set_option Elab.async false
set_option linter.all false
set_option maxRecDepth 100000
/-! FD7: operations, built-ins. -/
namespace FD
open PySem L2

/-! ### lists of one kind -/
def intsOf : List D → Option (List Int)
  | [] => some []
  | .int i :: ds => (intsOf ds).map (i :: ·)
  | _ => none
def blsOf : List D → Option (List Bool)
  | [] => some []
  | .bl i :: ds => (blsOf ds).map (i :: ·)
  | _ => none
def strsOf : List D → Option (List Str)
  | [] => some []
  | .str i :: ds => (strsOf ds).map (i :: ·)
  | _ => none
theorem intsOf_map (ns : List Int) : intsOf (ns.map D.int) = some ns := by
  induction ns with
  | nil => rfl
  | cons n ns ih => simp [intsOf, ih]
theorem blsOf_map (ns : List Bool) : blsOf (ns.map D.bl) = some ns := by
  induction ns with
  | nil => rfl
  | cons n ns ih => simp [blsOf, ih]
theorem strsOf_map (ns : List Str) : strsOf (ns.map D.str) = some ns := by
  induction ns with
  | nil => rfl
  | cons n ns ih => simp [strsOf, ih]
section
variable {K : PySem.W.Frag} {F : Hp}
theorem RepL.ints : ∀ {vs : List V} {ds : List D} {ns : List Int}, RepL K F vs ds → intsOf ds = some ns → vs = ns.map V.int
  | _, _, _, .nil, e => by cases e; rfl
  | _, _, ns, .cons (d := d) (ds := ds) h r, e => by
    cases h <;> try (cases e)
    rename_i i
    cases h2 : intsOf ds with
    | none => rw [show intsOf (D.int i :: ds) = (intsOf ds).map (i :: ·) from rfl, h2] at e; cases e
    | some ms =>
      rw [show intsOf (D.int i :: ds) = (intsOf ds).map (i :: ·) from rfl, h2] at e
      cases e
      rw [r.ints h2]; rfl
theorem RepL.bls : ∀ {vs : List V} {ds : List D} {ns : List Bool}, RepL K F vs ds → blsOf ds = some ns → vs = ns.map V.bl
  | _, _, _, .nil, e => by cases e; rfl
  | _, _, ns, .cons (d := d) (ds := ds) h r, e => by
    cases h <;> try (cases e)
    rename_i i
    cases h2 : blsOf ds with
    | none => rw [show blsOf (D.bl i :: ds) = (blsOf ds).map (i :: ·) from rfl, h2] at e; cases e
    | some ms =>
      rw [show blsOf (D.bl i :: ds) = (blsOf ds).map (i :: ·) from rfl, h2] at e
      cases e
      rw [r.bls h2]; rfl
theorem RepL.strs : ∀ {vs : List V} {ds : List D} {ns : List Str}, RepL K F vs ds → strsOf ds = some ns → vs = ns.map V.str
  | _, _, _, .nil, e => by cases e; rfl
  | _, _, ns, .cons (d := d) (ds := ds) h r, e => by
    cases h <;> try (cases e)
    rename_i i
    cases h2 : strsOf ds with
    | none => rw [show strsOf (D.str i :: ds) = (strsOf ds).map (i :: ·) from rfl, h2] at e; cases e
    | some ms =>
      rw [show strsOf (D.str i :: ds) = (strsOf ds).map (i :: ·) from rfl, h2] at e
      cases e
      rw [r.strs h2]; rfl
end

/-! ### + - * // % ** -/
def lim : Nat := 100000
theorem lim_le : lim ≤ sizeLine := by rw [sizeLine_eq]; decide
def vAdd : D → D → Option EV
  | .int i, .int j => some (.d (.int (i + j)))
  | .str a, .str b => if a.length + b.length ≤ lim then some (.d (.str (a ++ b))) else none
  | .lst a, .lst b => if a.length + b.length ≤ lim then some (.own (.lst (a ++ b))) else none
  | .tup a, .tup b => if a.length + b.length ≤ lim then some (.d (.tup (a ++ b))) else none
  | _, _ => none
def rAddAll (K : PySem.W.Frag) : R2 := fun x y H Q => rI0 (fun i j => .int (i + j)) x y H Q ∨ (∃ i j, x = .str i ∧ y = .str j ∧ i.length + j.length ≤ sizeLine ∧ Q (.str (i ++ j)) H) ∨ rCat x y H Q ∨ rCatA K x y H Q
theorem op_addAll {X : Cx} : OpR X (binaryOp .Add) (rAddAll X.K) := OpR.or op_add (OpR.or op_add_str (OpR.or op_cat op_catA))
theorem sm_add {K : PySem.W.Frag} : Sm2 K (rAddAll K) vAdd := by
  intro F H x y d e z Q s rx ry ez k
  unfold vAdd at ez
  split at ez
  · cases ez; cases rx; cases ry
    exact .inl ⟨_, _, rfl, rfl, k _ _ _ (.refl s) (.d (.int _))⟩
  · split at ez
    · rename_i h
      cases ez; cases rx; cases ry
      exact .inr (.inl ⟨_, _, rfl, rfl, Nat.le_trans h lim_le, k _ _ _ (.refl s) (.d (.str _))⟩)
    · cases ez
  · split at ez
    · rename_i h
      cases ez
      cases rx with
      | @lst a vs _ ha ra =>
        cases ry with
        | @lst b ws _ hb rb =>
          refine .inr (.inr (.inl ⟨a, b, vs, ws, rfl, rfl, s _ _ ha, s _ _ hb, by rw [ra.length, rb.length]; exact Nat.le_trans h lim_le, fun p hp => ?_⟩))
          exact k _ _ _ (.own s hp) (rz_own s hp (.lst (ra.append rb)))
    · cases ez
  · split at ez
    · rename_i h
      cases ez
      cases rx with
      | @tup a vs _ ha ra =>
        cases ry with
        | @tup b ws _ hb rb =>
          refine .inr (.inr (.inr ⟨a, b, vs, ws, rfl, rfl, same_seqT s ha, same_seqT s hb, by rw [ra.length, rb.length]; exact Nat.le_trans h lim_le, fun e => ?_, fun _ e => ?_, fun _ _ p hp => ?_⟩))
          · subst e
            cases ra
            exact k _ _ _ (.refl s) (.d (.tup hb rb))
          · subst e
            cases rb
            rw [List.append_nil] at k
            exact k _ _ _ (.refl s) (.d (.tup ha ra))
          · have al := Alo.new (o := .tup (vs ++ ws)) s hp
            exact k _ _ _ al (.d (.tup (SqT.of upd_same) ((ra.append rb).mono al.fr)))
    · cases ez
  · cases ez
def vSub : D → D → Option EV
  | .int i, .int j => some (.d (.int (i - j)))
  | _, _ => none
theorem sm_sub {K : PySem.W.Frag} : Sm2 K (rI0 fun i j => .int (i - j)) vSub := by
  intro F H x y d e z Q s rx ry ez k
  unfold vSub at ez
  split at ez
  · cases ez; cases rx; cases ry
    exact ⟨_, _, rfl, rfl, k _ _ _ (.refl s) (.d (.int _))⟩
  · cases ez
def b64 : Int := 18446744073709551616
def repS (x : Str) (n : Int) : Str := ⟨(List.replicate n.toNat x.cps.toList).flatten.toArray⟩
def vMul : D → D → Option EV
  | .int i, .int j => if (-b64 < i ∧ i < b64) ∨ (-b64 < j ∧ j < b64) then some (.d (.int (i * j))) else none
  | .str a, .int j => if j ≤ 100000 ∧ -100000 ≤ j ∧ a.length * j.toNat ≤ lim then some (.d (.str (repS a j))) else none
  | .lst a, .int j => if j ≤ 100000 ∧ -100000 ≤ j ∧ a.length * j.toNat ≤ lim then some (.own (.lst (List.replicate j.toNat a).flatten)) else none
  | _, _ => none
def rRepS : R2 := fun x y H Q => ∃ (a : Str) (n : Int), x = .str a ∧ y = .int n ∧ n ≤ 100000 ∧ -100000 ≤ n ∧ a.length * n.toNat ≤ lim ∧ Q (.str (repS a n)) H
theorem foldl_app (l : List Nat) : ∀ (k : Nat) (acc : Array Nat), ((List.replicate k l.toArray).foldl (· ++ ·) acc).toList = acc.toList ++ (List.replicate k l).flatten
  | 0, acc => by simp
  | k + 1, acc => by
    rw [List.replicate_succ, List.foldl_cons, foldl_app l k, List.replicate_succ, List.flatten_cons]
    simp
theorem op_repS {X : Cx} : OpR X (binaryOp .Mult) rRepS := by
  intro pins s σ H x y v u Q I rx ry h
  obtain ⟨a, n, rfl, rfl, h1, h2, h3, q⟩ := h
  obtain ⟨t, rfl⟩ := rx
  obtain ⟨t', rfl⟩ := ry
  have hl := line63
  have hs : sizeLine = 16777216 := sizeLine_eq
  have hlim : lim = 100000 := rfl
  refine PySem.P.mul_str ?_ (fun hn _ => ?_) (fun hn _ => ?_) ?_
  · have e1 : ¬ n < -(2 ^ 63 : Int) := by omega
    have e2 : ¬ n ≥ (2 ^ 63 : Int) := by omega
    rw [decide_eq_false e1, decide_eq_false e2]; rfl
  · intro hb
    have hn1 : 1 ≤ n := by omega
    have e1 : ((a.length * n.toNat : Nat) : Int) ≤ 100000 := by omega
    have e2 : (a.length : Int) * n ≤ 100000 := by
      have : ((a.length * n.toNat : Nat) : Int) = (a.length : Int) * n := by
        rw [Int.natCast_mul, Int.toNat_of_nonneg (by omega)]
      omega
    have e3 : (a.length : Int) ≤ (2 ^ 63 - 1) / n := by
      rw [Int.le_ediv_iff_mul_le (by omega)]
      omega
    omega
  · unfold Builtin.Str.tooLong
    apply decide_eq_false
    omega
  · by_cases hn : n < 1
    · rw [if_pos hn]
      have e : repS a n = Str.empty := by
        unfold repS
        have : n.toNat = 0 := by omega
        rw [this]; rfl
      rw [e] at q
      exact ⟨by decide, ⟨.str _, H, I.tok _, ⟨_, rfl⟩, q⟩⟩
    · rw [if_neg hn]
      by_cases h1' : (n == 1 || a.length == 0) = true
      · rw [if_pos h1']
        have e : repS a n = a := by
          unfold repS
          rcases Bool.or_eq_true_iff.mp h1' with z | z
          · have : n = 1 := by simpa using z
            subst this
            simp
          · have z' : a.cps.size = 0 := by simpa [Str.length] using z
            have : a.cps = #[] := Array.eq_empty_of_size_eq_zero z'
            rw [show a = ⟨a.cps⟩ from rfl, this]
            simp
        rw [e] at q
        exact ⟨.str _, H, I, ⟨_, rfl⟩, q⟩
      · rw [if_neg h1']
        have e : repS a n = ⟨(List.replicate n.toNat a.cps).foldl (· ++ ·) #[]⟩ := by
          unfold repS
          congr 1
          apply Array.toList_inj.mp
          have := foldl_app a.cps.toList n.toNat #[]
          simp only [Array.toArray_toList] at this
          rw [this]
          simp
        rw [e] at q
        refine ⟨?_, ⟨.str _, H, I.tok _, ⟨_, rfl⟩, q⟩⟩
        rw [← e]
        have hlr : (repS a n).length = n.toNat * a.length := by unfold repS; simp [Str.length]
        rw [hlr, Nat.mul_comm]
        omega
def rMulAll : R2 := fun x y H Q => rI CMul (fun i j => .int (i * j)) x y H Q ∨ rRepS x y H Q ∨ rRep x y H Q
theorem op_mulAll {X : Cx} : OpR X (binaryOp .Mult) rMulAll := OpR.or op_mul (OpR.or op_repS op_rep)
theorem RepL.rep {K : PySem.W.Frag} {F : Hp} {vs : List V} {ds : List D} (r : RepL K F vs ds) : ∀ n : Nat, RepL K F (List.replicate n vs).flatten (List.replicate n ds).flatten
  | 0 => .nil
  | n + 1 => by
    rw [List.replicate_succ, List.replicate_succ, List.flatten_cons, List.flatten_cons]
    exact r.append (RepL.rep r n)
theorem sm_mul {K : PySem.W.Frag} : Sm2 K rMulAll vMul := by
  intro F H x y d e z Q s rx ry ez k
  unfold vMul at ez
  split at ez
  · split at ez
    · rename_i h
      cases ez; cases rx; cases ry
      refine .inl ⟨_, _, rfl, rfl, ?_, k _ _ _ (.refl s) (.d (.int _))⟩
      unfold b64 at h
      show (-(2 ^ 64) < _ ∧ _ < 2 ^ 64) ∨ (-(2 ^ 64) < _ ∧ _ < 2 ^ 64)
      omega
    · cases ez
  · split at ez
    · rename_i h
      cases ez; cases rx; cases ry
      exact .inr (.inl ⟨_, _, rfl, rfl, h.1, h.2.1, h.2.2, k _ _ _ (.refl s) (.d (.str _))⟩)
    · cases ez
  · split at ez
    · rename_i h
      cases ez
      cases rx with
      | @lst a vs _ ha ra =>
        cases ry
        refine .inr (.inr ⟨a, _, vs, rfl, rfl, s _ _ ha, by omega, by omega, by rw [ra.length]; exact Nat.le_trans h.2.2 lim_le, fun p hp => ?_⟩)
        exact k _ _ _ (.own s hp) (rz_own s hp (.lst (ra.rep _)))
    · cases ez
  · cases ez
def vMod : D → D → Option EV
  | .int i, .int j => if 0 < j then some (.d (.int (i % j))) else none
  | _, _ => none
theorem sm_mod {K : PySem.W.Frag} : Sm2 K (rI (fun _ j => 0 < j) fun i j => .int (i % j)) vMod := by
  intro F H x y d e z Q s rx ry ez k
  unfold vMod at ez
  split at ez
  · split at ez
    · rename_i h
      cases ez; cases rx; cases ry
      exact ⟨_, _, rfl, rfl, h, k _ _ _ (.refl s) (.d (.int _))⟩
    · cases ez
  · cases ez
def vDiv : D → D → Option EV
  | .int i, .int j => if 0 < j ∧ j < 1000000000000000000000000000000000000000 then some (.d (.int (i / j))) else none
  | _, _ => none
theorem sm_div {K : PySem.W.Frag} : Sm2 K (rI CDivW fun i j => .int (i / j)) vDiv := by
  intro F H x y d e z Q s rx ry ez k
  unfold vDiv at ez
  split at ez
  · split at ez
    · rename_i h
      cases ez; cases rx; cases ry
      refine ⟨_, _, rfl, rfl, ⟨h.1, ?_⟩, k _ _ _ (.refl s) (.d (.int _))⟩
      rename_i i j
      have h1 : j.natAbs < 2 ^ 200 := by omega
      have h2 : j.natAbs ≠ 0 := by omega
      have := (Nat.log2_lt h2).mpr h1
      omega
    · cases ez
  · cases ez
def vPow : D → D → Option EV
  | .int i, .int j => if (0 ≤ j ∧ j ≤ 1000) ∧ (-b64 < i ∧ i < b64) then some (.d (.int (i ^ j.toNat))) else none
  | _, _ => none
theorem sm_pow {K : PySem.W.Frag} : Sm2 K (rI CPow fun i j => .int (i ^ j.toNat)) vPow := by
  intro F H x y d e z Q s rx ry ez k
  unfold vPow at ez
  split at ez
  · split at ez
    · rename_i h
      cases ez; cases rx; cases ry
      refine ⟨_, _, rfl, rfl, ⟨h.1.1, by omega, ?_⟩, k _ _ _ (.refl s) (.d (.int _))⟩
      unfold b64 at h
      omega
    · cases ez
  · cases ez
def vNeg : D → Option EV
  | .int i => some (.d (.int (-i)))
  | _ => none
theorem sm_neg {K : PySem.W.Frag} : Sm1 K (rU fun i => .int (-i)) vNeg := by
  intro F H x d z Q s rx ez k
  unfold vNeg at ez
  split at ez
  · cases ez; cases rx
    exact ⟨_, rfl, k _ _ _ (.refl s) (.d (.int _))⟩
  · cases ez

/-! ### comparisons -/
mutual
def toPy : D → Option PyData
  | .non => some .none
  | .bl b => some (.bool b)
  | .int i => some (.int i)
  | .str s => some (.str s)
  | .tup l => (toPyL l).map .tuple
  | .lst l => (toPyL l).map .list
  | .scr l => (toPyL l).map .list
  | .dct _ => none
  | .obj _ => none
  | .ty _ => none
  | .exc _ _ => none
  | .cau _ _ _ => none
def toPyL : List D → Option (List PyData)
  | [] => some []
  | d :: ds => (toPy d).bind fun p => (toPyL ds).map (p :: ·)
end
mutual
theorem RepD.dp {K : PySem.W.Frag} {F : Hp} : ∀ {v : V} {d : D} {p : PyData}, RepD K F v d → toPy d = some p → Dp K F v p
  | _, _, _, .non, e => by cases e; exact .non
  | _, _, _, .bl b, e => by cases e; exact .bl b
  | _, _, _, .int i, e => by cases e; exact .int i
  | _, _, _, .str x, e => by cases e; exact .str x
  | _, _, p, .tup (ds := ds) h r, e => by
    cases h2 : toPyL ds with
    | none => rw [show toPy (.tup ds) = (toPyL ds).map .tuple from by unfold toPy; rfl, h2] at e; cases e
    | some ps =>
      rw [show toPy (.tup ds) = (toPyL ds).map .tuple from by unfold toPy; rfl, h2] at e
      cases e
      exact .tup h (RepL.dp r h2)
  | _, _, p, .lst (ds := ds) h r, e => by
    cases h2 : toPyL ds with
    | none => rw [show toPy (.lst ds) = (toPyL ds).map .list from by unfold toPy; rfl, h2] at e; cases e
    | some ps =>
      rw [show toPy (.lst ds) = (toPyL ds).map .list from by unfold toPy; rfl, h2] at e
      cases e
      exact .lst (SqL.of h) (RepL.dp r h2)
  | _, _, p, .scr (ds := ds) h r, e => by
    cases h2 : toPyL ds with
    | none => rw [show toPy (.scr ds) = (toPyL ds).map .list from by unfold toPy; rfl, h2] at e; cases e
    | some ps =>
      rw [show toPy (.scr ds) = (toPyL ds).map .list from by unfold toPy; rfl, h2] at e
      cases e
      exact .lst h (RepL.dp r h2)
  | _, _, _, .dct _ _, e => by unfold toPy at e; cases e
  | _, _, _, .obj, e => by unfold toPy at e; cases e
  | _, _, _, .ty _, e => by unfold toPy at e; cases e
  | _, _, _, .exc _ _ _ _ _, e => by unfold toPy at e; cases e
  | _, _, _, .cau _ _ _, e => by unfold toPy at e; cases e
theorem RepL.dp {K : PySem.W.Frag} {F : Hp} : ∀ {vs : List V} {ds : List D} {ps : List PyData}, RepL K F vs ds → toPyL ds = some ps → DpAll K F vs ps
  | _, _, _, .nil, e => by unfold toPyL at e; cases e; exact .nil
  | _, _, ps, .cons (d := d) (ds := ds) h r, e => by
    unfold toPyL at e
    cases h1 : toPy d with
    | none => rw [h1] at e; cases e
    | some p =>
      rw [h1] at e
      cases h2 : toPyL ds with
      | none => rw [h2] at e; cases e
      | some qs =>
        rw [h2] at e
        cases e
        exact .cons (RepD.dp h h1) (RepL.dp r h2)
end
/-- == of data, where it is known -/
def eqG (d e : D) : Option Bool := (toPy d).bind fun p => (toPy e).bind fun q => if SeqAt.shaped p = true ∧ SeqAt.shaped q = true then some (PyData.eqv p q) else none
def eqD : D → D → Option Bool
  | .non, .non => some true | .non, .int _ => some false | .int _, .non => some false | .non, .bl _ => some false | .bl _, .non => some false | .non, .str _ => some false | .str _, .non => some false
  | .int i, .int j => some (decide (i = j)) | .bl a, .bl b => some (decide (a = b)) | .str a, .str b => some (decide (a = b))
  | .int _, .str _ => some false | .str _, .int _ => some false | .bl _, .str _ => some false | .str _, .bl _ => some false
  | d, e => eqG d e
def vEq0 (d e : D) : Option EV := (eqD d e).map fun b => .d (.bl b)
def vNe (d e : D) : Option EV := (eqD d e).map fun b => .d (.bl (!b))
def rEqAll0 (K : PySem.W.Frag) : R2 := fun x y H Q => rEq x y H Q ∨ rEqD K x y H Q
def rNeAll (K : PySem.W.Frag) : R2 := fun x y H Q => rNe x y H Q ∨ rNeD K x y H Q
theorem op_eqAll0 {X : Cx} (hu : X.A.units + 64 < cLine) : OpR X (compareOp .Eq) (rEqAll0 X.K) := OpR.or op_eq (op_eqD hu)
theorem op_neAll {X : Cx} (hu : X.A.units + 64 < cLine) : OpR X (compareOp .NotEq) (rNeAll X.K) := OpR.or op_ne (op_neD hu)
theorem eqD_read {K : PySem.W.Frag} {H : Hp} {x y : V} {d e : D} {b : Bool} (rx : RepD K H x d) (ry : RepD K H y e) (h : eqD d e = some b) :
    (scal x y = true ∧ decide (x = y) = b) ∨ ∃ p q, Dp K H x p ∧ Dp K H y q ∧ SeqAt.shaped p = true ∧ SeqAt.shaped q = true ∧ PyData.eqv p q = b := by
  have gen : eqG d e = some b → ∃ p q, Dp K H x p ∧ Dp K H y q ∧ SeqAt.shaped p = true ∧ SeqAt.shaped q = true ∧ PyData.eqv p q = b := fun h => by
    unfold eqG at h
    cases h1 : toPy d with
    | none => rw [h1] at h; cases h
    | some p =>
      cases h2 : toPy e with
      | none => rw [h1, h2] at h; cases h
      | some q =>
        rw [h1, h2] at h
        dsimp only [Option.bind_some] at h
        split at h
        · rename_i hs
          cases h
          exact ⟨p, q, rx.dp h1, ry.dp h2, hs.1, hs.2, rfl⟩
        · cases h
  unfold eqD at h
  split at h
  all_goals first
    | exact .inr (gen h)
    | (cases h; cases rx; cases ry; exact .inl ⟨rfl, by simp⟩)
theorem sm_eq0 {K : PySem.W.Frag} : Sm2 K (rEqAll0 K) vEq0 := by
  intro F H x y d e z Q s rx ry ez k
  unfold vEq0 at ez
  cases hb : eqD d e with
  | none => rw [hb] at ez; cases ez
  | some b =>
    rw [hb] at ez
    cases ez
    have kk := k (.bl b) _ _ (.refl s) (.d (.bl b))
    rcases eqD_read (rx.mono s) (ry.mono s) hb with ⟨h1, h2⟩ | ⟨p, q, h1, h2, h3, h4, h5⟩
    · exact .inl ⟨h1, by rw [h2]; exact kk⟩
    · exact .inr ⟨p, q, h1, h2, h3, h4, by rw [h5]; exact kk⟩
theorem sm_ne {K : PySem.W.Frag} : Sm2 K (rNeAll K) vNe := by
  intro F H x y d e z Q s rx ry ez k
  unfold vNe at ez
  cases hb : eqD d e with
  | none => rw [hb] at ez; cases ez
  | some b =>
    rw [hb] at ez
    cases ez
    have kk := k (.bl (!b)) _ _ (.refl s) (.d (.bl _))
    rcases eqD_read (rx.mono s) (ry.mono s) hb with ⟨h1, h2⟩ | ⟨p, q, h1, h2, h3, h4, h5⟩
    · exact .inl ⟨h1, by rw [h2]; exact kk⟩
    · exact .inr ⟨p, q, h1, h2, h3, h4, by rw [h5]; exact kk⟩
/-- == where the lengths tell already, or the first texts -/
def eqX : D → D → Option Bool
  | .lst l, .lst m => if l.length = m.length then eqD (.lst l) (.lst m) else some false
  | .tup l, .tup [] => some l.isEmpty
  | .tup (.str a :: l), .tup [.str b] => some (decide (a = b) && l.isEmpty)
  | d, e => eqD d e
def vEq (d e : D) : Option EV := (eqX d e).map fun b => .d (.bl b)
def rEqX (K : PySem.W.Frag) : R2 := fun x y H Q => (∃ a b xs ys, x = .ref a ∧ y = .ref b ∧ SqL K H a xs ∧ SqL K H b ys ∧ xs.length ≠ ys.length ∧ Q (.bl false) H) ∨
  (∃ a b xs, x = .ref a ∧ y = .ref b ∧ SqT K H a xs ∧ SqT K H b [] ∧ Q (.bl xs.isEmpty) H) ∨ ∃ a b u w xs, x = .ref a ∧ y = .ref b ∧ SqT K H a (.str u :: xs) ∧ SqT K H b [.str w] ∧ Q (.bl (decide (u = w) && xs.isEmpty)) H
theorem op_eqX {X : Cx} (hu : X.A.units + 64 < cLine) : OpR X (compareOp .Eq) (rEqX X.K) := by
  intro pins s σ H x y v u Q I rx ry h
  have hu2 : X.A.units < cLine := by omega
  rcases h with ⟨a, b, xs, ys, rfl, rfl, h1, h2, hl, q⟩ | ⟨a, b, xs, rfl, rfl, h1, h2, q⟩ | ⟨a, b, t, w, xs, rfl, rfl, h1, h2, q⟩
  · cases rx; cases ry
    obtain ⟨its, r1, p1, _⟩ := I.list h1
    obtain ⟨its2, r2, p2, _⟩ := I.list h2
    exact SeqAt.eq_list_lengthsAt p1.isList p2.isList (by simp only [List.size_toArray, ← r1.length, ← r2.length]; simpa using hl) hu2 ⟨.bl false, H, I, rfl, q⟩
  · cases rx; cases ry
    obtain ⟨its, r1, p1, _⟩ := I.tuple h1
    obtain ⟨its2, r2, p2, _⟩ := I.tuple h2
    cases r2
    refine SeqAt.eq_tupleAt (e := fun _ => true) p1 p2 hu2 (fun j _ h2 => absurd h2 (by simp)) ⟨.bl xs.isEmpty, H, I, ?_, q⟩
    show Value.bool _ = Value.bool _
    cases r1 <;> simp
  · cases rx; cases ry
    obtain ⟨its, r1, p1, _⟩ := I.tuple h1
    obtain ⟨its2, r2, p2, _⟩ := I.tuple h2
    cases r1 with
    | @cons _ u1 _ us r3 r4 =>
      cases r2 with
      | @cons _ u2 _ us2 r5 r6 =>
        cases r6
        obtain ⟨t1, rfl⟩ := r3
        obtain ⟨t2, rfl⟩ := r5
        refine SeqAt.eq_tupleAt (e := fun _ => decide (t = w)) p1 p2 hu2 (fun j h1 h2 => ?_) ⟨.bl (decide (t = w) && xs.isEmpty), H, I, ?_, q⟩
        · have hj : j = 0 := by simp at h2; omega
          subst hj
          show SeqAt.EqAt X.A.in1 s (.str t t1) (.str w t2) (decide (t = w))
          exact fun prog w2 E Q hq => wpAny_eqBool_str hq
        · show Value.bool _ = Value.bool _
          have hl := r4.length
          cases xs with
          | nil => cases r4; simp
          | cons x xs => cases r4 with
            | cons r7 r8 => simp
def rEqAll (K : PySem.W.Frag) : R2 := fun x y H Q => rEqAll0 K x y H Q ∨ rEqX K x y H Q
theorem op_eqAll {X : Cx} (hu : X.A.units + 64 < cLine) : OpR X (compareOp .Eq) (rEqAll X.K) := OpR.or (op_eqAll0 hu) (op_eqX hu)
theorem sm_eq {K : PySem.W.Frag} : Sm2 K (rEqAll K) vEq := by
  intro F H x y d e z Q s rx ry ez k
  have old : vEq0 d e = some z → rEqAll K x y H Q := fun h => .inl (sm_eq0 F H x y d e z Q s rx ry h k)
  have res : ∀ b, z = .d (.bl b) → Q (.bl b) H := fun b hz => k _ F H (.refl s) (by rw [hz]; exact .d (.bl b))
  unfold vEq eqX at ez
  split at ez
  · rename_i l m
    split at ez
    · exact old ez
    · rename_i hl
      cases ez
      cases rx with
      | lst h1 r1 =>
        cases ry with
        | lst h2 r2 => exact .inr (.inl ⟨_, _, _, _, rfl, rfl, SqL.of (s _ _ h1), SqL.of (s _ _ h2), by rw [r1.length, r2.length]; exact hl, res _ rfl⟩)
  · rename_i l
    cases ez
    cases rx with
    | tup h1 r1 =>
      cases ry with
      | tup h2 r2 =>
        cases r2
        refine .inr (.inr (.inl ⟨_, _, _, rfl, rfl, same_seqT s h1, same_seqT s h2, ?_⟩))
        have e : ∀ {vs : List V} {ds : List D}, RepL K F vs ds → vs.isEmpty = ds.isEmpty := fun r => by cases r <;> rfl
        rw [e r1]
        exact res _ rfl
  · rename_i a l b
    cases ez
    cases rx with
    | tup h1 r1 =>
      cases ry with
      | tup h2 r2 =>
        cases r1 with
        | cons ra rl =>
          cases ra
          cases r2 with
          | cons rb rn =>
            cases rn; cases rb
            refine .inr (.inr (.inr ⟨_, _, _, _, _, rfl, rfl, same_seqT s h1, same_seqT s h2, ?_⟩))
            have e : ∀ {vs : List V} {ds : List D}, RepL K F vs ds → vs.isEmpty = ds.isEmpty := fun r => by cases r <;> rfl
            rw [e rl]
            exact res _ rfl
  · exact old ez
/-- order of ints and of texts -/
def ordV (f : Int → Int → Bool) (g : List Nat → List Nat → Bool) : D → D → Option EV
  | .int i, .int j => some (.d (.bl (f i j)))
  | .str a, .str b => some (.d (.bl (g a.cps.toList b.cps.toList)))
  | _, _ => none
def rOrd (f : Int → Int → Bool) (g : List Nat → List Nat → Bool) : R2 := fun x y H Q => rI0 (fun i j => .bl (f i j)) x y H Q ∨ ∃ i j, x = .str i ∧ y = .str j ∧ Q (.bl (g i.cps.toList j.cps.toList)) H
theorem sm_ord {K : PySem.W.Frag} {f : Int → Int → Bool} {g : List Nat → List Nat → Bool} : Sm2 K (rOrd f g) (ordV f g) := by
  intro F H x y d e z Q s rx ry ez k
  unfold ordV at ez
  split at ez
  · cases ez; cases rx; cases ry
    exact .inl ⟨_, _, rfl, rfl, k _ _ _ (.refl s) (.d (.bl _))⟩
  · cases ez; cases rx; cases ry
    exact .inr ⟨_, _, rfl, rfl, k _ _ _ (.refl s) (.d (.bl _))⟩
  · cases ez
abbrev ltF : Int → Int → Bool := fun i j => decide (i < j)
abbrev ltG : List Nat → List Nat → Bool := fun a b => decide (a < b)
abbrev leF : Int → Int → Bool := fun i j => decide (i ≤ j)
abbrev leG : List Nat → List Nat → Bool := fun a b => !decide (b < a)
abbrev gtF : Int → Int → Bool := fun i j => decide (j < i)
abbrev gtG : List Nat → List Nat → Bool := fun a b => decide (b < a)
abbrev geF : Int → Int → Bool := fun i j => decide (j ≤ i)
abbrev geG : List Nat → List Nat → Bool := fun a b => !decide (a < b)
abbrev vLt := ordV ltF ltG
abbrev vLe := ordV leF leG
abbrev vGt := ordV gtF gtG
abbrev vGe := ordV geF geG
theorem op_ltA {X : Cx} : OpR X (compareOp .Lt) (rOrd ltF ltG) := OpR.or op_lt op_lt_str
theorem op_leA {X : Cx} : OpR X (compareOp .LtE) (rOrd leF leG) := OpR.or op_le op_le_str
theorem op_gtA {X : Cx} : OpR X (compareOp .Gt) (rOrd gtF gtG) := OpR.or op_gt op_gt_str
theorem op_geA {X : Cx} : OpR X (compareOp .GtE) (rOrd geF geG) := OpR.or op_ge op_ge_str
/-- in: a sign in a text; flat data in a list or a tuple -/
def flatD : D → Bool
  | .non => true | .bl _ => true | .int _ => true | .str _ => true
  | _ => false
def toV : D → V
  | .non => .non | .bl b => .bl b | .int i => .int i | .str s => .str s
  | _ => .non
theorem RepD.flat {K : PySem.W.Frag} {F : Hp} {v : V} {d : D} (r : RepD K F v d) (h : flatD d = true) : v = toV d ∧ flatV v = true := by
  cases r <;> first | exact ⟨rfl, rfl⟩ | cases h
theorem RepL.flat {K : PySem.W.Frag} {F : Hp} : ∀ {vs : List V} {ds : List D}, RepL K F vs ds → ds.all flatD = true → vs = ds.map toV ∧ vs.all flatV = true
  | _, _, .nil, _ => ⟨rfl, rfl⟩
  | _, _, .cons h r, e => by
    rw [List.all_cons, Bool.and_eq_true] at e
    obtain ⟨h1, h2⟩ := h.flat e.1
    obtain ⟨h3, h4⟩ := r.flat e.2
    exact ⟨by rw [h1, h3]; rfl, by rw [List.all_cons, h2, h4]; rfl⟩
def inL (d : D) (l : List D) : Option Bool := if flatD d = true ∧ l.all flatD = true then some (inV (toV d) (l.map toV)) else none
def inD : D → D → Option Bool
  | .str a, .str b => if a.cps.size = 1 then some (decide (a.cps.toList.headD 0 ∈ b.cps.toList)) else none
  | d, .lst l => inL d l
  | d, .tup l => inL d l
  | _, _ => none
def vIn (d e : D) : Option EV := (inD d e).map fun b => .d (.bl b)
def vNin (d e : D) : Option EV := (inD d e).map fun b => .d (.bl (!b))
def rInAll (K : PySem.W.Frag) : R2 := fun x y H Q => (∃ (c : Nat) (z : Str), x = .str ⟨#[c]⟩ ∧ y = .str z ∧ Q (.bl (decide (c ∈ z.cps.toList))) H) ∨ rIn K false x y H Q
def rNinAll (K : PySem.W.Frag) : R2 := fun x y H Q => (∃ (c : Nat) (z : Str), x = .str ⟨#[c]⟩ ∧ y = .str z ∧ Q (.bl (!decide (c ∈ z.cps.toList))) H) ∨ rIn K true x y H Q
theorem op_inAll {X : Cx} : OpR X (compareOp .In) (rInAll X.K) := OpR.or op_in_sign op_in_seq
theorem op_ninAll {X : Cx} : OpR X (compareOp .NotIn) (rNinAll X.K) := OpR.or op_notIn_sign op_notIn_seq
theorem inD_read {K : PySem.W.Frag} {H : Hp} {x y : V} {d e : D} {b : Bool} (rx : RepD K H x d) (ry : RepD K H y e) (h : inD d e = some b) :
    (∃ (c : Nat) (z : Str), x = .str ⟨#[c]⟩ ∧ y = .str z ∧ decide (c ∈ z.cps.toList) = b) ∨ ∃ p xs, y = .ref p ∧ (SqL K H p xs ∨ SqT K H p xs) ∧ flatV x = true ∧ xs.all flatV = true ∧ inV x xs = b := by
  have gen : ∀ {l : List D} {p : Addr} {vs : List V}, (SqL K H p vs ∨ SqT K H p vs) → RepL K H vs l → inL d l = some b → ∃ p' xs, V.ref p = .ref p' ∧ (SqL K H p' xs ∨ SqT K H p' xs) ∧ flatV x = true ∧ xs.all flatV = true ∧ inV x xs = b := fun {l p vs} hs r h => by
    unfold inL at h
    split at h
    · rename_i hf
      cases h
      obtain ⟨h1, h2⟩ := rx.flat hf.1
      obtain ⟨h3, h4⟩ := r.flat hf.2
      exact ⟨p, vs, rfl, hs, h2, h4, by rw [h1, h3]⟩
    · cases h
  unfold inD at h
  split at h
  · split at h
    · rename_i a z hz
      cases h; cases rx; cases ry
      obtain ⟨c, hc⟩ : ∃ c, a = ⟨#[c]⟩ := by
        obtain ⟨⟨l⟩⟩ := a
        match l, hz with
        | [c], _ => exact ⟨c, rfl⟩
      subst hc
      exact .inl ⟨c, _, rfl, rfl, rfl⟩
    · cases h
  · cases ry with
    | lst hh r => exact .inr (gen (.inl (SqL.of hh)) r h)
  · cases ry with
    | tup hh r => exact .inr (gen (.inr hh) r h)
  · cases h
theorem sm_in {K : PySem.W.Frag} : Sm2 K (rInAll K) vIn := by
  intro F H x y d e z Q s rx ry ez k
  unfold vIn at ez
  cases hb : inD d e with
  | none => rw [hb] at ez; cases ez
  | some b =>
    rw [hb] at ez
    cases ez
    have kk := k (.bl b) _ _ (.refl s) (.d (.bl b))
    rcases inD_read (rx.mono s) (ry.mono s) hb with ⟨c, z, h1, h2, h3⟩ | ⟨p, xs, h1, h2, h3, h4, h5⟩
    · exact .inl ⟨c, z, h1, h2, by rw [h3]; exact kk⟩
    · refine .inr ⟨p, xs, h1, h2, h3, h4, ?_⟩
      rw [if_neg Bool.false_ne_true, h5]
      exact kk
theorem sm_nin {K : PySem.W.Frag} : Sm2 K (rNinAll K) vNin := by
  intro F H x y d e z Q s rx ry ez k
  unfold vNin at ez
  cases hb : inD d e with
  | none => rw [hb] at ez; cases ez
  | some b =>
    rw [hb] at ez
    cases ez
    have kk := k (.bl (!b)) _ _ (.refl s) (.d (.bl _))
    rcases inD_read (rx.mono s) (ry.mono s) hb with ⟨c, z, h1, h2, h3⟩ | ⟨p, xs, h1, h2, h3, h4, h5⟩
    · exact .inl ⟨c, z, h1, h2, by rw [h3]; exact kk⟩
    · refine .inr ⟨p, xs, h1, h2, h3, h4, ?_⟩
      rw [if_pos rfl, h5]
      exact kk
end FD
end
section
set_option Elab.async false
set_option linter.all false
set_option maxRecDepth 100000
/-! FD8: built-ins, subscripts, slices. -/
namespace FD
open PySem L2

/-! ### lists of looks -/
def TLw (m : Pm) (q : Bool) (f : LF) : TA := fun σ H Q => ∃ F δ, Stt m.K F σ δ H ∧ Gd m q F H σ δ (f δ) fun z _ H' => ∀ vs, RepL m.K H' vs z → Q vs H'
def PLw (X : Cx) (m : Pm) (es : List Expr) (q : Bool) (f : LF) : Prop := PA X es (TLw m q f)
section
variable {X : Cx} {m : Pm} {e a b : Expr} {es : List Expr} {q q' : Bool} {pos p : Pos}
theorem lw_nil : PLw X m [] true fNil := pa_imp pa_nil fun σ H Q => by
  rintro ⟨F, δ, s, g⟩
  exact g F H (.refl s) [] .nil
theorem lw_cons {fa : VF} {fs : LF} (ha : PLk X m e q fa) (hr : PLw X m es true fs) (hs : starEach (e :: es) X.env = (false, eval e X.env) :: starEach es X.env := by rfl) : PLw X m (e :: es) q (fCons fa fs) := by
  refine pa_imp (pa_cons ha hr hs) fun σ H Q => ?_
  rintro ⟨F, δ, s, h⟩
  refine ⟨F, δ, s, Gd.first (q' := true) (by rw [Bool.and_true]; exact h) fun d δ1 F1 H1 e1 g1 s1 x rx => ?_⟩
  refine ⟨F1, δ1, s1.st, ?_⟩
  cases hb : fs δ1 with
  | exc c fs' => dsimp only at g1; rw [hb] at g1; exact GX.step (show GX m F H σ δ c fs' from g1) s1
  | no => dsimp only at g1; rw [hb] at g1; exact g1
  | ok bb =>
    dsimp only at g1
    rw [hb] at g1
    intro F2 H2 s2 ys ry
    exact g1 F2 H2 (s1.trans s2) _ (.cons (rx.mono (s2.same s1.st)) ry)
def SmW (K : PySem.W.Frag) (r : List V → Hp → VK → Prop) (g : List D → Option D) : Prop := ∀ H xs ds x Q, RepL K H xs ds → g ds = some x → (∀ v, (∀ F, RepD K F v x) → Q v H) → r xs H Q
def fW (g : List D → Option D) (fl : LF) : VF := fun δ => (fl δ).bind fun a => (Rs.of (g a.1)).bind fun x => .ok (x, a.2)
theorem look {r : List V → Hp → VK → Prop} {g : List D → Option D} {fl : LF} (sm : SmW m.K r g) (σ : St) (H : Hp) (Q : VK) (h : TV m q (fW g fl) σ H Q) : TLw m q fl σ H fun xs H1 => r xs H1 Q := by
  obtain ⟨F, δ, s, h⟩ := h
  refine ⟨F, δ, s, Gd.first (q' := true) (by rw [Bool.and_true]; exact h) fun d δ1 F1 H1 e1 g1 s1 xs rx => ?_⟩
  dsimp only at g1
  cases hg : g d with
  | none => rw [hg] at g1; exact g1.elim
  | some x =>
    rw [hg] at g1
    exact sm H1 xs d x Q rx hg fun v rv => g1 F1 H1 (by rw [Bool.and_true]; exact s1) v (rv F1)
/-- f(e, ..), f a built-in function -/
theorem pv_fn {x : Str} {id : String} {r : List V → Hp → VK → Prop} {g : List D → Option D} {fl : LF} (hc : CallR X (.builtin id) r) (sm : SmW m.K r g) (hg : Gl X x) (hm : X.mg x = none) (hv : bootBuiltins x = some (.builtin id)) (ha : PLw X m (e :: es) q fl) (hn : x ≠ "__name__" := by decide)
    (hdb : (x == ("__debug__" : Str)) = false := by decide) (he : starEach (e :: es) X.env = (false, eval e X.env) :: starEach es X.env := by rfl) (hpl : (backTo pos (starEach es X.env)).any (·.1) = false := by rfl) : PV X m (.Call (.Name x p) (e :: es) [] pos) q (fW g fl) :=
  pe_imp (pe_callB hc hg hm hv ha hn hdb he hpl) (look sm)
/-- T(e, ..), T a built-in type -/
theorem pv_ty {x : Str} {T : String} {r : List V → Hp → VK → Prop} {g : List D → Option D} {fl : LF} (hc : CallR X (.type T) r) (sm : SmW m.K r g) (hg : Gl X x) (hm : X.mg x = none) (hv : bootBuiltins x = some (.type T)) (ha : PLw X m (e :: es) q fl) (hn : x ≠ "__name__" := by decide)
    (hdb : (x == ("__debug__" : Str)) = false := by decide) (he : starEach (e :: es) X.env = (false, eval e X.env) :: starEach es X.env := by rfl) (hpl : (backTo pos (starEach es X.env)).any (·.1) = false := by rfl) : PV X m (.Call (.Name x p) (e :: es) [] pos) q (fW g fl) :=
  pe_imp (pe_callTy hc hg hm hv ha hn hdb he hpl) (look sm)
/-- .. that makes an object -/
theorem px_ty {x : Str} {T : String} {r : List V → Hp → VK → Prop} {g : List D → Option EV} {fl : LF} (hc : CallR X (.type T) r) (sm : SmN m.K r g) (hg : Gl X x) (hm : X.mg x = none) (hv : bootBuiltins x = some (.type T)) (ha : PL X m (e :: es) q fl) (hn : x ≠ "__name__" := by decide)
    (hdb : (x == ("__debug__" : Str)) = false := by decide) (he : starEach (e :: es) X.env = (false, eval e X.env) :: starEach es X.env := by rfl) (hpl : (backTo pos (starEach es X.env)).any (·.1) = false := by rfl) : PX X m (.Call (.Name x p) (e :: es) [] pos) q (fN g fl) :=
  pe_imp (pe_callTy hc hg hm hv ha hn hdb he hpl) (many sm)
theorem px_fn {x : Str} {id : String} {r : List V → Hp → VK → Prop} {g : List D → Option EV} {fl : LF} (hc : CallR X (.builtin id) r) (sm : SmN m.K r g) (hg : Gl X x) (hm : X.mg x = none) (hv : bootBuiltins x = some (.builtin id)) (ha : PL X m (e :: es) q fl) (hn : x ≠ "__name__" := by decide)
    (hdb : (x == ("__debug__" : Str)) = false := by decide) (he : starEach (e :: es) X.env = (false, eval e X.env) :: starEach es X.env := by rfl) (hpl : (backTo pos (starEach es X.env)).any (·.1) = false := by rfl) : PX X m (.Call (.Name x p) (e :: es) [] pos) q (fN g fl) :=
  pe_imp (pe_callB hc hg hm hv ha hn hdb he hpl) (many sm)
end

/-! ### what they give -/
section
variable {K : PySem.W.Frag}
def lenD : D → Option Nat
  | .str x => if x.length ≤ lim then some x.length else none
  | .tup l => some l.length
  | .lst l => some l.length
  | .scr l => some l.length
  | _ => none
def vLen : List D → Option D
  | [d] => (lenD d).map fun n => .int n
  | _ => none
theorem sm_len : SmW K (fun xs H Q => ∃ x n, xs = [x] ∧ LenV K x H n ∧ Q (.int n) H) vLen := by
  intro H xs ds x Q r e k
  unfold vLen at e
  split at e
  · rename_i d
    cases r with
    | cons rd r0 =>
      cases r0
      cases hl : lenD d with
      | none => rw [hl] at e; cases e
      | some n =>
        rw [hl] at e
        cases e
        refine ⟨_, n, rfl, ?_, k _ fun F => .int _⟩
        cases rd with
        | str y =>
          unfold lenD at hl
          dsimp only at hl
          split at hl
          · rename_i h
            cases hl
            exact ⟨Nat.le_trans h lim_le, rfl⟩
          · cases hl
        | tup h r => cases hl; exact .inr ⟨_, h, r.length.symm⟩
        | lst h r => cases hl; exact .inl ⟨_, SqL.of h, r.length.symm⟩
        | scr h r => cases hl; exact .inl ⟨_, h, r.length.symm⟩
        | _ => cases hl
  · cases e
def listOf : D → Option (List D)
  | .lst l => some l
  | .scr l => some l
  | _ => none
theorem listOf_read {H : Hp} {v : V} {d : D} {l : List D} (r : RepD K H v d) (h : listOf d = some l) : ∃ a vs, v = .ref a ∧ SqL K H a vs ∧ RepL K H vs l := by
  cases r with
  | lst h1 r => cases h; exact ⟨_, _, rfl, SqL.of h1, r⟩
  | scr h1 r => cases h; exact ⟨_, _, rfl, h1, r⟩
  | _ => cases h
def vAll : List D → Option D
  | [d] => ((listOf d).bind blsOf).map fun bs => .bl (bs.all id)
  | _ => none
def vAny : List D → Option D
  | [d] => ((listOf d).bind blsOf).map fun bs => .bl (bs.any id)
  | _ => none
def vSum : List D → Option D
  | [d] => ((listOf d).bind intsOf).map fun ns => .int ns.sum
  | _ => none
theorem sm_all : SmW K (rAll K) vAll := by
  intro H xs ds x Q r e k
  unfold vAll at e
  split at e
  · rename_i d
    cases r with
    | cons rd r0 =>
      cases r0
      cases hl : listOf d with
      | none => rw [hl] at e; cases e
      | some l =>
        cases hb : blsOf l with
        | none => rw [hl] at e; simp only [Option.bind_some, hb] at e; cases e
        | some bs =>
          rw [hl] at e
          simp only [Option.bind_some, hb, Option.map_some] at e
          cases e
          obtain ⟨a, vs, rfl, h1, h2⟩ := listOf_read rd hl
          exact ⟨a, bs, rfl, by rw [← h2.bls hb]; exact h1, k _ fun F => .bl _⟩
  · cases e
theorem sm_any : SmW K (rAny K) vAny := by
  intro H xs ds x Q r e k
  unfold vAny at e
  split at e
  · rename_i d
    cases r with
    | cons rd r0 =>
      cases r0
      cases hl : listOf d with
      | none => rw [hl] at e; cases e
      | some l =>
        cases hb : blsOf l with
        | none => rw [hl] at e; simp only [Option.bind_some, hb] at e; cases e
        | some bs =>
          rw [hl] at e
          simp only [Option.bind_some, hb, Option.map_some] at e
          cases e
          obtain ⟨a, vs, rfl, h1, h2⟩ := listOf_read rd hl
          exact ⟨a, bs, rfl, by rw [← h2.bls hb]; exact h1, k _ fun F => .bl _⟩
  · cases e
theorem sm_sum : SmW K (rSum K) vSum := by
  intro H xs ds x Q r e k
  unfold vSum at e
  split at e
  · rename_i d
    cases r with
    | cons rd r0 =>
      cases r0
      cases hl : listOf d with
      | none => rw [hl] at e; cases e
      | some l =>
        cases hb : intsOf l with
        | none => rw [hl] at e; simp only [Option.bind_some, hb] at e; cases e
        | some bs =>
          rw [hl] at e
          simp only [Option.bind_some, hb, Option.map_some] at e
          cases e
          obtain ⟨a, vs, rfl, h1, h2⟩ := listOf_read rd hl
          exact ⟨a, bs, rfl, by rw [← h2.ints hb]; exact h1, k _ fun F => .int _⟩
  · cases e
def vAbs : List D → Option D
  | [.int i] => some (.int (if i < 0 then -i else i))
  | _ => none
theorem sm_abs : SmW K (fun xs H Q => ∃ i, xs = [.int i] ∧ Q (.int (if i < 0 then -i else i)) H) vAbs := by
  intro H xs ds x Q r e k
  unfold vAbs at e
  split at e
  · cases e
    cases r with
    | cons h1 h2 => cases h1; cases h2; exact ⟨_, rfl, k _ fun F => .int _⟩
  · cases e
def vMax2 : List D → Option D
  | [.int i, .int j] => some (.int (if j > i then j else i))
  | _ => none
theorem sm_max2 : SmW K (fun xs H Q => ∃ i j, xs = [.int i, .int j] ∧ Q (.int (if j > i then j else i)) H) vMax2 := by
  intro H xs ds x Q r e k
  unfold vMax2 at e
  split at e
  · cases e
    cases r with
    | cons h1 h2 => cases h1; cases h2 with
      | cons h3 h4 => cases h3; cases h4; exact ⟨_, _, rfl, k _ fun F => .int _⟩
  · cases e
def vMin2 : List D → Option D
  | [.int i, .int j] => some (.int (if j < i then j else i))
  | _ => none
theorem sm_min2 : SmW K (fun xs H Q => ∃ i j, xs = [.int i, .int j] ∧ Q (.int (if j < i then j else i)) H) vMin2 := by
  intro H xs ds x Q r e k
  unfold vMin2 at e
  split at e
  · cases e
    cases r with
    | cons h1 h2 => cases h1; cases h2 with
      | cons h3 h4 => cases h3; cases h4; exact ⟨_, _, rfl, k _ fun F => .int _⟩
  · cases e
def vInt : List D → Option D
  | [.int i] => some (.int i)
  | [.bl b] => some (.int (if b then 1 else 0))
  | [.str a] => if a.length ≤ 640 then (PySem.intText? a).map D.int else none
  | _ => none
def rIntAll : List V → Hp → VK → Prop := fun xs H Q => ((∃ i, xs = [.int i] ∧ Q (.int i) H) ∨ ∃ k, xs = [.bl k] ∧ Q (.int (if k then 1 else 0)) H) ∨ ∃ a n, xs = [.str a] ∧ PySem.intText? a = some n ∧ a.length ≤ 640 ∧ Q (.int n) H
theorem call_intAll {X : Cx} : CallR X (.type "int") rIntAll := CallR.or call_int1 call_int_str
theorem sm_int : SmW K rIntAll vInt := by
  intro H xs ds x Q r e k
  unfold vInt at e
  split at e
  · cases e
    cases r with
    | cons h1 h2 => cases h1; cases h2; exact .inl (.inl ⟨_, rfl, k _ fun F => .int _⟩)
  · cases e
    cases r with
    | cons h1 h2 => cases h1; cases h2; exact .inl (.inr ⟨_, rfl, k _ fun F => .int _⟩)
  · rename_i a
    split at e
    · rename_i hl
      cases hn : PySem.intText? a with
      | none => rw [hn] at e; cases e
      | some n =>
        rw [hn] at e
        cases e
        cases r with
        | cons h1 h2 => cases h1; cases h2; exact .inr ⟨_, _, rfl, hn, hl, k _ fun F => .int _⟩
    · cases e
  · cases e
def b1900 (i : Int) : Bool := decide (i.natAbs.log2 < 1920)
def vStr : List D → Option D
  | [.int i] => if b1900 i = true then some (.str (toString i)) else none
  | [.str a] => some (.str a)
  | _ => none
def rStrAll : List V → Hp → VK → Prop := fun xs H Q => (∃ i, xs = [.int i] ∧ i.natAbs.log2 < 1920 ∧ Q (.str (toString i)) H) ∨ ∃ a, xs = [.str a] ∧ Q (.str a) H
theorem call_strAll {X : Cx} : CallR X (.type "str") rStrAll := CallR.or call_str_int SkE.call_str_str
theorem sm_str : SmW K rStrAll vStr := by
  intro H xs ds x Q r e k
  unfold vStr at e
  split at e
  · split at e
    · rename_i h
      cases e
      cases r with
      | cons h1 h2 => cases h1; cases h2; exact .inl ⟨_, rfl, of_decide_eq_true h, k _ fun F => .str _⟩
    · cases e
  · cases e
    cases r with
    | cons h1 h2 => cases h1; cases h2; exact .inr ⟨_, rfl, k _ fun F => .str _⟩
  · cases e
def vOrd : List D → Option D
  | [.str a] => if a.length = 1 then some (.int (a.cps.getD 0 0 : Nat)) else none
  | _ => none
theorem sm_ordc : SmW K (fun xs H Q => ∃ x, xs = [.str x] ∧ x.length = 1 ∧ Q (.int (x.cps.getD 0 0 : Nat)) H) vOrd := by
  intro H xs ds x Q r e k
  unfold vOrd at e
  split at e
  · split at e
    · rename_i h
      cases e
      cases r with
      | cons h1 h2 => cases h1; cases h2; exact ⟨_, rfl, h, k _ fun F => .int _⟩
    · cases e
  · cases e
/-! isinstance -/
def tyNm : D → Option String
  | .non => some "NoneType" | .bl _ => some "bool" | .int _ => some "int" | .str _ => some "str" | .tup _ => some "tuple" | .lst _ => some "list" | .scr _ => some "list" | .dct _ => some "dict"
  | _ => none
theorem tyNm_read {H : Hp} {v : V} {d : D} {t : String} (r : RepD K H v d) (h : tyNm d = some t) : TyX K H v (.type t) := by
  cases r with
  | non => cases h; exact .base .non
  | bl b => cases h; exact .base (.bl b)
  | int i => cases h; exact .base (.int i)
  | str x => cases h; exact .base (.str x)
  | tup h1 r =>
    cases h
    rcases h1 with (h1 | ⟨o, h1⟩) | ⟨o, its, n, h1, h2, _⟩
    · exact .base (.tup h1)
    · exact .fTuple h1
    · exact .kTuple h1 h2
  | lst h1 r => cases h; exact .base (.lst h1)
  | scr h1 r =>
    cases h
    rcases h1 with (h1 | ⟨o, h1⟩) | ⟨o, its, n, h1, h2, _⟩
    · exact .base (.lst h1)
    · exact .base (.frz h1)
    · exact .kList h1 h2
  | dct h1 r => cases h; exact .base (.dK h1)
  | _ => cases h
def vIsi : List D → Option D
  | [d, .ty n] => (tyNm d).bind fun t => (kitB t n).map D.bl
  | _ => none
theorem sm_isi : SmW K (rIsi K) vIsi := by
  intro H xs ds x Q r e k
  unfold vIsi at e
  split at e
  · rename_i d n
    cases ht : tyNm d with
    | none => rw [ht] at e; cases e
    | some t =>
      cases hk : kitB t n with
      | none => rw [ht] at e; simp only [Option.bind_some, hk] at e; cases e
      | some b =>
        rw [ht] at e
        simp only [Option.bind_some, hk, Option.map_some] at e
        cases e
        cases r with
        | cons h1 h2 => cases h2 with
          | cons h3 h4 =>
            cases h3; cases h4
            exact ⟨_, _, _, _, b, rfl, .ty n, tyNm_read h1 ht, kit_ty hk, k _ fun F => .bl _⟩
  · cases e
/-! list(x), tuple(x) -/
def seqOf : D → Option (List D)
  | .lst l => some l
  | .scr l => some l
  | .tup l => some l
  | _ => none
theorem seqOf_read {H : Hp} {v : V} {d : D} {l : List D} (r : RepD K H v d) (h : seqOf d = some l) : ∃ a vs, v = .ref a ∧ (SqL K H a vs ∨ SqT K H a vs) ∧ RepL K H vs l := by
  cases r with
  | lst h1 r => cases h; exact ⟨_, _, rfl, .inl (SqL.of h1), r⟩
  | scr h1 r => cases h; exact ⟨_, _, rfl, .inl h1, r⟩
  | tup h1 r => cases h; exact ⟨_, _, rfl, .inr h1, r⟩
  | _ => cases h
def vList : List D → Option EV
  | [d] => (seqOf d).map fun l => .own (.lst l)
  | _ => none
theorem same_or {H H' : Hp} {a : Addr} {vs : List V} (s : Same H H') (h : SqL K H a vs ∨ SqT K H a vs) : SqL K H' a vs ∨ SqT K H' a vs := h.imp s.seq (same_seqT s)
theorem sm_list : SmN K (fun xs H Q => ∃ p ys, xs = [.ref p] ∧ (SqL K H p ys ∨ SqT K H p ys) ∧ ∀ l, H l = none → Q (.ref l) (upd H l (.lst ys))) vList := by
  intro F H xs ds z Q s r e k
  unfold vList at e
  split at e
  · rename_i d
    cases hl : seqOf d with
    | none => rw [hl] at e; cases e
    | some l =>
      rw [hl] at e
      cases e
      cases r with
      | cons h1 h2 =>
        cases h2
        obtain ⟨a, vs, rfl, h3, h4⟩ := seqOf_read h1 hl
        exact ⟨a, vs, rfl, same_or s h3, fun p hp => k _ _ _ (.own s hp) (rz_own s hp (.lst h4))⟩
  · cases e
def vTuple : List D → Option EV
  | [d] => (seqOf d).map fun l => .d (.tup l)
  | _ => none
theorem sm_tuple : SmN K (fun xs H Q => ∃ p ys, xs = [.ref p] ∧ ((SqL K H p ys ∧ ∀ l, H l = none → Q (.ref l) (upd H l (.tup ys))) ∨ (SqT K H p ys ∧ Q (.ref p) H))) vTuple := by
  intro F H xs ds z Q s r e k
  unfold vTuple at e
  split at e
  · rename_i d
    cases hl : seqOf d with
    | none => rw [hl] at e; cases e
    | some l =>
      rw [hl] at e
      cases e
      cases r with
      | cons h1 h2 =>
        cases h2
        obtain ⟨a, vs, rfl, h3, h4⟩ := seqOf_read h1 hl
        refine ⟨a, vs, rfl, h3.imp (fun h3 => ⟨s.seq h3, fun p hp => ?_⟩) fun h3 => ⟨same_seqT s h3, k _ _ _ (.refl s) (.d (.tup h3 h4))⟩⟩
        have al := Alo.new (o := .tup vs) s hp
        exact k _ _ _ al (.d (.tup (SqT.of upd_same) (h4.mono al.fr)))
  · cases e
/-! texts' methods -/
def vJoin : D → D → Option D
  | .str a, d => ((seqOf d).bind strsOf).bind fun ys => if (ys.map (·.length)).sum + ys.length * a.length ≤ lim then some (.str (Txt.join a ys)) else none
  | _, _ => none
def vStarts : D → D → Option D
  | .str a, .str b => some (.bl (Txt.startswith a b))
  | _, _ => none
end
/-- s.m(e), s a text -/
def SmM (K : PySem.W.Frag) (r : V → List V → Hp → VK → Prop) (g : D → D → Option D) : Prop := ∀ H a y d x Q, RepD K H y d → g (.str a) d = some x → (∀ v, (∀ F, RepD K F v x) → Q v H) → r (.str a) [y] H Q
def fM1 (g : D → D → Option D) (fo fa : VF) : VF := fun δ => (fo δ).bind fun o => match o.1 with
  | .str a => (fa o.2).bind fun b => (Rs.of (g (.str a) b.1)).bind fun x => .ok (x, b.2)
  | _ => .no
section
variable {X : Cx} {m : Pm} {e o a b : Expr} {q q' : Bool} {pos apos : Pos}
theorem pv_m1 {id : String} {name : Str} {r : V → List V → Hp → VK → Prop} {g : D → D → Option D} {fo fa : VF} (slot : Slot "str" name id) (ty : typeOf (.builtin id) = pure (.type "method_descriptor")) (rule : MtR X id r) (sm : SmM m.K r g) (ho : PV X m o q fo) (he : PLk X m e q' fa)
    (hs : starEach [e] X.env = [(false, eval e X.env)] := by rfl) (hbase : attributeBase o name X.env (eval o X.env) = eval o X.env := by rfl) (hline : (apos.endLine == pos.line) = true := by rfl) : PV X m (.Call (.Attribute o name apos) [e] [] pos) (q && q') (fM1 g fo fa) := by
  refine pe_imp (pe_m1 slot ty rule ho he hs hbase hline) fun σ H Q => ?_
  rintro ⟨F, δ, s, h⟩
  refine ⟨F, δ, s, Gd.first (q' := q') h fun d δ1 F1 H1 e1 g1 s1 v rv => ?_⟩
  dsimp only at g1
  cases rv with
  | str t =>
    refine ⟨⟨t, rfl⟩, F1, δ1, s1.st, ?_⟩
    cases hb : fa δ1 with
    | exc c fs => dsimp only at g1; rw [hb] at g1; exact GX.step (show GX m F H σ δ c fs from g1) s1
    | no => dsimp only at g1; rw [hb] at g1; exact g1
    | ok bb =>
      obtain ⟨y, δ2⟩ := bb
      dsimp only at g1
      rw [hb] at g1
      intro F2 H2 s2 w rw'
      dsimp only [Rs.bind_ok] at g1
      cases hg : g (.str t) y with
      | none => rw [hg] at g1; exact g1.elim
      | some x =>
        rw [hg] at g1
        exact sm H2 t w y x Q rw' hg fun v rv => g1 F2 H2 (s1.trans s2) v (rv F2)
  | _ => exact g1.elim
theorem sm_join {K : PySem.W.Frag} : SmM K (fun x xs H Q => ∃ a p, ∃ ys : List Str, x = .str a ∧ xs = [.ref p] ∧ (SqL K H p (ys.map V.str) ∨ SqT K H p (ys.map V.str)) ∧ (ys.map (·.length)).sum + ys.length * a.length ≤ 16777216 ∧ Q (.str (Txt.join a ys)) H) vJoin := by
  intro H a y d x Q r e k
  unfold vJoin at e
  dsimp only at e
  cases hl : seqOf d with
  | none => rw [hl] at e; cases e
  | some l =>
    cases hb : strsOf l with
    | none => rw [hl] at e; simp only [Option.bind_some, hb] at e; cases e
    | some ys =>
      rw [hl] at e
      simp only [Option.bind_some, hb] at e
      split at e
      · rename_i hz
        cases e
        obtain ⟨p, vs, rfl, h1, h2⟩ := seqOf_read r hl
        rw [h2.strs hb] at h1
        have := lim_le
        rw [sizeLine_eq] at this
        exact ⟨a, p, ys, rfl, rfl, h1, by omega, k _ fun F => .str _⟩
      · cases e
theorem sm_starts {K : PySem.W.Frag} : SmM K (fun x xs H Q => ∃ a b, x = .str a ∧ xs = [.str b] ∧ Q (.bl (Txt.startswith a b)) H) vStarts := by
  intro H a y d x Q r e k
  unfold vStarts at e
  cases r with
  | str b => cases e; exact ⟨a, b, rfl, rfl, k _ fun F => .bl _⟩
  | _ => cases e

/-! ### subscripts -/
def atD (l : List D) (i : Int) : Option D := atI l i
def vIx : D → D → Option EV
  | .lst l, .int i => (atI l i).map EV.d
  | .scr l, .int i => (atI l i).map EV.d
  | .tup l, .int i => (atI l i).map EV.d
  | .str z, .int i => if z.length ≤ lim then (atI z.cps.toList i).map fun c => EV.d (.str ⟨#[c]⟩) else none
  | _, _ => none
theorem atI_rep {K : PySem.W.Frag} {F : Hp} {vs : List V} {ds : List D} {i : Int} {d : D} (r : RepL K F vs ds) (h : atI ds i = some d) : ∃ v, atI vs i = some v ∧ RepD K F v d := by
  unfold atI at h ⊢
  rw [r.length]
  cases hx : ixN ds.length i with
  | none => rw [hx] at h; cases h
  | some j =>
    rw [hx] at h
    exact r.get h
theorem sm_ix {K : PySem.W.Frag} : Sm2 K (rIx K) vIx := by
  intro F H x y d e z Q s rx ry ez k
  unfold vIx at ez
  split at ez
  · rename_i l i
    cases ha : atI l i with
    | none => rw [ha] at ez; cases ez
    | some d =>
      rw [ha] at ez; cases ez; cases ry
      cases rx with
      | lst h r =>
        obtain ⟨v, h1, h2⟩ := atI_rep r ha
        exact .inl ⟨_, _, _, v, rfl, rfl, SqL.of (s _ _ h), h1, k _ _ _ (.refl s) (.d h2)⟩
  · rename_i l i
    cases ha : atI l i with
    | none => rw [ha] at ez; cases ez
    | some d =>
      rw [ha] at ez; cases ez; cases ry
      cases rx with
      | scr h r =>
        obtain ⟨v, h1, h2⟩ := atI_rep r ha
        exact .inl ⟨_, _, _, v, rfl, rfl, s.seq h, h1, k _ _ _ (.refl s) (.d h2)⟩
  · rename_i l i
    cases ha : atI l i with
    | none => rw [ha] at ez; cases ez
    | some d =>
      rw [ha] at ez; cases ez; cases ry
      cases rx with
      | tup h r =>
        obtain ⟨v, h1, h2⟩ := atI_rep r ha
        exact .inr (.inl ⟨_, _, _, v, rfl, rfl, same_seqT s h, h1, k _ _ _ (.refl s) (.d h2)⟩)
  · rename_i zt i
    split at ez
    · rename_i hz
      cases ha : atI zt.cps.toList i with
      | none => rw [ha] at ez; cases ez
      | some c =>
        rw [ha] at ez; cases ez; cases ry; cases rx
        exact .inr (.inr ⟨_, _, c, rfl, rfl, Nat.le_trans hz lim_le, ha, k _ _ _ (.refl s) (.d (.str _))⟩)
    · cases ez
  · cases ez
theorem px_ix {fa fb : VF} (ha : PV X m a q fa) (hb : PV X m b q' fb) (hK : X.K = m.K := by rfl) (hs : PlainIx b := by exact fun _ _ => rfl) : PX X m (.Subscript a b pos) (q && q') (f2 vIx fa fb) :=
  pe_imp (pe_ix ix_seq ha hb hs) (two (by rw [hK]; exact sm_ix))
/-- x[e], x a name that may hold an own object -/
def fIxN (i : Nat) (fb : VF) : VF := fun δ => match δ[i]? with
  | some .no => .no
  | none => .no
  | some _ => (fb δ).bind fun b => match b.2[i]? with
    | some (.own (.lst l)) => match b.1 with
      | .int k => (Rs.of (atI l k)).bind fun x => .ok (x, b.2)
      | _ => .no
    | some (.d x) => (Rs.of (vIx x b.1)).bind fun z => .ok (z.toD, b.2)
    | _ => .no
theorem pv_ixN {i : Nat} {fb : VF} (ha : PE X a (tVar i)) (hb : PV X m b q fb) (hK : X.K = m.K := by rfl) (hs : PlainIx b := by exact fun _ _ => rfl) : PV X m (.Subscript a b pos) q (fIxN i fb) := by
  refine pe_imp (pe_ix ix_seq ha hb hs) fun σ H Q => ?_
  rintro ⟨F, δ, s, h⟩
  unfold fIxN at h
  have hv : ∃ v, σ[i]? = some (some v) := by
    cases hd : δ[i]? with
    | none => rw [hd] at h; exact h.elim
    | some x =>
      cases x with
      | no => rw [hd] at h; exact h.elim
      | d x => obtain ⟨v, e, _⟩ := s.dd i x hd; exact ⟨v, e⟩
      | own o => obtain ⟨p, _, e, _⟩ := s.ow i o hd; exact ⟨_, e⟩
  obtain ⟨v, ev⟩ := hv
  refine ⟨v, ev, F, δ, s, ?_⟩
  have h' : Gd m q F H σ δ ((fb δ).bind fun b => match b.2[i]? with
    | some (.own (.lst l)) => match b.1 with
      | .int k => (Rs.of (atI l k)).bind fun x => .ok (x, b.2)
      | _ => .no
    | some (.d x) => (Rs.of (vIx x b.1)).bind fun z => .ok (z.toD, b.2)
    | _ => .no) fun z F' H' => ∀ v, RepD m.K F' v z → Q v H' := by
    cases hd : δ[i]? with
    | none => rw [hd] at h; exact h.elim
    | some x =>
      cases x with
      | no => rw [hd] at h; exact h.elim
      | d x => rw [hd] at h; exact h
      | own o => rw [hd] at h; exact h
  clear h
  refine Gd.first (q' := true) (by rw [Bool.and_true]; exact h') fun d δ1 F1 H1 e1 g1 s1 w rw' => ?_
  dsimp only at g1
  rw [hK]
  split at g1
  · rename_i l hl
    obtain ⟨p, ho, e2, e3, e4, r⟩ := s1.st.ow i _ hl
    rw [ev] at e2
    cases e2
    cases r with
    | lst r =>
      split at g1
      · rename_i kk
        cases rw' 
        cases ha : atI l kk with
        | none => rw [ha] at g1; exact g1.elim
        | some x =>
          rw [ha] at g1
          obtain ⟨u, h1, h2⟩ := atI_rep r ha
          exact .inl ⟨p, _, _, u, rfl, rfl, SqL.of e4, h1, g1 F1 H1 (by rw [Bool.and_true]; exact s1) u h2⟩
      · exact g1.elim
  · rename_i x hx
    obtain ⟨u, e2, r⟩ := s1.st.dd i x hx
    rw [ev] at e2
    cases e2
    cases hg : vIx x d with
    | none => rw [hg] at g1; exact g1.elim
    | some z =>
      rw [hg] at g1
      refine sm_ix F1 H1 _ w x d z Q s1.st.sub r rw' hg fun v' F' H' al rz => ?_
      obtain ⟨F2, s2, r2⟩ := (s1.trans (al.step (q := true) s1.st)).freeze s (rz.fresh s1.ex.dom)
      exact g1 F2 H' s2 v' r2
  · exact g1.elim

/-! ### slices -/
abbrev OF := Dv → Rs (Option Int × Dv)
def TOp (m : Pm) (q : Bool) (f : OF) : TO := fun σ H Q => ∃ F δ, Stt m.K F σ δ H ∧ Gd m q F H σ δ (f δ) fun z _ H' => Q z H'
def POp (X : Cx) (m : Pm) (e : Option Expr) (q : Bool) (f : OF) : Prop := PO X e (TOp m q f)
def oNone : OF := fun δ => .ok (none, δ)
def oSome (f : VF) : OF := fun δ => (f δ).bind fun a => match a.1 with
  | .int i => .ok (some i, a.2)
  | _ => .no
theorem po_imp {e : Option Expr} {t t' : TO} (h : PO X e t) (i : ∀ σ H Q, t' σ H Q → t σ H Q) : PO X e t' := ⟨fun pins s σ H Q I z => h.run pins s σ H Q I (i σ H Q z)⟩
theorem po_no : POp X m none true oNone := po_imp po_none fun σ H Q => by
  rintro ⟨F, δ, s, g⟩
  exact g F H (.refl s)
theorem po_so {f : VF} (h : PV X m e q f) : POp X m (some e) q (oSome f) := po_imp (po_some h) fun σ H Q => by
  rintro ⟨F, δ, s, g⟩
  refine ⟨F, δ, s, Gd.first (q' := true) (by rw [Bool.and_true]; exact g) fun d δ1 F1 H1 e1 g1 s1 v rv => ?_⟩
  dsimp only at g1
  cases rv with
  | int i => exact ⟨i, rfl, g1 F1 H1 (by rw [Bool.and_true]; exact s1)⟩
  | _ => exact g1.elim
def cutD {α : Type} (l : List α) (lo hi : Option Int) : List α := (l.drop (HT.sIx l.length 0 lo)).take (HT.sIx l.length l.length hi - HT.sIx l.length 0 lo)
def vSl : D → Option Int → Option Int → Option EV
  | .lst l, lo, hi => some (.own (.lst (cutD l lo hi)))
  | .scr l, lo, hi => some (.own (.lst (cutD l lo hi)))
  | .tup l, lo, hi => some (.d (.tup (cutD l lo hi)))
  | .str z, lo, hi => if z.length ≤ lim then some (.d (.str ⟨(cutD z.cps.toList lo hi).toArray⟩)) else none
  | _, _, _ => none
def rSlAll (K : PySem.W.Frag) : V → Option Int → Option Int → Hp → VK → Prop := fun x lo hi H Q => rSlL K x lo hi H Q ∨ rSlA K x lo hi H Q ∨ rSlS x lo hi H Q
theorem sl_all : SlR X (rSlAll X.K) := SlR.or sl_list (SlR.or sl_tupA sl_str)
theorem cutD_rep {K : PySem.W.Frag} {F : Hp} {vs : List V} {ds : List D} (r : RepL K F vs ds) (lo hi : Option Int) : RepL K F (cutV vs lo hi) (cutD ds lo hi) := by
  unfold cutV cutD
  rw [r.length]
  exact (r.drop _).take _
def fSl (fa : VF) (fl fh : OF) : XF := fun δ => (fa δ).bind fun a => (fl a.2).bind fun l => (fh l.2).bind fun h => (Rs.of (vSl a.1 l.1 h.1)).bind fun z => .ok (z, h.2)
theorem sm_sl {K : PySem.W.Frag} {F H : Hp} {x : V} {d : D} {lo hi : Option Int} {z : EV} {Q : VK} (s : Same F H) (rx : RepD K F x d) (ez : vSl d lo hi = some z) (k : ∀ v F' H', Alo F H F' H' → RepZ K F' H' H v z → Q v H') : rSlAll K x lo hi H Q := by
  unfold vSl at ez
  cases rx with
  | lst h r =>
    cases ez
    exact .inl ⟨_, _, rfl, SqL.of (s _ _ h), fun p hp => k _ _ _ (.own s hp) (rz_own s hp (.lst (cutD_rep r lo hi)))⟩
  | scr h r =>
    cases ez
    exact .inl ⟨_, _, rfl, s.seq h, fun p hp => k _ _ _ (.own s hp) (rz_own s hp (.lst (cutD_rep r lo hi)))⟩
  | @tup a vs ds h r =>
    cases ez
    refine .inr (.inl ⟨a, vs, rfl, same_seqT s h, fun hw => ?_, fun _ p hp => ?_⟩)
    · have e : cutD ds lo hi = ds := by
        unfold cutD
        rw [r.length] at hw
        rw [hw.1, hw.2, List.drop_zero, Nat.sub_zero, List.take_length]
      rw [e] at k
      exact k _ _ _ (.refl s) (.d (.tup h r))
    · have al := Alo.new (o := .tup (cutV vs lo hi)) s hp
      exact k _ _ _ al (.d (.tup (SqT.of upd_same) ((cutD_rep r lo hi).mono al.fr)))
  | str y =>
    dsimp only at ez
    split at ez
    · rename_i hz
      cases ez
      exact .inr (.inr ⟨y, rfl, Nat.le_trans hz lim_le, k _ _ _ (.refl s) (.d (.str _))⟩)
    · cases ez
  | _ => cases ez
theorem px_sl {lo hi : Option Expr} {q'' : Bool} {fa : VF} {fl fh : OF} {p2 : Pos} (ha : PV X m a q fa) (hl : POp X m lo q' fl) (hh : POp X m hi q'' fh) (hK : X.K = m.K := by rfl) : PX X m (.Subscript a (.Slice lo hi none p2) pos) (q && (q' && q'')) (fSl fa fl fh) := by
  refine pe_imp (pe_slice sl_all ha hl hh) fun σ H Q => ?_
  rintro ⟨F, δ, s, h⟩
  refine ⟨F, δ, s, Gd.first (q' := q' && q'') h fun d δ1 F1 H1 e1 g1 s1 x rx => ?_⟩
  refine ⟨F1, δ1, s1.st, ?_⟩
  have g1' := Gd.step (q := q) (q' := q' && q'') g1 s1
  refine Gd.first (q' := q'') g1' fun l δ2 F2 H2 e2 g2 s2 => ?_
  refine ⟨F2, δ2, s2.st, ?_⟩
  have g2' := Gd.step (q := q') (q' := q'') g2 s2
  refine Gd.first (q' := true) (by rw [Bool.and_true]; exact g2') fun h' δ3 F3 H3 e3 g3 s3 => ?_
  rw [hK]
  dsimp only at g3
  cases hv : vSl d l h' with
  | none => rw [hv] at g3; exact g3.elim
  | some z =>
    rw [hv] at g3
    refine sm_sl s3.st.sub ((rx.mono s2.ex.fr).mono s3.ex.fr) hv fun v F' H' al rz => ?_
    exact g3 F' H' (by rw [Bool.and_true]; have := s3.trans (al.step (q := true) s3.st); rw [Bool.and_true] at this; exact this) v (((rz.fresh s3.ex.dom).fresh s2.ex.dom).fresh s1.ex.dom)
end
end FD
end
section
set_option Elab.async false
set_option linter.all false
set_option maxRecDepth 100000
/-! FD9: stores in own lists, several targets, None, chains, raise. -/
namespace FD
open PySem L2

/-! ### an own object changes -/
theorem own_upd {K : PySem.W.Frag} {F H : Hp} {σ : St} {δ : Dv} {i : Nat} {o o' : Ob} {p : Addr} {ho : HO} (s : Stt K F σ δ H) (h : δ[i]? = some (.own o)) (hp : σ[i]? = some (some (.ref p))) (r : RepO K F ho o') :
    Step K false F H σ δ F (upd H p ho) (δ.set i (.own o')) := by
  obtain ⟨p', h0, e1, e2, e3, _⟩ := s.ow i o h
  rw [hp] at e1; cases e1
  have hi : i < δ.length := (List.getElem?_eq_some_iff.mp h).1
  have ne : ∀ (j : Nat) (u : Ob), (δ.set i (.own o'))[j]? = some (.own u) → (j = i ∧ u = o') ∨ (j ≠ i ∧ δ[j]? = some (.own u)) := fun j u e => by
    by_cases hj : j = i
    · subst hj
      rw [List.getElem?_set_self hi] at e
      injection e with e; injection e with e
      exact .inl ⟨rfl, e.symm⟩
    · rw [List.getElem?_set_ne (Ne.symm hj)] at e
      exact .inr ⟨hj, e⟩
  have ix : ∀ (j : Nat) (u : Ob), (δ.set i (.own o'))[j]? = some (.own u) → ∃ w, δ[j]? = some (.own w) := fun j u e => by
    rcases ne j u e with ⟨rfl, _⟩ | ⟨_, z⟩
    · exact ⟨o, h⟩
    · exact ⟨u, z⟩
  refine ⟨⟨fun b u e => ?_, by rw [List.length_set]; exact s.len, fun j x e => ?_, fun j u e => ?_, fun j k u w b e e' z z' => ?_⟩, ⟨.refl _, fun b u hb fb nm => ?_, fun b hb => ?_⟩, ix⟩
  · rw [upd_ne (fun z => by rw [z, e2] at e; cases e)]; exact s.sub b u e
  · have hj : j ≠ i := fun hj => by
      subst hj
      rw [List.getElem?_set_self hi] at e
      injection e with e; cases e
    rw [List.getElem?_set_ne (Ne.symm hj)] at e
    exact s.dd j x e
  · rcases ne j u e with ⟨rfl, rfl⟩ | ⟨hj, z⟩
    · exact ⟨p, ho, hp, e2, upd_same, r⟩
    · obtain ⟨b, hb, z1, z2, z3, z4⟩ := s.ow j u z
      refine ⟨b, hb, z1, z2, ?_, z4⟩
      rw [upd_ne]
      · exact z3
      · intro w
        subst w
        exact hj (s.ne j i u o b z h z1 hp)
  · obtain ⟨a, ha⟩ := ix j u e
    obtain ⟨c, hc⟩ := ix k w e'
    exact s.ne j k a c b ha hc z z'
  · have z : b ≠ p := fun z => nm ⟨rfl, i, o, h, by rw [z]; exact hp⟩
    exact ⟨by rw [upd_ne z]; exact hb, fb⟩
  · by_cases z : b = p
    · subst z; rw [upd_same] at hb; cases hb
    · rw [upd_ne z] at hb; exact hb

section
variable {X : Cx} {m : Pm} {np : Nat} {e o a b c : Expr} {q q' q'' : Bool} {pos tpos apos : Pos} {i : Nat}
/-- x[e] = v, x an own list -/
def sSetIx (i : Nat) (fv fi : VF) : SF := fun δ => (fv δ).bind fun v => match v.2[i]? with
  | some (.own _) => (fi v.2).bind fun k => match k.2[i]?, k.1 with
    | some (.own (.lst l)), .int n => match ixN l.length n with
      | some j => .ok (.nx (k.2.set i (.own (.lst (l.set j v.1)))))
      | none => .no
    | _, _ => .no
  | _ => .no
theorem st_setIx {fv fi : VF} (hv : PV X m e q fv) (ho : PE X o (tVar i)) (hi : PV X m a q' fi) (hs : swapsWithSole [.Subscript o a tpos] e pos.line X.env = pure false := by rfl) (hw : swappedStores [.Subscript o a tpos] e X.env = pure none := by rfl)
    (h1 : (assignEach [.Subscript o a tpos] X.env).map (·.2) = [assign (.Subscript o a tpos) X.env] := by rfl)
    (ha : ∀ v, assign (.Subscript o a tpos) X.env v = (do
      let ov ← holding [v] (eval o X.env)
      let iv ← holding [v, ov] (eval a X.env)
      standAt tpos
      holding [v, ov, iv] (setItem ov iv v)
      release [v, ov, iv] []) := by intro _; rfl) : PSt X m np (.Assign [.Subscript o a tpos] e pos) (sSetIx i fv fi) := by
  refine ps_imp (ps_asg hv (pg_sub ho hi set_list ha) hs hw h1) fun D σ H => ?_
  rintro ⟨F, δ, s, h⟩
  refine ⟨F, δ, s, ?_⟩
  unfold sSetIx at h
  cases hr : fv δ with
  | exc c fs => rw [hr] at h; exact h
  | no => rw [hr] at h; exact h
  | ok o1 =>
    obtain ⟨x, δ1⟩ := o1
    rw [hr] at h
    intro F1 H1 s1 v rv
    dsimp only [Rs.bind_ok] at h
    cases hd : δ1[i]? with
    | none => rw [hd] at h; exact h.elim
    | some sl =>
      cases sl with
      | no => rw [hd] at h; exact h.elim
      | d _ => rw [hd] at h; exact h.elim
      | own o =>
        rw [hd] at h
        dsimp only at h
        obtain ⟨p, ho, e1, e2, e3, r⟩ := s1.st.ow i o hd
        refine ⟨_, e1, F1, δ1, s1.st, ?_⟩
        cases hr2 : fi δ1 with
        | exc c fs => rw [hr2] at h; exact GX.step (show GX m F H σ δ c fs from h) s1
        | no => rw [hr2] at h; exact h
        | ok o2 =>
          obtain ⟨k, δ2⟩ := o2
          rw [hr2] at h
          dsimp only [Rs.bind_ok] at h
          intro F2 H2 s2 w rw'
          cases hl : δ2[i]? with
          | none => rw [hl] at h; exact h.elim
          | some sl2 =>
            rw [hl] at h
            cases sl2 with
            | no => exact h.elim
            | d _ => exact h.elim
            | own o2 =>
              cases o2 with
              | dct _ => exact h.elim
              | lst l =>
                cases k with
                | int n =>
                  dsimp only at h
                  cases hj : ixN l.length n with
                  | none => rw [hj] at h; exact h.elim
                  | some j =>
                    rw [hj] at h
                    obtain ⟨p', ho', z1, z2, z3, r'⟩ := s2.st.ow i _ hl
                    rw [e1] at z1
                    cases z1
                    cases rw'
                    cases r' with
                    | lst r' =>
                      refine ⟨p, _, n, j, rfl, rfl, z3, by rw [r'.length]; exact hj, ?_⟩
                      have s3 := own_upd s2.st hl e1 (.lst (r'.set (rv.mono s2.ex.fr) j))
                      exact h _ _ _ ((s1.trans s2).s.trans s3.s)
                | _ => exact h.elim

/-! ### own lists' methods as statements -/
/-- what a method does to the list and gives: by the list and the arguments -/
def MtO (K : PySem.W.Frag) (r : V → List V → Hp → VK → Prop) (g : List D → List D → Option (List D × D)) : Prop := ∀ F H p vs l xs ds l' y Q, Same F H → F p = none → H p = some (.lst vs) → RepL K F vs l → RepL K F xs ds → g l ds = some (l', y) →
  (∀ vs' v, RepL K F vs' l' → RepD K F v y → Q v (upd H p (.lst vs'))) → r (.ref p) xs H Q
def fMt (i : Nat) (g : List D → List D → Option (List D × D)) (fa : LF) : VF := fun δ => match δ[i]? with
  | some (.own (.lst _)) => (fa δ).bind fun a => match a.2[i]? with
    | some (.own (.lst l)) => (Rs.of (g l a.1)).bind fun z => .ok (z.2, a.2.set i (.own (.lst z.1)))
    | _ => .no
  | _ => .no
theorem pv_mt {es : List Expr} {id : String} {name : Str} {r : V → List V → Hp → VK → Prop} {g : List D → List D → Option (List D × D)} {fa : LF} (slot : Slot "list" name id) (hty : typeOf (.builtin id) = pure (.type "method_descriptor")) (hm : MtR X id r) (sm : MtO m.K r g)
    (ho : PE X o (tVar i)) (ha : PL X m (e :: es) q fa) (hK : X.K = m.K := by rfl) (hbase : attributeBase o name X.env (eval o X.env) = eval o X.env := by rfl)
    (hfew : ((backTo pos (starEach (e :: es) X.env)).all (fun x => !x.1) && (backToKw pos (keywordEach [] X.env)).all (fun x => x.1.isSome) && decide ((e :: es).length + ([] : List Keyword).length + (if ([] : List Keyword).isEmpty then 0 else 1) < 30)) = true := by rfl)
    (hline : (apos.endLine == pos.line) = true := by rfl) (hs : starEach (e :: es) X.env = (false, eval e X.env) :: starEach es X.env := by rfl) (hplain : (backTo pos (starEach es X.env)).any (·.1) = false := by rfl) :
    PV X m (.Call (.Attribute o name apos) (e :: es) [] pos) false (fMt i g fa) := by
  refine pe_imp (pe_bm PySem.F.plainAttrs_list slot hty hm ho ha hbase hfew hline hs hplain) fun σ H Q => ?_
  rintro ⟨F, δ, s, h⟩
  unfold fMt at h
  split at h
  · rename_i l0 hd
    obtain ⟨p, ho', e1, e2, e3, r0⟩ := s.ow i _ hd
    cases r0 with
    | lst r0 =>
      refine ⟨_, e1, .inl ⟨rfl, _, SqL.of e3⟩, F, δ, s, ?_⟩
      cases hr : fa δ with
      | exc c fs => rw [hr] at h; exact h
      | no => rw [hr] at h; exact h
      | ok o1 =>
        obtain ⟨ds, δ1⟩ := o1
        rw [hr] at h
        dsimp only [Rs.bind_ok] at h
        intro F1 H1 s1 xs rx
        split at h
        · rename_i l hl
          cases hg : g l ds with
          | none => rw [hg] at h; exact h.elim
          | some z =>
            obtain ⟨l', y⟩ := z
            rw [hg] at h
            obtain ⟨p', h1', z1, z2, z3, r1⟩ := s1.st.ow i _ hl
            rw [e1] at z1
            cases z1
            cases r1 with
            | lst r1 =>
              refine sm F1 H1 p _ l xs ds l' y Q s1.st.sub z2 z3 r1 rx hg fun vs' v rv ry => ?_
              have s3 := own_upd s1.st hl e1 (.lst rv)
              exact h F1 _ (s1.trans s3 |>.wk) v ry
        · exact h.elim
  · exact h.elim
def vAppend : List D → List D → Option (List D × D)
  | l, [x] => if l.length < lim then some (l ++ [x], .non) else none
  | _, _ => none
theorem so_append {K : PySem.W.Frag} : MtO K rAppend vAppend := by
  intro F H p vs l xs ds l' y Q s hF hH rl rx hg k
  unfold vAppend at hg
  split at hg
  · split at hg
    · rename_i hl
      cases hg
      cases rx with
      | cons h1 h2 =>
        cases h2
        exact ⟨p, vs, _, rfl, rfl, hH, by rw [rl.length]; exact Nat.lt_of_lt_of_le hl lim_le, k _ _ (rl.append (.cons h1 .nil)) .non⟩
    · cases hg
  · cases hg
def vExtend : List D → List D → Option (List D × D)
  | l, [.lst x] => if l.length + x.length ≤ lim then some (l ++ x, .non) else none
  | _, _ => none
theorem so_extend {K : PySem.W.Frag} : MtO K rExtend vExtend := by
  intro F H p vs l xs ds l' y Q s hF hH rl rx hg k
  unfold vExtend at hg
  split at hg
  · split at hg
    · rename_i hl
      cases hg
      cases rx with
      | cons h1 h2 =>
        cases h2
        cases h1 with
        | @lst b zs _ hb rb =>
          exact ⟨p, b, vs, zs, rfl, rfl, hH, s _ _ hb, by rw [rl.length, rb.length]; exact Nat.le_trans hl lim_le, k _ _ (rl.append rb) .non⟩
    · cases hg
  · cases hg
def vPopAt : List D → List D → Option (List D × D)
  | l, [.int i] => if 0 ≤ i ∧ i < l.length ∧ l.length ≤ lim then (l[i.toNat]?).map fun x => (l.eraseIdx i.toNat, x) else none
  | _, _ => none
theorem RepL.erase {K : PySem.W.Frag} {F : Hp} : ∀ {vs : List V} {ds : List D} (n : Nat), RepL K F vs ds → RepL K F (vs.eraseIdx n) (ds.eraseIdx n)
  | _, _, _, .nil => .nil
  | _, _, 0, .cons _ r => r
  | _, _, n + 1, .cons h r => .cons h (RepL.erase n r)
theorem so_popAt {K : PySem.W.Frag} : MtO K rPopAt vPopAt := by
  intro F H p vs l xs ds l' y Q s hF hH rl rx hg k
  unfold vPopAt at hg
  split at hg
  · rename_i i
    split at hg
    · rename_i hl
      cases hx : l[i.toNat]? with
      | none => rw [hx] at hg; cases hg
      | some x =>
        rw [hx] at hg
        cases hg
        cases rx with
        | cons h1 h2 =>
          cases h2; cases h1
          obtain ⟨v, hv, rv⟩ := rl.get hx
          have hlim : lim = 100000 := rfl
          have hlen := rl.length
          refine ⟨p, vs, i, i.toNat, v, rfl, rfl, hH, by omega, by omega, ?_, hv, k _ _ (rl.erase _) rv⟩
          have := (ixN_seq (n := vs.length) (i := i) (j := i.toNat) (by unfold ixN; rw [if_pos hl.1, if_pos (by omega)])).1
          exact this
    · cases hg
  · cases hg

/-! ### is None -/
def isNonD : D → Bool
  | .non => true
  | _ => false
def fIsN (f : VF) : VF := fun δ => (f δ).bind fun a => .ok (.bl (isNonD a.1), a.2)
def fNotN (f : VF) : VF := fun δ => (f δ).bind fun a => .ok (.bl (!isNonD a.1), a.2)
theorem isnon {K : PySem.W.Frag} {F : Hp} {v : V} {d : D} (r : RepD K F v d) : decide (v = .non) = isNonD d := by cases r <;> simp [isNonD]
theorem pc_isN' {f : VF} {j : Nat} {p' : Pos} (h : PLk X m a q f) : PC X .Is a (.Constant .none j p') (TV m q (fIsN f)) := ⟨fun pins s σ H Q I hw => (pc_isN h).run pins s σ H Q I (by
  obtain ⟨F, δ, st, g⟩ := hw
  refine ⟨F, δ, st, Gd.first (q' := true) (by rw [Bool.and_true]; exact g) fun d δ1 F1 H1 e1 g1 s1 v rv => ?_⟩
  show Q (V.bl (decide (v = V.non))) H1
  rw [isnon rv]
  exact g1 F1 H1 (by rw [Bool.and_true]; exact s1) _ (.bl _))⟩
theorem pc_notN' {f : VF} {j : Nat} {p' : Pos} (h : PLk X m a q f) : PC X .IsNot a (.Constant .none j p') (TV m q (fNotN f)) := ⟨fun pins s σ H Q I hw => (pc_notN h).run pins s σ H Q I (by
  obtain ⟨F, δ, st, g⟩ := hw
  refine ⟨F, δ, st, Gd.first (q' := true) (by rw [Bool.and_true]; exact g) fun d δ1 F1 H1 e1 g1 s1 v rv => ?_⟩
  show Q (V.bl (!decide (v = V.non))) H1
  rw [isnon rv]
  exact g1 F1 H1 (by rw [Bool.and_true]; exact s1) _ (.bl _))⟩
theorem pv_isN {f : VF} {j : Nat} {p' : Pos} (h : PLk X m a q f) : PV X m (.Compare a [.Is] [.Constant .none j p'] pos) q (fIsN f) := pe_cmp (pc_isN' h)
theorem pv_notN {f : VF} {j : Nat} {p' : Pos} (h : PLk X m a q f) : PV X m (.Compare a [.IsNot] [.Constant .none j p'] pos) q (fNotN f) := pe_cmp (pc_notN' h)
def fBv (f : VF) : BF := fun δ => (f δ).bind fun a => match a.1 with
  | .bl b => .ok (b, a.2)
  | _ => .no
theorem tb_tv {f : VF} (σ : St) (H : Hp) (Q : Bool → Hp → Prop) (h : TB m q (fBv f) σ H Q) : TV m q f σ H fun x H1 => ∃ k, x = .bl k ∧ Q k H1 := by
  obtain ⟨F, δ, s, h⟩ := h
  refine ⟨F, δ, s, Gd.first (q' := true) (by rw [Bool.and_true]; exact h) fun z δ1 F1 H1 e1 g1 s1 v rz => ?_⟩
  dsimp only at g1
  cases rz with
  | bl b => exact ⟨b, rfl, g1 F1 H1 (by rw [Bool.and_true]; exact s1)⟩
  | _ => exact g1.elim
theorem pb_isN {f : VF} {j : Nat} {p' : Pos} (h : PLk X m a q f) : PB X m (.Compare a [.Is] [.Constant .none j p'] pos) q (fBv (fIsN f)) := pt_imp (pt_cmp (pc_isN' h)) tb_tv
theorem pb_notN {f : VF} {j : Nat} {p' : Pos} (h : PLk X m a q f) : PB X m (.Compare a [.IsNot] [.Constant .none j p'] pos) q (fBv (fNotN f)) := pt_imp (pt_cmp (pc_notN' h)) tb_tv
theorem pb_v {f : VF} (h : PV X m e q f) (he : ∀ whole, isTrue e X.env whole = (do let v ← whole; standAt e.pos; holding [v] (truthy v)) := by intro _; rfl) : PB X m e q (fBv f) := pt_imp (pt_val h he) tb_tv

/-! ### a <= b < c -/
theorem chain_read {r r' : R2} {g g' : D → D → Option EV} {fa fb fc : VF} (sm : Sm2 m.K r g) (sm' : Sm2 m.K r' g') (σ : St) (H : Hp) (Q : VK) (h : TV m (q && (q' && q'')) (fChain g g' fa fb fc) σ H Q) : tChain r r' (TV m q fa) (TV m q' fb) (TV m q'' fc) σ H Q := by
  obtain ⟨F, δ, s, h⟩ := h
  refine ⟨F, δ, s, Gd.first (q' := q' && q'') h fun d δ1 F1 H1 e1 g1 s1 x rx => ?_⟩
  refine ⟨F1, δ1, s1.st, ?_⟩
  have g1' := Gd.step (q := q) (q' := q' && q'') g1 s1
  refine Gd.first (q' := q'') g1' fun e δ2 F2 H2 e2 g2 s2 y ry => ?_
  have g2' := Gd.step (q := q') (q' := q'') g2 s2
  dsimp only at g2'
  cases hg : g d e with
  | none => rw [hg] at g2'; exact g2'.elim
  | some z =>
    rw [hg] at g2'
    dsimp only [Rs.of_some, Rs.bind_ok] at g2'
    refine sm F2 H2 x y d e z _ s2.st.sub (rx.mono s2.ex.fr) ry hg fun v F' H' al rz => ?_
    have s3 := al.step (q := true) s2.st
    cases rz with
    | own _ _ _ _ => split at g2' <;> first | cases ‹EV.own _ = _› | exact g2'.elim
    | d rd =>
      split at g2'
      · rename_i hz
        cases hz
        cases rd
        refine ⟨true, rfl, ?_⟩
        rw [if_pos rfl]
        refine ⟨F', δ2, s3.st, ?_⟩
        have g3 := Gd.step (q := true) (q' := q'') (by rw [Bool.true_and]; exact g2') s3
        refine Gd.first (q' := true) (by rw [Bool.and_true]; exact g3) fun f δ3 F3 H3 e3 g4 s4 w rw' => ?_
        dsimp only at g4
        cases hg2 : g' e f with
        | none => rw [hg2] at g4; exact g4.elim
        | some z2 =>
          rw [hg2] at g4
          refine sm' F3 H3 y w e f z2 Q s4.st.sub ((ry.mono al.fr).mono s4.ex.fr) rw' hg2 fun v2 F4 H4 al2 rz2 => ?_
          obtain ⟨F5, s5, r5⟩ := (s4.trans (al2.step (q := true) s4.st)).freeze s3.st (rz2.fresh s4.ex.dom)
          exact g4 F5 H4 s5 v2 r5
      · rename_i hz
        cases hz
        cases rd
        refine ⟨false, rfl, ?_⟩
        rw [if_neg Bool.false_ne_true]
        exact g2' F' H' (s3.wk2) _ (.bl false)
      · exact g2'.elim
theorem pv_chain {op op' : CmpOp} {r r' : R2} {g g' : D → D → Option EV} {fa fb fc : VF} (h1 : OpR X (compareOp op) r) (sm : Sm2 m.K r g) (h2 : OpR X (compareOp op') r') (sm' : Sm2 m.K r' g') (ha : PV X m a q fa) (hb : PV X m b q' fb) (hc : PV X m c q'' fc)
    (hm : lastMarks [op, op'] [b, c] = false := by with_unfolding_all rfl) : PV X m (.Compare a [op, op'] [b, c] pos) (q && (q' && q'')) (fChain g g' fa fb fc) := pe_imp (pe_chain h1 h2 ha hb hc hm) (chain_read sm sm')
theorem pb_chain {op op' : CmpOp} {r r' : R2} {g g' : D → D → Option EV} {fa fb fc : VF} (h1 : OpR X (compareOp op) r) (sm : Sm2 m.K r g) (h2 : OpR X (compareOp op') r') (sm' : Sm2 m.K r' g') (ha : PV X m a q fa) (hb : PV X m b q' fb) (hc : PV X m c q'' fc)
    (hm : lastMarks [op, op'] [b, c] = false := by with_unfolding_all rfl) : PB X m (.Compare a [op, op'] [b, c] pos) (q && (q' && q'')) (fBv (fChain g g' fa fb fc)) := pt_imp (pt_chain h1 h2 ha hb hc hm) fun σ H Q h => chain_read sm sm' σ H _ (tb_tv σ H Q h)
end
end FD
end
section
set_option Elab.async false
set_option linter.all false
set_option maxRecDepth 100000
/-! FD10: defs by names, several targets, isinstance of several types, texts shown, raise. -/
namespace FD
open PySem L2

/-- a def of the module that keeps its function -/
def Cal (P : Program) (w : World) (K : PySem.W.Frag) (mg : Str → Option Value) (base : Heap) (cls : Str → Addr) (k : Nat) (x : Str) (fn : FnT) : Prop :=
  ∃ f fd ps, FnG P w K mg base k f fd ps (spG K cls fn) ∧ mg x = some (.ref f) ∧ PySem.W.keepIn K (.ref f) = true ∧ Binds K fd ps []
section
variable {X : Cx} {m : Pm} {k j np : Nat} {q q' : Bool} {x : Str} {p pos : Pos} {e a b : Expr} {es : List Expr} {fn : FnT} {fa : AF}
theorem px_c (c : Cal X.prog X.w m.K X.mg X.base m.cls k x fn) (hr : Room j X.A) (hk : k ≤ j) (hgu : X.A.guards = some []) (hg : Gl X x) (hx : ∀ σ, PassesAt (L2.CX X.prog X.w) X σ (m.E σ)) (ha : PAr X m (e :: es) q fa) (hK : X.K = m.K := by rfl) (hdb : (x == ("__debug__" : Str)) = false := by decide)
    (he : starEach (e :: es) X.env = (false, eval e X.env) :: starEach es X.env := by rfl) (hpl : (backTo pos (starEach es X.env)).any (·.1) = false := by rfl) : PX X m (.Call (.Name x p) (e :: es) [] pos) false (fCall fn fa) := by
  obtain ⟨f, fd, ps, F, h1, h2, h3⟩ := c
  rw [← hK] at F h2 h3
  exact px_call (hK ▸ F) (hr.mono hk) hgu hg h1 h2 h3 hx ha hdb he hpl

/-! ### a, b = x, y -/
theorem putS {K : PySem.W.Frag} {F H : Hp} {σ : St} {δ : Dv} {i : Nat} {p : Addr} {ho : HO} {o : Ob} (s : Stt K F σ δ H) (h1 : F p = none) (h2 : H p = some ho) (r : RepO K F ho o) (h3 : ¬ OwnAt σ δ p) :
    Stt K F (σ.set i (some (.ref p))) (δ.set i (.own o)) H ∧ ∀ b, OwnAt (σ.set i (some (.ref p))) (δ.set i (.own o)) b → OwnAt σ δ b ∨ b = p := by
  have ne : ∀ (j : Nat) (u : Ob), (δ.set i (.own o))[j]? = some (.own u) → (j = i ∧ u = o ∧ (σ.set i (some (.ref p)))[j]? = some (some (.ref p))) ∨ (j ≠ i ∧ δ[j]? = some (.own u) ∧ (σ.set i (some (.ref p)))[j]? = σ[j]?) := fun j u e => by
    by_cases hj : j = i
    · subst hj
      have hi : j < δ.length := by
        have := (List.getElem?_eq_some_iff.mp e).1
        rwa [List.length_set] at this
      rw [List.getElem?_set_self hi] at e
      injection e with e; injection e with e
      exact .inl ⟨rfl, e.symm, by rw [List.getElem?_set_self (by rw [s.len]; exact hi)]⟩
    · rw [List.getElem?_set_ne (Ne.symm hj)] at e
      exact .inr ⟨hj, e, List.getElem?_set_ne (Ne.symm hj)⟩
  refine ⟨⟨s.sub, by rw [List.length_set, List.length_set]; exact s.len, fun j y e => ?_, fun j u e => ?_, fun j k u w b e e' z z' => ?_⟩, fun b h => ?_⟩
  · have hj : j ≠ i := fun hj => by
      subst hj
      have hi : j < δ.length := by
        have := (List.getElem?_eq_some_iff.mp e).1
        rwa [List.length_set] at this
      rw [List.getElem?_set_self hi] at e
      injection e with e; cases e
    rw [List.getElem?_set_ne (Ne.symm hj)] at e ⊢
    exact s.dd j y e
  · rcases ne j u e with ⟨_, rfl, z⟩ | ⟨_, z1, z2⟩
    · exact ⟨p, ho, z, h1, h2, r⟩
    · rw [z2]; exact s.ow j u z1
  · rcases ne j u e with ⟨a1, a2, a3⟩ | ⟨a1, a2, a3⟩
    · rcases ne k w e' with ⟨k1, k2, k3⟩ | ⟨k1, k2, k3⟩
      · exact a1.trans k1.symm
      · rw [a3] at z; cases z
        rw [k3] at z'
        exact absurd ⟨k, w, k2, z'⟩ h3
    · rcases ne k w e' with ⟨k1, k2, k3⟩ | ⟨k1, k2, k3⟩
      · rw [k3] at z'; cases z'
        rw [a3] at z
        exact absurd ⟨j, u, a2, z⟩ h3
      · rw [a3] at z; rw [k3] at z'
        exact s.ne j k u w b a2 k2 z z'
  · obtain ⟨j, u, e1, e2⟩ := h
    rcases ne j u e1 with ⟨a1, a2, a3⟩ | ⟨a1, a2, a3⟩
    · rw [a3] at e2; cases e2; exact .inr rfl
    · rw [a3] at e2
      exact .inl ⟨j, u, a2, e2⟩
/-- a value put into a slot: data, or an object that no slot holds -/
theorem putZ {K : PySem.W.Frag} {F H H0 : Hp} {σ : St} {δ : Dv} {i : Nat} {v : V} {z : EV} (s : Stt K F σ δ H) (r : RepZ K F H H0 v z) (h3 : ∀ o, z = .own o → ∀ p, v = .ref p → ¬ OwnAt σ δ p) :
    Stt K F (σ.set i (some v)) (δ.set i z.sl) H ∧ ∀ b, OwnAt (σ.set i (some v)) (δ.set i z.sl) b → OwnAt σ δ b ∨ (∃ o, z = .own o ∧ v = .ref b) := by
  cases r with
  | d r =>
    have t := set_d (np := 0) (i := i) s r
    exact ⟨t.st, fun b h => by
      rcases t.ow b h with z | z
      · exact .inl z
      · exfalso
        obtain ⟨_, ho, e⟩ := t.st.at h
        rw [z] at e; cases e⟩
  | own h1 h2 r h4 =>
    obtain ⟨t1, t2⟩ := putS (i := i) s h1 h2 r (h3 _ rfl _ rfl)
    exact ⟨t1, fun b h => by
      rcases t2 b h with z | z
      · exact .inl z
      · exact .inr ⟨_, rfl, by rw [z]⟩⟩
def sPar (i j : Nat) (fa fb : XF) : SF := fun δ => (fa δ).bind fun x => (fb x.2).bind fun y => .ok (.nx ((y.2.set i x.1.sl).set j y.1.sl))
theorem par_read {m : Pm} {i j : Nat} {fa fb : XF} (hi : np ≤ i) (hj : np ≤ j) (hij : i ≠ j) (D : Ends) (σ : St) (H : Hp) (h : TSt m np (sPar i j fa fb) D σ H) :
    tPar i j (tCons (TX m q fa) (tCons (TX m q' fb) tNil)) D σ H := by
  obtain ⟨F, δ, s, h⟩ := h
  refine ⟨F, δ, s, ?_⟩
  unfold sPar at h
  cases hr : fa δ with
  | exc c fs => rw [hr] at h; exact h
  | no => rw [hr] at h; exact h
  | ok o1 =>
    obtain ⟨z1, δ1⟩ := o1
    rw [hr] at h
    dsimp only [Rs.bind_ok] at h
    intro F1 H1 s1 v1 rz1
    refine ⟨F1, δ1, s1.st, ?_⟩
    cases hr2 : fb δ1 with
    | exc c fs => rw [hr2] at h; exact GX.step (show GX m F H σ δ c fs from h) s1
    | no => rw [hr2] at h; exact h
    | ok o2 =>
      obtain ⟨z2, δ2⟩ := o2
      rw [hr2] at h
      intro F2 H2 s2 v2 rz2
      have s12 := s1.trans s2
      -- the first value behind the second's making
      have rz1' : RepZ m.K F2 H2 H v1 z1 := by
        cases rz1 with
        | d r => exact .d (r.mono s2.ex.fr)
        | own a1 a2 a3 a4 =>
          obtain ⟨k1, k2⟩ := s2.ex.keep _ _ a2 a1 fun z => by
            obtain ⟨_, _, e⟩ := s.at (s1.at z.2)
            rw [a4] at e; cases e
          exact .own k2 k1 (a3.mono s2.ex.fr) a4
      have n1 : ∀ o, z1 = .own o → ∀ p, v1 = .ref p → H p = none ∧ ∃ u, H1 p = some u := fun o e p ev => by
        subst e
        cases rz1 with
        | own a1 a2 a3 a4 => cases ev; exact ⟨a4, _, a2⟩
      have n2 : ∀ o, z2 = .own o → ∀ p, v2 = .ref p → H1 p = none := fun o e p ev => by
        subst e
        cases rz2 with
        | own a1 a2 a3 a4 => cases ev; exact a4
      have nown : ∀ p, H p = none → ¬ OwnAt σ δ2 p := fun p hp z => by
        obtain ⟨_, _, e⟩ := s.at (s12.at z)
        rw [hp] at e; cases e
      obtain ⟨t1, w1⟩ := putZ (i := i) s2.st rz1' fun o e p ev => nown p (n1 o e p ev).1
      obtain ⟨t2, w2⟩ := putZ (i := j) t1 (rz2.fresh s1.ex.dom) fun o e p ev z => by
        rcases w1 p z with y | ⟨u, eu, ev'⟩
        · exact nown p (s1.ex.dom p (n2 o e p ev)) y
        · obtain ⟨_, u', hu⟩ := n1 u eu p ev'
          rw [n2 o e p ev] at hu; cases hu
      refine ⟨v1, v2, rfl, h F2 H2 _ ⟨t2, s12.wk.ex.wk fun _ z => z.2, fun p z => ?_, fun l hl o e => ?_, by rw [List.length_set, List.length_set]⟩⟩
      · rcases w2 p z with y | ⟨u, eu, ev⟩
        · rcases w1 p y with y' | ⟨u, eu, ev⟩
          · exact .inl (s12.at y')
          · exact .inr (n1 u eu p ev).1
        · exact .inr (s1.ex.dom p (n2 u eu p ev))
      · have nj : l ≠ j := by omega
        have ni : l ≠ i := by omega
        rw [List.getElem?_set_ne (Ne.symm nj), List.getElem?_set_ne (Ne.symm ni)] at e
        rw [List.getElem?_set_ne (Ne.symm nj), List.getElem?_set_ne (Ne.symm ni)]
        exact ⟨rfl, s12.ow l o e⟩
theorem st_par {i j : Nat} {y : Str} {px py pt : Pos} {kt k2 : Nat} {pt2 : Pos} {fa fb : XF} (hc : X.calm = true) (hN : X.N.Nodup) (hi : X.N[i]? = some x) (hj : X.N[j]? = some y) (hij : i ≠ j) (hni : np ≤ i) (hnj : np ≤ j) (hx : X.env.scope.names.lookup x = some .local) (hy : X.env.scope.names.lookup y = some .local)
    (ha : PX X m a q fa) (hb : PX X m b q' fb) (hw : swappedStores [.Tuple [.Name x px, .Name y py] kt pt] (.Tuple [a, b] k2 pt2) X.env = pure (some [x, y])) (hs1 : starEach [a, b] X.env = (false, eval a X.env) :: starEach [b] X.env := by rfl) (hs2 : starEach [b] X.env = (false, eval b X.env) :: starEach [] X.env := by rfl)
    (hs : swapsWithSole [.Tuple [.Name x px, .Name y py] kt pt] (.Tuple [a, b] k2 pt2) pos.line X.env = pure false := by rfl) : PSt X m np (.Assign [.Tuple [.Name x px, .Name y py] kt pt] (.Tuple [a, b] k2 pt2) pos) (sPar i j fa fb) :=
  ps_imp (ps_par hc hN hi hj hij hx hy (pa_cons ha (pa_cons hb pa_nil hs2) hs1) hw hs) (par_read hni hnj hij)
/-- targets of a tuple's places -/
def sAsg (f : VF) (g : D → Dv → Option Dv) : SF := fun δ => (f δ).bind fun x => (Rs.of (g x.1 x.2)).bind fun δ' => .ok (.nx δ')
theorem st_asg {tg : Expr} {f : VF} {t : TG} {g : D → Dv → Option Dv} {is : List Nat} (h : PV X m e q f) (hg : PG X tg t) (ht : TgOk m.K t g is) (hs : swapsWithSole [tg] e pos.line X.env = pure false := by rfl) (hw : swappedStores [tg] e X.env = pure none := by rfl)
    (h1 : (assignEach [tg] X.env).map (·.2) = [assign tg X.env] := by rfl) : PSt X m np (.Assign [tg] e pos) (sAsg f g) := ps_imp (ps_asg h hg hs hw h1) fun D σ H => by
  rintro ⟨F, δ, s, g0⟩
  refine ⟨F, δ, s, ?_⟩
  unfold sAsg at g0
  cases hr : f δ with
  | exc c fs => rw [hr] at g0; exact g0
  | no => rw [hr] at g0; exact g0
  | ok o =>
    obtain ⟨x, δ1⟩ := o
    rw [hr] at g0
    intro F1 H1 s1 v rv
    dsimp only [Rs.bind_ok] at g0
    cases hgd : g x δ1 with
    | none => rw [hgd] at g0; exact g0.elim
    | some δ2 =>
      rw [hgd] at g0
      exact ht.ok F1 H1 σ δ1 v x δ2 _ s1.st rv hgd fun σ' h' _ _ => g0 F1 H1 σ' (s1.s.trans (h' np))
end
end FD
end
section
set_option Elab.async false
set_option linter.all false
set_option maxRecDepth 100000
/-! FD11: how many unlike texts there are: len(set(texts)). -/
namespace FD
open PySem L2
open PySem.Spec PyProof.Rows

/-- how many unlike ones among the first i -/
def cntU (xs : List Str) : Nat → Nat
  | 0 => 0
  | i + 1 => if (xs.take i).any (· == xs.getD i Str.empty) = true then cntU xs i else cntU xs i + 1
theorem cntU_le (xs : List Str) : ∀ i, cntU xs i ≤ i
  | 0 => Nat.le_refl _
  | i + 1 => by
    have h := cntU_le xs i
    unfold cntU
    split <;> omega
/-- the turns of set.update over a walk of texts -/
theorem turnsU {prog : Program} {w : World} {A : Around} {R : Result → Shared → Prop} {I S : Addr} {fp wr : List Addr} {G : Array GenState → Array GenState → Prop} {P : Nat → Value → Prop} {St : Nat → Shared → Prop} {xs : List Str}
    (W : WalksS prog w A.in1 I fp wr G xs.length P St) (out : S ∉ fp) (small : xs.length ≤ 4000) (what : ∀ i v, P i v → ∃ t, v = .str (xs.getD i Str.empty) t) :
    ∀ (left i : Nat) (s : Shared), left + i = xs.length → St i s → s.heap.SetOf (PySem.strKind prog w) S (fun z => (xs.take i).any (· == z)) (cntU xs i) →
      (∀ s', Moved (S :: wr) G s s' → s'.heap.SetOf (PySem.strKind prog w) S (fun z => (xs.take xs.length).any (· == z)) (cntU xs xs.length) → R (.ok (.ret .none)) s') →
      codeAny (model prog w) A (.builtin "set.update.loop" ⟨[.ref S, .ref I], []⟩) R s := by
  have notw : S ∉ wr := fun h => out (W.sub _ h)
  have wider : ∀ b ∈ wr, b ∈ S :: wr := fun b hb => List.mem_cons_of_mem _ hb
  intro left
  induction left with
  | zero =>
    intro i s e st hS k
    have ei : i = xs.length := by omega
    rw [ei] at st hS
    refine codeAny_builtin PyProof.Rows.F.entry_set_update_loop ?_
    rw [Around.under_plainId PyProof.Rows.F.plain_set_update_loop _]
    show wpAny _ A.in1 (pyNext (.ref I) >>= _) _ _ s
    refine wpAny_bind (W.done s _ _ st fun s' mv => ?_)
    refine wpAny_pure (k s' (mv.mono wider) ?_)
    obtain ⟨o, es, ep, t, ho, more⟩ := hS
    exact ⟨o, es, ep, t, mv.heap S _ notw ho, more⟩
  | succ left ih =>
    intro i s e st hS k
    have lt : i < xs.length := by omega
    refine codeAny_builtin PyProof.Rows.F.entry_set_update_loop ?_
    rw [Around.under_plainId PyProof.Rows.F.plain_set_update_loop _]
    show wpAny _ A.in1 (pyNext (.ref I) >>= _) _ _ s
    refine wpAny_bind (W.item i s _ _ lt st fun v s1 hv st1 mv => ?_)
    obtain ⟨t, rfl⟩ := what i v hv
    generalize hx : xs.getD i Str.empty = x
    have hS1 : s1.heap.SetOf (PySem.strKind prog w) S (fun z => (xs.take i).any (· == z)) (cntU xs i) := by
      obtain ⟨o, es, ep, tb, ho, more⟩ := hS
      exact ⟨o, es, ep, tb, mv.heap S _ notw ho, more⟩
    show wpAny _ A.in1 (holding [Value.str x t] (setAdd S (.str x t)) >>= _) _ _ s1
    refine wpAny_bind (wpAny_holding ?_)
    unfold setAdd
    refine wpAny_holding (wpAny_bind ((PySem.strKind prog w).pyHash (k := x) (strKind_is _ _ _ _) ?_))
    refine wpAny_setAddHashed_of (knd := PySem.strKind prog w) (s := { s1 with toks := s1.toks + 1 }) (strKind_is _ _ _ _) rfl hS1 (by have := cntU_le xs i; unfold scanBound; omega) fun h2 sb hS2 => ?_
    have hS3 : h2.SetOf (PySem.strKind prog w) S (fun z => (xs.take (i + 1)).any (· == z)) (cntU xs (i + 1)) := by
      refine SetOf_congr hS2 (fun z => ?_) ?_
      · have e2 : xs[i] = x := by rw [← hx, List.getD_eq_getElem?_getD, List.getElem?_eq_getElem lt] <;> rfl
        rw [List.take_add_one, List.getElem?_eq_getElem lt, e2, List.any_append]
        congr 1
        by_cases ez : z = x
        · subst ez; simp
        · have hb : (x == z) = false := by simpa [beq_iff_eq] using fun y : x = z => ez y.symm
          simp [hb, ez]
      · show _ = if (xs.take i).any (· == xs.getD i Str.empty) = true then cntU xs i else cntU xs i + 1
        rw [hx]
    refine wpAny_pure ⟨plainId_quiet PyProof.Rows.F.plain_set_update_loop _, ih (i + 1) _ (by omega) (W.frame _ s1 _ _ st1 (Nat.le_succ _) fun b hb o ho => ?_) hS3 fun s2 mv2 hS4 => ?_⟩
    · rw [sb.2 b fun z : b = S => out (z ▸ hb)]; exact ho
    · refine k s2 (Moved.trans W.gtrans ((mv.mono wider).then_heap (Nat.le_succ _) fun b o hb ho => ?_) mv2) hS4
      rw [sb.2 b fun z : b = S => hb (by rw [z]; exact List.mem_cons_self)]; exact ho

section
variable {prog : Program} {w : World} {A : Around} {E : Value → Shared → Prop} {s : Shared}
/-- how a sequence is walked, by its type's name -/
structure SeqWay (prog : Program) (w : World) (T J : String) (at' : Heap → Addr → Array Value → Prop) : Prop where
  s1 : isSubtype (.type T) (.type "set") = pure false
  s2 : isSubtype (.type T) (.type "frozenset") = pure false
  s3 : (Value.type T == Value.type "dict") = false
  obj : ∀ h l items, at' h l items → ∃ od n sl, h.get? l = some { cls := .type T, dict := od, data := .seq items n, slots := sl }
  push : ∀ h o l items, at' h l items → at' (h.push o) l items
  iter : ∀ (A : Around) (E : Value → Shared → Prop) (s : Shared) l items (Q : Value → Shared → Prop), at' s.heap l items → Q (.ref s.heap.objs.size) { s with heap := s.heap.push { cls := .type J, data := .fields #[.ref l, .int 0 0] } } → wpAny (model prog w) A (pyIter (.ref l)) Q E s
  walk : ∀ (A : Around) I l items, A.handled = none → l ≠ I → ∃ St, WalksS prog w A I [I, l] [I] (fun a b => b = a) items.size (fun i v => items[i]? = some v) St ∧ ∀ s : Shared, s.heap.get? I = some { cls := .type J, data := .fields #[.ref l, .int 0 0] } → at' s.heap l items → St 0 s
theorem way_list : SeqWay prog w "list" "list_iterator" fun h l items => h.IsList l items where
  s1 := PySem.F.sub_list_set
  s2 := PySem.F.sub_list_frozenset
  s3 := by decide
  obj := fun h l items hl => by
    obtain ⟨⟨c, d, dat, sl⟩, h1, h2, n, h3⟩ := hl
    simp only at h2 h3
    subst h2; subst h3
    exact ⟨d, n, sl, h1⟩
  push := fun h o l items hl => hl.push o
  iter := fun A E s l items Q hl q => wpAny_pyIter_list hl q
  walk := fun A I l items hh ne => ⟨_, (Walks.list hh I l ne items).toS, fun s e hl => ⟨⟨_, e, rfl, rfl⟩, hl⟩⟩
theorem way_tuple : SeqWay prog w "tuple" "tuple_iterator" fun h l items => h.IsTuple l items where
  s1 := PySem.F.sub_tuple_set
  s2 := PySem.F.sub_tuple_frozenset
  s3 := by decide
  obj := fun h l items hl => by
    obtain ⟨⟨c, d, dat, sl⟩, h1, h2, n, h3⟩ := hl
    simp only at h2 h3
    subst h2; subst h3
    exact ⟨d, n, sl, h1⟩
  push := fun h o l items hl => hl.push o
  iter := fun A E s l items Q hl q => wpAny_pyIter_tuple hl q
  walk := fun A I l items hh ne => ⟨_, (Walks.tuple hh I l ne items).toS, fun s e hl => ⟨⟨_, e, rfl, rfl⟩, hl⟩⟩
/-- set.__init__ with the texts of a sequence -/
theorem fillU {T J : String} {at' : Heap → Addr → Array Value → Prop} (way : SeqWay prog w T J at') {l a : Addr} {items : Array Value} {xs : List Str} {led : Bool} {h0 : Heap} {g : Array GenState} {d : Drawn} {tk : Nat} {os : OsState} {Q : Value → Shared → Prop}
    (hh : A.handled = none) (hl : at' h0 l items) (hi : StrsAre items.toList xs) (small : xs.length ≤ 4000) (new : h0.get? a = some { cls := .type "set", dict := none, data := .set #[] 0 (.fresh 0 0 led) }) (hla : l ≠ a)
    (k : ∀ h' tk', h'.SetOf (PySem.strKind prog w) a (fun z => (xs.take xs.length).any (· == z)) (cntU xs xs.length) → (∀ b o, b ≠ a → h0.get? b = some o → h'.get? b = some o) → Q .none ⟨h', g, d, tk', os⟩) :
    codeAny (model prog w) A (.call (.builtin "set.__init__") ⟨[.ref a, .ref l], []⟩) (wants Q E) ⟨h0, g, d, tk, os⟩ := by
  refine codeAny_call_builtin PySem.F.called_set.init.plain PySem.F.entry_set_init (check_set_init_1 ⟨_, new, rfl⟩ ?_)
  obtain ⟨od, n, sl, ho⟩ := way.obj h0 l items hl
  have e1 := way.s1
  have e2 := way.s2
  have e3 := way.s3
  unfold Builtin.«set.__init__» noKeywords Builtin.Frozenset.updateFrom
  generalize hP : pyIter = P
  wp_walk
  subst hP
  refine way.iter _ _ _ l items _ hl ?_
  refine wpAny_bind (wpAny_runValue ?_)
  have len : xs.length = items.size := by rw [← StrsAre.len_eq hi, Array.length_toList]
  have hlt : l < h0.objs.size := Heap.lt_size ho
  have hat : a < h0.objs.size := Heap.lt_size new
  obtain ⟨St, W, st0⟩ := way.walk A.in1.in1 h0.objs.size l items (by simp [hh]) (Nat.ne_of_lt hlt)
  rw [← len] at W
  refine turnsU W (S := a) (by simp only [List.mem_cons, List.not_mem_nil, or_false, not_or]; exact ⟨Nat.ne_of_lt hat, Ne.symm hla⟩) small (fun i v hv => SS.strs_at hi i v (by rw [Array.getElem?_toList]; exact hv)) xs.length 0 _ (by omega) ?_ ?_ fun s' mv hS => ?_
  · exact st0 _ (Heap.get?_push_size _ rfl) (way.push _ _ _ _ hl)
  · exact SetOf_congr ((setObjOf_fresh (knd := PySem.strKind prog w) led).setOf (Heap.get?_push_of_some _ new) (by unfold scanBound; omega)) (fun _ => rfl) rfl
  · obtain ⟨h', g', d', tk', os'⟩ := s'
    obtain rfl : g' = g := mv.gens
    obtain rfl : d' = d := mv.drawn
    obtain rfl : os' = os := mv.os
    refine wpAny_pure ?_
    show wpAny _ _ (ret Value.none) _ _ _
    refine wpAny_pure (k h' tk' hS fun b o hb e => mv.heap b o ?_ (Heap.get?_push_of_some _ e))
    have hb2 : b ≠ h0.objs.size := Nat.ne_of_lt (Heap.lt_size e)
    simp only [List.mem_cons, List.not_mem_nil, or_false, not_or]
    exact ⟨hb, hb2⟩
end

section
variable {prog : Program} {w : World} {A : Around} {E : Value → Shared → Prop} {s : Shared}
/-- set(a sequence of texts) -/
theorem call_setU {T J : String} {at' : Heap → Addr → Array Value → Prop} (way : SeqWay prog w T J at') {l : Addr} {items : Array Value} {xs : List Str} {Q : Value → Shared → Prop}
    (hh : A.handled = none) (hl : at' s.heap l items) (hi : StrsAre items.toList xs) (small : xs.length ≤ 4000)
    (k : ∀ (h' : Heap) (tk : Nat), h'.SetOf (PySem.strKind prog w) s.heap.objs.size (fun z => (xs.take xs.length).any (· == z)) (cntU xs xs.length) →
      (∀ b o, s.heap.get? b = some o → h'.get? b = some o) → Q (.ref s.heap.objs.size) { s with heap := h', toks := tk }) :
    wpAny (model prog w) A (call (.type "set") [.ref l]) Q E s := by
  obtain ⟨c, tl, hmro⟩ := PySem.F.called_set.mro
  have hmade := PySem.F.called_set.made
  have hsub := PySem.F.called_set.sub
  obtain ⟨hp, g, d, tk, os⟩ := s
  refine wpAny_call (codeAny_of_tree ?_)
  show wpAny _ _ (callAny (.type "set") _) _ _ _
  refine wpAny_pure ⟨Code.quiet_builtin _ (by decide +kernel), codeAny_builtin PySem.F.entry_type_call ?_⟩
  rw [Around.under_plain (weight_type_call_type "set" [.ref l] []) rfl]
  have h1 := PySem.F.called_set.notType
  have h2 := PySem.F.called_set.canCreate
  have hct := PySem.F.typeCall_set_1 (.ref l)
  repeat (any_goals (first | assumption | wp_step))
  refine codeAny_mono (code_set_new_1 (.ref l) (E := E) (Q₁ := fun obj s₁ => ∃ led : Bool, obj = .ref hp.objs.size ∧ s₁ = (⟨hp.push { cls := .type "set", dict := none, data := .set #[] 0 (.fresh 0 0 led) }, g, d, tk, os⟩ : Shared)) fun led => ⟨led, rfl, rfl⟩) fun r s₁ hr => ?_
  match r, hr with
  | .ok (.ret obj), hr =>
    obtain ⟨led, rfl, rfl⟩ := hr
    have new : (hp.push { cls := .type "set", dict := none, data := .set #[] 0 (.fresh 0 0 led) }).get? hp.objs.size = some { cls := .type "set", dict := none, data := .set #[] 0 (.fresh 0 0 led) } := Heap.get?_push_size _ rfl
    have hT : Shared.TypeIs ⟨hp.push { cls := .type "set", dict := none, data := .set #[] 0 (.fresh 0 0 led) }, g, d, tk, os⟩ (.ref hp.objs.size) "set" := ⟨_, new, rfl⟩
    have hli := PySem.F.called_set.init.lookup
    have hbi := PySem.F.called_set.init.bind (.ref hp.objs.size)
    obtain ⟨od, n, sl, ho⟩ := way.obj hp l items hl
    repeat (any_goals (first | assumption | wp_step))
    refine codeAny_mono (fillU (E := E) way (Q := fun r s₂ => r = .none ∧ ∃ h' tk', s₂ = (⟨h', g, d, tk', os⟩ : Shared) ∧ h'.SetOf (PySem.strKind prog w) hp.objs.size (fun z => (xs.take xs.length).any (· == z)) (cntU xs xs.length) ∧ ∀ b o, hp.get? b = some o → h'.get? b = some o)
      (by simp [hh]) (way.push _ _ _ _ hl) hi small new (Nat.ne_of_lt (Heap.lt_size ho)) fun h' tk' hS hk => ⟨rfl, h', tk', rfl, hS, fun b o e => hk b o (Nat.ne_of_lt (Heap.lt_size e)) (Heap.get?_push_of_some _ e)⟩) fun r₂ s₂ hr₂ => ?_
    match r₂, hr₂ with
    | .ok (.ret r), hr₂ =>
      obtain ⟨rfl, h', tk', rfl, hS, hk⟩ := hr₂
      repeat (any_goals (first | assumption | wp_step))
      exact k _ _ hS hk
    | .error e, hr₂ => exact hr₂
    | .ok .next, hr₂ => exact hr₂.elim
    | .ok .brk, hr₂ => exact hr₂.elim
    | .ok .cont, hr₂ => exact hr₂.elim
  | .error e, hr => exact hr
  | .ok .next, hr => exact hr.elim
  | .ok .brk, hr => exact hr.elim
  | .ok .cont, hr => exact hr.elim
end
end FD
end
section
set_option Elab.async false
set_option linter.all false
set_option maxRecDepth 100000
/-! FD12: len(set(texts)), isinstance of several types, shown texts, further displays. -/
namespace FD
open PySem L2
open PySem.Spec PyProof.Rows

def tLenSetU (K : PySem.W.Frag) (ta : TE) : TE := fun σ H Q => ta σ H fun x H1 => ∃ (l : Addr) (xs : List Str), x = .ref l ∧ (SqL K H1 l (xs.map V.str) ∨ SqT K H1 l (xs.map V.str)) ∧ xs.length ≤ 4000 ∧ Q (.int (cntU xs xs.length : Nat)) H1
section
variable {X : Cx} {m : Pm} {q : Bool} {a : Expr} {p p2 pq pos : Pos}
theorem pe_lenSetU {ta : TE} (hc : X.calm = true) (hg : Gl X "len") (hm : X.mg "len" = none) (hg2 : Gl X "set") (hm2 : X.mg "set" = none) (ha : PE X a ta)
    (na : starEach [a] X.env = (false, eval a X.env) :: starEach [] X.env := by rfl) : PE X (.Call (.Name "len" p) [.Call (.Name "set" p2) [a] [] pq] [] pos) (tLenSetU X.K ta) := by
  refine ⟨fun pins s σ H Q I h => Call_ (ld_blt I hg hm boot_len ?_)⟩
  refine callWith_builtin1 (args_cons (Call_ (ld_blt I hg2 hm2 boot_set ?_)) rfl) rfl rfl
  refine callWith_type1 (args_cons (thn (ha.run pins s σ H _ I h) fun v s1 ⟨x, H1, I1, r1, q1⟩ => args_nil ?_) na) na rfl
  obtain ⟨l, xs, rfl, hq, small, q2⟩ := q1
  cases r1
  have done : ∀ (h' : Heap) (tk : Nat), h'.SetOf (PySem.strKind X.prog X.w) s1.heap.objs.size (fun z => (xs.take xs.length).any (· == z)) (cntU xs xs.length) → (∀ b o, s1.heap.get? b = some o → h'.get? b = some o) →
      wpAny (model X.prog X.w) X.A (spliced (backTo pos (starEach [] X.env))) (fun vs s₂ => wpAny (model X.prog X.w) X.A (call (.builtin "len") (Value.ref s1.heap.objs.size :: vs)) (EP X pins σ Q) X.xe s₂) X.xe { s1 with heap := h', toks := tk } := fun h' tk hS hk => by
    refine args_nil ?_
    have le := cntU_le xs xs.length
    obtain ⟨o, es, ep, t, ho, hex, hd, _, _, _, hf, hn⟩ := hS
    have I2 : Inv X pins σ H1 { s1 with heap := h', toks := tk } := I1.kept fun b o e => hk b o e
    refine call_len_set ho hex hd hf (by rw [hn] <;> omega) ⟨.int (cntU xs xs.length : Nat), H1, I2.tok _, ⟨_, by rw [hn]⟩, q2⟩
  rcases hq with hq | hq
  · obtain ⟨its, r, pl, _⟩ := I1.list hq
    exact call_setU way_list (I1.ok.hd hc) pl.isList (by simpa using strsAre_of r) small done
  · obtain ⟨its, r, pl, _⟩ := I1.tuple hq
    exact call_setU way_tuple (I1.ok.hd hc) pl (by simpa using strsAre_of r) small done
def vLenSet : List D → Option D
  | [d] => ((seqOf d).bind strsOf).bind fun xs => if xs.length ≤ 4000 then some (.int (cntU xs xs.length : Nat)) else none
  | _ => none
theorem pv_lenSet {fa : VF} (hc : X.calm = true) (hg : Gl X "len") (hm : X.mg "len" = none) (hg2 : Gl X "set") (hm2 : X.mg "set" = none) (ha : PLk X m a q fa) (hK : X.K = m.K := by rfl)
    (na : starEach [a] X.env = (false, eval a X.env) :: starEach [] X.env := by rfl) : PV X m (.Call (.Name "len" p) [.Call (.Name "set" p2) [a] [] pq] [] pos) q (fW vLenSet (fCons fa fNil)) := by
  refine pe_imp (show PE X _ (tLenSetU m.K (TW m q fa)) from hK ▸ pe_lenSetU hc hg hm hg2 hm2 ha na) fun σ H Q => ?_
  rintro ⟨F, δ, s, h⟩
  refine ⟨F, δ, s, ?_⟩
  unfold fW fCons fNil at h
  cases hf : fa δ with
  | exc c fs => rw [hf] at h; exact h
  | no => rw [hf] at h; exact h
  | ok o =>
    obtain ⟨d, δ1⟩ := o
    rw [hf] at h
    simp only [Rs.bind_ok] at h
    intro F' H' s' v rv
    cases hg : vLenSet [d] with
    | none => rw [hg] at h; exact h.elim
    | some z =>
      rw [hg] at h
      unfold vLenSet at hg
      dsimp only at hg
      cases h1 : seqOf d with
      | none => rw [h1] at hg; cases hg
      | some l =>
        rw [h1] at hg
        simp only [Option.bind_some] at hg
        cases h2 : strsOf l with
        | none => rw [h2] at hg; cases hg
        | some xs =>
          rw [h2] at hg
          simp only [Option.bind_some] at hg
          split at hg
          · rename_i hl
            cases hg
            obtain ⟨p, vs, rfl, hs, rl⟩ := seqOf_read rv h1
            rw [rl.strs h2] at hs
            exact ⟨p, xs, rfl, hs, hl, h F' H' s' _ (.int _)⟩
          · cases hg
end

/-! ### isinstance(x, (T, ..)) -/
def kitAnyB (t : String) : List String → Option Bool
  | [] => some false
  | n :: ns => (kitB t n).bind fun b => if b = true then some true else kitAnyB t ns
theorem kitAnyB_read {K : PySem.W.Frag} {t : String} : ∀ {ns : List String} {b : Bool}, kitAnyB t ns = some b → PySem.W.kitAny K (.type t) (ns.map Value.type) = some b
  | [], b, e => by cases e; rfl
  | n :: ns, b, e => by
    unfold kitAnyB at e
    cases h : kitB t n with
    | none => rw [h] at e; cases e
    | some c =>
      rw [h] at e
      simp only [Option.bind_some] at e
      refine kitAny_cons (kit_ty h) (fun z => ?_) fun z => ?_
      · subst z; rw [if_neg (by decide)] at e; exact kitAnyB_read e
      · subst z; rw [if_pos rfl] at e; cases e; rfl
def vIsT (ns : List String) (d : D) : Option D := (tyNm d).bind fun t => (kitAnyB t ns).map D.bl
def fIsT (ns : List String) (fa : VF) : VF := fun δ => (fa δ).bind fun a => (Rs.of (vIsT ns a.1)).bind fun x => .ok (x, a.2)
/-- names of types -/
def PTys (X : Cx) (es : List Expr) (ns : List String) : Prop := PA X es fun _ H Q => Q (ns.map V.ty) H
section
variable {X : Cx} {m : Pm} {q : Bool} {e a : Expr} {es : List Expr} {p pos tpos : Pos} {j : Nat}
theorem tys_nil : PTys X [] [] := pa_imp pa_nil fun σ H Q h => h
theorem tys_cons {n : String} {ns : List String} (he : PE X e (tC (.ty n))) (hr : PTys X es ns) (hs : starEach (e :: es) X.env = (false, eval e X.env) :: starEach es X.env := by rfl) : PTys X (e :: es) (n :: ns) := pa_imp (pa_cons he hr hs) fun σ H Q h => h
theorem clsTy : ∀ ns : List String, Paired ClsV (ns.map V.ty) (ns.map Value.type)
  | [] => .nil
  | n :: ns => .cons (.ty n) (clsTy ns)
theorem pv_isT {fa : VF} {ns : List String} (hg : Gl X "isinstance") (hm : X.mg "isinstance" = none) (ha : PLk X m a q fa) (ht : PTys X es ns) (hl : ns.length ≤ 1000 := by decide) (hK : X.K = m.K := by rfl)
    (h0 : starEach [a, .Tuple es j tpos] X.env = (false, eval a X.env) :: starEach [.Tuple es j tpos] X.env := by rfl) (h1 : starEach [.Tuple es j tpos] X.env = (false, eval (.Tuple es j tpos) X.env) :: starEach [] X.env := by rfl)
    (hpl : (backTo pos (starEach [.Tuple es j tpos] X.env)).any (·.1) = false := by rfl) :
    PV X m (.Call (.Name "isinstance" p) [a, .Tuple es j tpos] [] pos) q (fIsT ns fa) := by
  refine pe_imp (pe_callB call_isiT hg hm (by decide +kernel) (pa_cons ha (pa_cons (pe_tup ht) pa_nil h1) h0) (by decide) (by decide) h0 hpl) fun σ H Q => ?_
  rintro ⟨F, δ, s, h⟩
  refine ⟨F, δ, s, Gd.first (q' := true) (by rw [Bool.and_true]; exact h) fun d δ1 F1 H1 e1 g1 s1 x rx => ?_⟩
  dsimp only at g1
  rw [Bool.and_true] at g1
  cases hv : vIsT ns d with
  | none => rw [hv] at g1; exact g1.elim
  | some z =>
    rw [hv] at g1
    unfold vIsT at hv
    cases ht : tyNm d with
    | none => rw [ht] at hv; cases hv
    | some t =>
      rw [ht] at hv
      simp only [Option.bind_some] at hv
      cases hk : kitAnyB t ns with
      | none => rw [hk] at hv; cases hv
      | some b =>
        rw [hk] at hv
        cases hv
        refine ⟨by rw [List.length_map]; exact Nat.le_trans hl line_ge, fun r hr => ?_⟩
        have al := Alo.own (o := .tup (ns.map V.ty)) s1.st.sub hr
        refine ⟨x, r, ns.map V.ty, .type t, ns.map Value.type, b, rfl, upd_same, clsTy ns, by rw [hK]; exact tyNm_read (rx.mono al.hh) ht, kitAnyB_read hk, ?_⟩
        exact g1 _ _ (by have z := s1.trans (al.step (q := true) s1.st); rw [Bool.and_true] at z; exact z) _ (.bl b)
end
end FD
end
section
set_option Elab.async false
set_option linter.all false
set_option maxRecDepth 100000
/-! FD13: repr of data. -/
namespace FD
open PySem L2
open PySem.Spec PyProof.Rows

mutual
def toPyR : D → Option PyData
  | .non => some .none
  | .bl b => some (.bool b)
  | .int i => some (.int i)
  | .str s => some (.str s)
  | .tup l => (toPyRL l).map .tuple
  | .lst l => (toPyRL l).map .list
  | .scr l => (toPyRL l).map .list
  | .dct [] => some (.dict [])
  | .dct (_ :: _) => none
  | .obj _ => none
  | .ty _ => none
  | .exc _ _ => none
  | .cau _ _ _ => none
def toPyRL : List D → Option (List PyData)
  | [] => some []
  | d :: ds => (toPyR d).bind fun p => (toPyRL ds).map (p :: ·)
end
def SysOk (base : Heap) : Prop := ∃ o, base.get? sysModules = some o ∧ o.cls = .type "dict"
section
variable {X : Cx} {pins : List (Addr × Obj)} {σ : L2.St} {H : Hp} {s : Shared}
theorem not_sys (I : Inv X pins σ H s) (hb : SysOk X.base) {a : Addr} {o : Obj} (ho : s.heap.get? a = some o) (hc : o.cls = .type "list") : sysModules ≠ a := fun e => by
  obtain ⟨o', h1, h2⟩ := hb
  have h3 := I.bk _ _ h1
  rw [e, ho] at h3
  cases h3
  rw [hc] at h2
  exact absurd h2 (by decide)
mutual
theorem RepD.reads (I : Inv X pins σ H s) (hb : SysOk X.base) : ∀ {v : V} {d : D} {p : PyData} {u : Value}, RepD X.K H v d → toPyR d = some p → RelV v u → ∃ as, Reads s.heap u p as ∧ sysModules ∉ as
  | _, _, _, _, .non, e, r => by cases e; cases r; exact ⟨_, .none, by simp⟩
  | _, _, _, _, .bl b, e, r => by cases e; cases r; exact ⟨_, .bool b, by simp⟩
  | _, _, _, _, .int i, e, r => by cases e; obtain ⟨t, rfl⟩ := r; exact ⟨_, .int i t, by simp⟩
  | _, _, _, _, .str x, e, r => by cases e; obtain ⟨t, rfl⟩ := r; exact ⟨_, .str x t, by simp⟩
  | _, _, p, _, .tup (ds := ds) h q, e, r => by
    unfold toPyR at e
    cases hl : toPyRL ds with
    | none => rw [hl] at e; cases e
    | some ps =>
      rw [hl] at e; cases e
      cases r
      obtain ⟨its, rv, ⟨o, ho, hc, n, hd⟩, _⟩ := I.tuple h
      obtain ⟨as, hr, hs⟩ := RepL.reads I hb q hl rv
      exact ⟨_, .tuple ho hc hd hr, hs⟩
  | _, _, p, _, .lst (ds := ds) h q, e, r => by
    unfold toPyR at e
    cases hl : toPyRL ds with
    | none => rw [hl] at e; cases e
    | some ps =>
      rw [hl] at e; cases e
      cases r
      obtain ⟨its, rv, ⟨o, n, ho, hc, _, hd⟩, _⟩ := I.list (SqL.of h)
      obtain ⟨as, hr, hs⟩ := RepL.reads I hb q hl rv
      exact ⟨_, .list ho hc hd hr, fun z => (List.mem_cons.mp z).elim (not_sys I hb ho hc) hs⟩
  | _, _, p, _, .scr (ds := ds) h q, e, r => by
    unfold toPyR at e
    cases hl : toPyRL ds with
    | none => rw [hl] at e; cases e
    | some ps =>
      rw [hl] at e; cases e
      cases r
      obtain ⟨its, rv, ⟨o, n, ho, hc, _, hd⟩, _⟩ := I.list h
      obtain ⟨as, hr, hs⟩ := RepL.reads I hb q hl rv
      exact ⟨_, .list ho hc hd hr, fun z => (List.mem_cons.mp z).elim (not_sys I hb ho hc) hs⟩
  | _, _, _, _, .dct (ms := []) (kvs := []) h .nil, e, r => by
    unfold toPyR at e; cases e
    cases r
    obtain ⟨_, hs, vs, kv, o, es, ep, h1, h2, h3, h4, h5, _⟩ := dk_of I.hok h
    cases kv
    have e0 : es.toList = [] := by
      generalize es.toList = l at h5
      cases h5; rfl
    refine ⟨_, .dict (kvs := []) h1 h2.1 h3 (by rw [e0]; exact .nil) (by rw [e0]; exact .nil), ?_⟩
    intro z
    simp only [List.append_nil, List.mem_cons, List.not_mem_nil, or_false] at z
    rw [z] at hs
    simp at hs
  | _, _, _, _, .dct (ms := _ :: _) _ _, e, _ => by unfold toPyR at e; cases e
  | _, _, _, _, .obj, e, _ => by unfold toPyR at e; cases e
  | _, _, _, _, .ty _, e, _ => by unfold toPyR at e; cases e
  | _, _, _, _, .exc _ _ _ _ _, e, _ => by unfold toPyR at e; cases e
  | _, _, _, _, .cau _ _ _, e, _ => by unfold toPyR at e; cases e
theorem RepL.reads (I : Inv X pins σ H s) (hb : SysOk X.base) : ∀ {vs : List V} {ds : List D} {ps : List PyData} {us : List Value}, RepL X.K H vs ds → toPyRL ds = some ps → Vals vs us → ∃ as, ReadsAll s.heap us ps as ∧ sysModules ∉ as
  | _, _, _, _, .nil, e, r => by unfold toPyRL at e; cases e; cases r; exact ⟨_, .nil, by simp⟩
  | _, _, ps, _, .cons (d := d) (ds := ds) h q, e, .cons r1 r2 => by
    unfold toPyRL at e
    cases h1 : toPyR d with
    | none => rw [h1] at e; cases e
    | some p =>
      rw [h1] at e
      simp only [Option.bind_some] at e
      cases h2 : toPyRL ds with
      | none => rw [h2] at e; cases e
      | some ps' =>
        rw [h2] at e; cases e
        obtain ⟨as, q1, s1⟩ := RepD.reads I hb h h1 r1
        obtain ⟨bs, q2, s2⟩ := RepL.reads I hb q h2 r2
        exact ⟨_, .cons q1 q2, fun z => (List.mem_append.mp z).elim s1 s2⟩
end
end
end FD
end
section
set_option Elab.async false
set_option linter.all false
set_option maxRecDepth 100000
/-! FD14: repr as a call. -/
namespace FD
open PySem L2
open Builtin Builtin.BaseException
section
variable {prog : Program} {w : World} {A : Around} {E : Value → Shared → Prop} {s : Shared} {K : PySem.W.Frag} {C e t0 : Addr} {nm : Str} {Q : Value → Shared → Prop}
theorem name_exK {M : Model} {cd : ClassData} {Q : String → Shared → Prop} (x : PySem.ExcC K C e t0 s.heap) (hc : PySem.W.clsIn K C = some cd) (q : Q cd.name.toString s) : wpAny M A (typeNameOfWhole (.ref e)) Q E s := by
  unfold typeNameOfWhole shownTypeOf
  have ne : (Value.ref C == Value.type "builtin_function_or_method") = false := by cases h : (Value.ref C == Value.type "builtin_function_or_method") with
    | false => rfl
    | true => exact absurd (eq_of_beq h) (by intro z; cases z)
  refine wpAny_bind (wpAny_bind (x.LT.at ?_))
  rw [ne]
  refine wpAny_pure ?_
  show wpAny _ _ (typeNameWhole (.ref C)) _ _ _
  unfold typeNameWhole
  exact wpAny_bind ((PySem.W.looks_clsIn x.1 hc).at (wpAny_pure q))
theorem pyReprInt {i : Int} {t : Tok} {Q : Str → Shared → Prop} (hi : i.natAbs.log2 < 1920) (q : Q (toString i) { s with toks := s.toks + 1 }) : wpAny (model prog w) A (pyRepr (.int i t)) Q E s := by
  unfold pyRepr
  exact wpAny_bind (wpAny_pyReprObj_gives (typeIs_int s i t) PySem.F.slot_int_repr PySem.F.entry_int_repr (PySem.F.args_int_repr_1 _) (gives_int_repr i t hi) (wpAny_pure q) (hx := int_text_fits hi))
theorem repr_excK (k : ExK K C nm) (x : PySem.ExcC K C e t0 s.heap) {i : Int} {tk : Tok} (ht : s.heap.TupAt t0 [.int i tk]) (hi : i.natAbs.log2 < 1920) (hsz : (nm ++ "(" ++ toString i ++ ")").length ≤ sizeLine) (hn : nm.length ≤ 1000) (hu : A.units + 4 < cLine)
    (q : ∀ t u, Q (.str (nm ++ "(" ++ toString i ++ ")") u) { s with toks := t }) : wpAny (model prog w) A (call (.builtin "repr") [.ref e]) Q E s := by
  obtain ⟨cd, hcd, hname⟩ := k.nm
  have hf : PySem.W.Looks (model prog w) s.heap (typeLookup (.ref C) "__repr__") (some (.builtin "BaseException.__repr__")) := PySem.W.looks_findIn x.1 k.rp
  have hb := PySem.F.excStr_Exception.repr.bind (.ref e)
  refine Calls.call_function_entry F.kind_repr F.plain_repr F.entry_repr (F.args_repr1 _) ?_
  unfold Builtin.«repr»
  refine wpAny_bind (m := oneArg "repr" _) (wpAny_pure ?_)
  refine wpAny_bind (wpAny_cRoomFor (show A.in1.units < cLine by show A.units + 1 < cLine; omega) ?_)
  unfold specialOf
  refine wpAny_bind (wpAny_bind (x.LT.at (hf.at ?_)))
  show wpAny _ _ (if (some (Value.builtin "BaseException.__repr__")).isNone = true then _ else _) _ _ _
  rw [if_neg (by decide)]
  have body : wpAny (model prog w) A.in1.in1 (Builtin.«BaseException.__repr__» ⟨[.ref e], []⟩) (fun fin s' => ∃ v, fin = .done (.ret v) ∧ (∃ u t, v = .str (nm ++ "(" ++ toString i ++ ")") u ∧ s' = { s with toks := t })) E s := by
    have hsz2 : (Str.ofString ((cd.name.toString.cutAt '.').getLastD "") ++ Str.ofString "(" ++ Str.ofString (toString i) ++ Str.ofString ")").length ≤ sizeLine := by
      rw [show (Str.ofString ((cd.name.toString.cutAt '.').getLastD "")) = nm from hname]; exact hsz
    have hp : 0 + ((Str.ofString ((cd.name.toString.cutAt '.').getLastD "")).length + 1) ≤ sizeLine := by
      have e1 : (Str.ofString ((cd.name.toString.cutAt '.').getLastD "")) = nm := hname
      rw [e1, sizeLine_eq]; omega
    show wpAny _ _ (Builtin.bexcReprAt 0 ⟨[.ref e], []⟩) _ _ _
    unfold Builtin.bexcReprAt
    repeat (first | with_reducible refine name_exK x hcd ?_ | with_reducible refine bexcArgs_C x ht ?_ | rw [pyReprUnder_leaf (v := .int i tk) hp (by intro a; nofun)] | with_reducible refine pyReprInt hi ?_ | wp_step)
    exact ⟨_, rfl, _, _, by rw [show (Str.ofString ((cd.name.toString.cutAt '.').getLastD "")) = nm from hname], rfl⟩
  have bcall : wpAny (model prog w) A.in1 (call (.builtin "BaseException.__repr__") ([.ref e] ++ [])) (fun v s' => ∃ u t, v = .str (nm ++ "(" ++ toString i ++ ")") u ∧ s' = { s with toks := t }) E s :=
    wpAny_call (codeAny_call_builtin PySem.F.excStr_Exception.repr.plain PySem.F.entry_bexc_repr (@PySem.W.check_slot (model prog w) _ _ s "BaseException.__repr__" "BaseException" "__repr__" (.ref e) [] [] _ (by decide +kernel) (by decide +kernel) (x.LI k.ex.hs) (PySem.F.args_bexc_repr _)
      (wpAny_mono body (fun fin s' hv => by obtain ⟨v, rfl, z⟩ := hv; exact z) fun _ _ z => z)))
  refine wpAny_bind ?_
  unfold callSpecialIfBound?
  refine wpAny_holding (wpAny_bind ?_)
  have key : wpAny (model prog w) A.in1 (bindSpecialIfBound? (.ref e) "__repr__") (fun a s' => a = some (.builtin "BaseException.__repr__", [.ref e]) ∧ s' = s) E s := by
    unfold bindSpecialIfBound? specialOf
    refine wpAny_bind (wpAny_bind (x.LT.at (hf.at ?_)))
    simp only [hb]
    refine wpAny_bind (wpAny_askSetting (wpAny_ite ?_))
    split
    · exact wpAny_bind (wpAny_pure (wpAny_pure ⟨rfl, rfl⟩))
    · exact wpAny_tryCatch (wpAny_bind (wpAny_pure (wpAny_pure ⟨rfl, rfl⟩)))
  refine wpAny_mono key (fun a s' hv => ?_) fun _ _ z => z
  obtain ⟨rfl, rfl⟩ := hv
  refine wpAny_bind (wpAny_mono bcall (fun v s2 hv => ?_) fun _ _ z => z)
  obtain ⟨u, t, rfl, rfl⟩ := hv
  refine wpAny_pure (wpAny_bind (wpAny_isInstance (typeIs_str _ _ _) isSubtype_str_str ?_))
  rw [if_pos rfl]
  exact wpAny_pure ⟨_, rfl, q t u⟩
end
end FD
end
section
set_option Elab.async false
set_option linter.all false
set_option maxRecDepth 100000
/-! FD15: repr and isinstance, exceptions too. -/
namespace FD
open PySem L2

def okPy (p : PyData) : Bool := p.showable && (decide (p.shown.length ≤ lim) && decide (p.depth ≤ 60))
def vRepr : List D → Option D
  | [.exc nm [.int i]] => if (nm ++ "(" ++ toString i ++ ")").length ≤ lim ∧ nm.length ≤ 1000 ∧ i.natAbs.log2 < 1920 then some (.str (nm ++ "(" ++ toString i ++ ")")) else none
  | [d] => (toPyR d).bind fun p => if okPy p = true then some (.str p.shown) else none
  | _ => none
def rRep (K : PySem.W.Frag) : List V → Hp → VK → Prop := fun xs H Q => ∃ x d z, xs = [x] ∧ RepD K H x d ∧ vRepr [d] = some z ∧ ∀ v, (∀ F, RepD K F v z) → Q v H
theorem exc_at {P : Program} {w : World} {H : Hp} {h : Heap} {a C t dx : Addr} (ok : HOk P w H h) (e : H a = some (exq a C t dx)) : h.get? a = some ({ cls := .ref C, dict := some dx, data := .fields #[.ref t, .none, .none, .none, .bool false, .none] } : Obj) := by
  have x : ObjOk P w H h a (.ext fun h => h.get? a = some ({ cls := .ref C, dict := some dx, data := .fields #[.ref t, .none, .none, .none, .bool false, .none] } : Obj)) := ok a _ e
  exact x.1
theorem call_rep {X : Cx} (hgu : X.A.guards = some []) (hu : X.A.units + 64 < cLine) (hb : SysOk X.base) : CallR X (.builtin "repr") (rRep X.K) := by
  intro pins s σ H xs us Q I r h
  obtain ⟨x, d, z, rfl, rd, hz, q⟩ := h
  obtain ⟨u, rfl, rx⟩ := vals1 r
  have gen : ∀ p, toPyR d = some p → okPy p = true → (∀ v, (∀ F, RepD X.K F v (.str p.shown)) → Q v H) → wpAny (model X.prog X.w) X.A (call (.builtin "repr") [u]) (EP X pins σ Q) X.xe s := fun p hp ok q => by
    unfold okPy at ok
    simp only [Bool.and_eq_true, decide_eq_true_eq] at ok
    obtain ⟨h1, h2, h3⟩ := ok
    have h4 : p.shown.length ≤ sizeLine := Nat.le_trans h2 lim_le
    have fin : ∀ h' v tk, (∀ b o, s.heap.get? b = some o → h'.get? b = some o) → EP X pins σ Q (.str p.shown v) { s with heap := h', toks := tk } := fun h' v tk hk => ⟨.str p.shown, H, I.kept (t' := tk) hk, ⟨v, rfl⟩, q _ fun F => .str _⟩
    obtain ⟨as, hr, hs⟩ := RepD.reads I hb rd hp rx
    cases hr with
    | none => exact PySem.P.repr_of_none (fin s.heap _ _ fun _ _ e => e)
    | bool b => exact PySem.P.repr_of_bool (fin s.heap _ _ fun _ _ e => e)
    | int i t => exact PySem.P.repr_of_int (by simpa [PyData.showable] using h1) (fin s.heap _ _ fun _ _ e => e)
    | str x t => exact PySem.P.repr_of_str (fin s.heap _ _ fun _ _ e => e) h4
    | list a1 a2 a3 a4 => exact repr_of_reads' (.list a1 a2 a3 a4) h1 (fun _ => hs) hgu (by omega) (fun _ _ e => e) (fun h' v tk hk => fin h' v tk hk) h4
    | tuple a1 a2 a3 a4 => exact repr_of_reads' (.tuple a1 a2 a3 a4) h1 (fun _ => hs) hgu (by omega) (fun _ _ e => e) (fun h' v tk hk => fin h' v tk hk) h4
    | dict a1 a2 a3 a4 a5 => exact repr_of_reads' (.dict a1 a2 a3 a4 a5) h1 (fun _ => hs) hgu (by omega) (fun _ _ e => e) (fun h' v tk hk => fin h' v tk hk) h4
  by_cases he : ∃ nm i, d = .exc nm [.int i]
  · obtain ⟨nm, i, rfl⟩ := he
    simp only [vRepr] at hz
    split at hz
    · rename_i hc
      cases hz
      cases rd with
      | exc k h1 h2 h3 rl =>
        cases rl with
        | cons ri rn =>
          cases rn; cases ri
          cases rx
          have ho := exc_at I.hok h1
          obtain ⟨its, rv, ⟨o, ho2, hc2, n, hd2⟩, _⟩ := I.tuple h3
          cases rv with
          | cons r1 r2 =>
            cases r2
            obtain ⟨tk, rfl⟩ := r1
            exact repr_excK (K := X.K) k ⟨I.kIn, _, _, ho, rfl, rfl, rfl⟩ (i := i) (tk := tk) ⟨o, n, ho2, hc2, hd2⟩ hc.2.2 (Nat.le_trans hc.1 lim_le) hc.2.1 (by omega) fun t u => ⟨.str _, H, I.tok t, ⟨u, rfl⟩, q _ fun F => .str _⟩
    · cases hz
  · have e : vRepr [d] = (toPyR d).bind fun p => if okPy p = true then some (.str p.shown) else none := by
      unfold vRepr
      split
      · rename_i nm i heq
        cases heq
        exact absurd ⟨_, _, rfl⟩ he
      · rename_i heq; cases heq; rfl
      · rename_i h1 h2; exact absurd rfl (h2 d)
    rw [e] at hz
    cases hp : toPyR d with
    | none => rw [hp] at hz; cases hz
    | some p =>
      rw [hp] at hz
      simp only [Option.bind_some] at hz
      split at hz
      · rename_i ok; cases hz; exact gen p hp ok q
      · cases hz
theorem sm_rep {K : PySem.W.Frag} : SmW K (rRep K) vRepr := fun H xs ds x Q r e k => by
  cases r with
  | nil => cases e
  | cons r1 r2 =>
    cases r2 with
    | nil => exact ⟨_, _, _, rfl, r1, e, k⟩
    | cons r3 r4 => unfold vRepr at e; split at e <;> first | cases e | (rename_i h; cases h)
end FD
end
section
set_option Elab.async false
set_option linter.all false
set_option maxRecDepth 100000
set_option maxHeartbeats 2000000
/-! FD16: isinstance of an exception that is held as a value. -/
namespace PySem.W
open Builtin Builtin.ObjectAttr
section
variable {prog : Program} {w : World} {A : Around} {E : Value → Shared → Prop} {s : Shared} {K : Frag} {x D : Addr} {ox od : Obj}
theorem fd_class {Q : Option Value → Shared → Prop} (k : L2.ExcC K D) (X : K.In s.heap) (I : InstAt s.heap x ox D (some od)) (h : Q (some (.ref D)) { s with toks := s.toks + 1 }) : wpAny (model prog w) A (getAttr? (.ref x) "__class__") Q E s := by
  obtain ⟨hp, g, d, t, os⟩ := s
  have isD : (clsIn K D).isSome = true := by obtain ⟨cd, hc, _⟩ := any_some k.hd; rw [hc]; rfl
  have found : findObj K D (some od) "__class__" = some (.bind (.builtin "getset_descriptor.__get__") (.builtin "object.__class__")) := by
    obtain ⟨cd, hc⟩ := Option.isSome_iff_exists.mp isD
    unfold findObj
    rw [hc, Option.bind_some, k.ha, Option.bind_some]
    simp [k.hn, k.ht]
  have l0 := I.type (M := model prog w)
  have l1 := looks_findIn (M := model prog w) X k.hg
  have l2 := looks_findIn (M := model prog w) X k.hk
  have l3 := looks_find (M := model prog w) X I found
  have isExc : Looks (model prog w) hp (isInstance (.ref x) (.type "BaseException")) true := l0.andThen (looks_subIn X k.hs)
  have other : (Value.builtin "BaseException.__getattribute__" == Value.builtin "object.__getattribute__") = false := by decide +kernel
  unfold getAttr? getAttrBy? getAttrBy
  refine wpAny_bind (wpAny_mkText (wpAny_bind (wpAny_attempt (wpAny_holding (wpAny_bind (l0.at (wpAny_bind (l1.at ?_))))))))
  dsimp only
  rw [other, Bool.and_false, if_neg Bool.false_ne_true]
  unfold getAttrByItsOwn hookBefore
  rw [if_pos (show onTheHeap (Value.ref D) = true from rfl)]
  refine wpAny_bind (l2.at (wpAny_bind (wpAny_attempt (wpAny_holding ?_))))
  unfold callGetattribute
  rw [if_neg (by decide)]
  unfold boundAndCalled
  rw [PySem.F.excAttr_ValueError.ga.bind (.ref x)]
  refine wpAny_bind (wpAny_pure ?_)
  show wpAny _ _ (call (.builtin "BaseException.__getattribute__") [.ref x, .str "__class__" t]) _ _ _
  refine wpAny_call (codeAny_call_builtin PySem.F.excAttr_ValueError.ga.plain PySem.F.entry_bexc_ga (@check_slot (model prog w) _ _ ⟨hp, g, d, t + 1, os⟩ "BaseException.__getattribute__" "BaseException" "__getattribute__" (.ref x) [.str "__class__" t] [] _ (by decide +kernel) (by decide +kernel) isExc (PySem.F.args_bexc_ga (.ref x) (.str "__class__" t)) ?_))
  unfold Builtin.«object.__getattribute__»
  refine wpAny_bind (wpAny_of_eq (a := ((Value.ref x : Value), [Value.str "__class__" t])) (by first | rfl | (simp only [slotArgs]; rfl)) (wpAny_bind (wpAny_pure (wpAny_bind (l0.at (wpAny_bind (l3.at ?_)))))))
  show wpAny _ _ (holding [Value.builtin "object.__class__"] (call (.builtin "getset_descriptor.__get__") [.builtin "object.__class__", .ref x, .ref D]) >>= ret) _ _ _
  refine wpAny_bind (wpAny_holding (wpAny_call (class_get (s := ⟨hp, g, d, t + 1, os⟩) (ox := ox) (od := some od) X I k.hm (wpAny_pure ?_))))
  show wpAny _ _ (handedOut (.ref D)) _ _ _
  rw [handedOut_of (v := .ref D) rfl]
  first
    | exact wpAny_pure (wpAny_pure h)
    | exact wpAny_pure h
    | exact wpAny_pure (wpAny_bind (wpAny_pure (wpAny_pure h)))
theorem fd_kit (k : L2.ExcC K D) (I0 : InstAt s.heap x ox D (some od)) : KitX K (.ref x) (.ref D) (fun h => InstAt h x ox D (some od)) where
  ty := fun _ _ _ I => I.type
  it := fun M h X _ => by
    obtain ⟨cd, hc, _⟩ := any_some k.hd
    unfold clsIn at hc
    split at hc
    · rename_i ho
      intro A' Q' E' s' kk q
      unfold isType loadHead
      exact wpAny_bind (wpAny_loadPart (kk _ _ (X _ _ ho)) (wpAny_pure q))
    · cases hc
  ne := fun h tp dd its n sl X htp => by
    obtain ⟨cd, hc, _⟩ := any_some k.hd
    cases e : (Value.ref D == Value.ref tp) with
    | false => rfl
    | true =>
      cases Value.ref.inj (eq_of_beq e)
      unfold clsIn at hc
      split at hc
      · rename_i ho
        cases (X _ _ ho).symm.trans htp
      · cases hc
  ca := fun X I q => fd_class k X I q
end
end PySem.W
namespace FD
open PySem L2
theorem exk_any {K : PySem.W.Frag} {C : Addr} {nm : Str} (k : ExK K C nm) : ∀ {ns : List String}, (∀ n ∈ ns, n ∈ ["int", "bool", "str", "tuple", "list", "dict"]) → PySem.W.kitAny K (.ref C) (ns.map Value.type) = some false
  | [], _ => rfl
  | n :: ns, h => kitAny_cons (k.no n (h n (List.mem_cons_self ..))) (fun _ => exk_any k fun z hz => h z (List.mem_cons_of_mem _ hz)) fun z => nomatch z
theorem rep_kit {X : Cx} {pins : List (Addr × Obj)} {σ : L2.St} {H : Hp} {s : Shared} (I : Inv X pins σ H s) {x : V} {u : Value} {nm : Str} {ds : List D} (r : RepD X.K H x (.exc nm ds)) (rx : RelV x u) :
    ∃ (C : Addr) (P : Heap → Prop), ExK X.K C nm ∧ PySem.W.KitX X.K u (.ref C) P ∧ P s.heap ∧ u ≠ .builtin "__main__.__loader__#opaque" := by
  cases r with
  | @exc a C t dx _ vs _ o k h1 h2 h3 rl =>
    cases rx
    have ho := exc_at I.hok h1
    obtain ⟨od, hd⟩ := objOk_get (I.hok dx o h2)
    have ia : PySem.W.InstAt s.heap a ({ cls := .ref C, dict := some dx, data := .fields #[.ref t, .none, .none, .none, .bool false, .none] } : Obj) C (some od) := ⟨ho, rfl, rfl, hd⟩
    exact ⟨C, _, k, PySem.W.fd_kit k.ex ia, ia, fun z => nomatch z⟩
def isiNames : List String := ["int", "bool", "str", "tuple", "list", "dict"]
/-- isinstance(x, T), exceptions too -/
def vIsi2 : List D → Option D
  | [.exc _ _, .ty n] => if isiNames.contains n then some (.bl false) else none
  | l => vIsi l
def rIsi2 (K : PySem.W.Frag) : List V → Hp → VK → Prop := fun xs H Q => rIsi K xs H Q ∨ ∃ x nm ds n, xs = [x, .ty n] ∧ RepD K H x (.exc nm ds) ∧ n ∈ isiNames ∧ Q (.bl false) H
theorem call_isi2 {X : Cx} : CallR X (.builtin "isinstance") (rIsi2 X.K) := by
  intro pins s σ H xs us Q I r h
  rcases h with h | ⟨x, nm, ds, n, rfl, rd, hn, q⟩
  · exact call_isi pins s σ H xs us Q I r h
  · obtain ⟨u1, u2, rfl, r1, r2⟩ := vals2 r
    cases (show u2 = .type n from r2)
    obtain ⟨C, P, k, Z, p, hx⟩ := rep_kit I rd r1
    exact PySem.W.kia_one Z I.kIn p (k.no n hn) hx fun tk => ⟨.bl false, H, I.tok tk, rfl, q⟩
def rIsiT2 (K : PySem.W.Frag) : List V → Hp → VK → Prop := fun xs H Q => rIsiT K xs H Q ∨ ∃ (x : V) (nm : Str) (ds : List D) (tp : Addr) (ns : List String), xs = [x, .ref tp] ∧ H tp = some (.tup (ns.map V.ty)) ∧ RepD K H x (.exc nm ds) ∧ (∀ n ∈ ns, n ∈ isiNames) ∧ Q (.bl false) H
theorem call_isiT2 {X : Cx} : CallR X (.builtin "isinstance") (rIsiT2 X.K) := by
  intro pins s σ H xs us Q I r h
  rcases h with h | ⟨x, nm, ds, tp, ns, rfl, hT, rd, hn, q⟩
  · exact call_isiT pins s σ H xs us Q I r h
  · obtain ⟨u1, u2, rfl, r1, r2⟩ := vals2 r
    cases (show u2 = Value.ref tp from r2)
    obtain ⟨C, P, k, Z, p, hx⟩ := rep_kit I rd r1
    obtain ⟨_, its, rv, o, h1, h2, n, h3⟩ := (show ObjOk X.prog X.w H s.heap tp (.tup (ns.map V.ty)) from I.hok tp _ hT)
    have e3 := ClsV.all (clsTy ns) rv
    subst e3
    obtain ⟨oc, od, dt, sl⟩ := o
    simp only at h2 h3
    subst h2 h3
    exact PySem.W.kia_tup Z I.kIn p h1 (exk_any k hn) hx fun tk => ⟨.bl false, H, I.tok tk, rfl, q⟩
def vIsT2 (ns : List String) : D → Option D
  | .exc _ _ => if ns.all isiNames.contains = true then some (.bl false) else none
  | d => vIsT ns d
def fIsT2 (ns : List String) (fa : VF) : VF := fun δ => (fa δ).bind fun a => (Rs.of (vIsT2 ns a.1)).bind fun x => .ok (x, a.2)
theorem isT2_read {K : PySem.W.Frag} {H : Hp} {x : V} {d z : D} {ns : List String} {tp : Addr} {Q : VK} (rx : RepD K H x d) (hT : H tp = some (.tup (ns.map V.ty))) (e : vIsT2 ns d = some z) (q : ∀ v, (∀ F, RepD K F v z) → Q v H) : rIsiT2 K [x, .ref tp] H Q := by
  unfold vIsT2 at e
  split at e
  · rename_i nm l
    split at e
    · rename_i hc
      cases e
      exact .inr ⟨x, nm, l, tp, ns, rfl, hT, rx, fun n hn => by simpa using List.all_eq_true.mp hc n hn, q _ fun F => .bl _⟩
    · cases e
  · unfold vIsT at e
    cases ht : tyNm d with
    | none => rw [ht] at e; cases e
    | some t =>
      rw [ht] at e
      simp only [Option.bind_some] at e
      cases hk : kitAnyB t ns with
      | none => rw [hk] at e; cases e
      | some b =>
        rw [hk] at e
        cases e
        exact .inl ⟨x, tp, ns.map V.ty, .type t, ns.map Value.type, b, rfl, hT, clsTy ns, tyNm_read rx ht, kitAnyB_read hk, q _ fun F => .bl _⟩
theorem pv_isT2 {X : Cx} {m : Pm} {q : Bool} {a : Expr} {es : List Expr} {p pos tpos : Pos} {j : Nat} {fa : VF} {ns : List String} (hg : Gl X "isinstance") (hm : X.mg "isinstance" = none) (ha : PLk X m a q fa) (ht : PTys X es ns) (hl : ns.length ≤ 1000 := by decide) (hK : X.K = m.K := by rfl)
    (h0 : starEach [a, .Tuple es j tpos] X.env = (false, eval a X.env) :: starEach [.Tuple es j tpos] X.env := by rfl) (h1 : starEach [.Tuple es j tpos] X.env = (false, eval (.Tuple es j tpos) X.env) :: starEach [] X.env := by rfl)
    (hpl : (backTo pos (starEach [.Tuple es j tpos] X.env)).any (·.1) = false := by rfl) :
    PV X m (.Call (.Name "isinstance" p) [a, .Tuple es j tpos] [] pos) q (fIsT2 ns fa) := by
  refine pe_imp (pe_callB call_isiT2 hg hm (by decide +kernel) (pa_cons ha (pa_cons (pe_tup ht) pa_nil h1) h0) (by decide) (by decide) h0 hpl) fun σ H Q => ?_
  rintro ⟨F, δ, s, h⟩
  refine ⟨F, δ, s, Gd.first (q' := true) (by rw [Bool.and_true]; exact h) fun d δ1 F1 H1 e1 g1 s1 x rx => ?_⟩
  dsimp only at g1
  rw [Bool.and_true] at g1
  cases hv : vIsT2 ns d with
  | none => rw [hv] at g1; exact g1.elim
  | some z =>
    rw [hv] at g1
    refine ⟨by rw [List.length_map]; exact Nat.le_trans hl line_ge, fun r hr => ?_⟩
    have al := Alo.own (o := .tup (ns.map V.ty)) s1.st.sub hr
    rw [hK]
    exact isT2_read (rx.mono al.hh) upd_same hv fun v hz => g1 _ _ (by have z := s1.trans (al.step (q := true) s1.st); rw [Bool.and_true] at z; exact z) _ (hz _)
theorem sm_isi2 {K : PySem.W.Frag} : SmW K (rIsi2 K) vIsi2 := fun H xs ds x Q r e k => by
  unfold vIsi2 at e
  split at e
  · rename_i nm l n
    split at e
    · rename_i hc
      cases e
      cases r with
      | cons r1 r2 =>
        cases r2 with
        | cons r3 r4 =>
          cases r4; cases r3
          exact .inr ⟨_, nm, l, n, rfl, r1, by simpa using hc, k _ fun F => .bl _⟩
    · cases e
  · exact .inl (sm_isi H xs _ x Q r e k)
end FD
end
section
set_option Elab.async false
set_option linter.all false
set_option maxRecDepth 100000
set_option maxHeartbeats 2000000
/-! FD17: an exception made as a value: C(x), C's own __init__ storing x. -/
namespace FD
open PySem L2
open PySem.Spec PyProof.Rows

/-- an exception that is being made: its arguments at t, its dict, if any, at d -/
def exm (a C t : Addr) (d : Option Addr) : HO := .ext fun h => h.get? a = some ({ cls := .ref C, dict := d, data := .fields #[.ref t, .none, .none, .none, .bool false, .none] } : Obj)
theorem exm_q {a C t dx : Addr} : exm a C t (some dx) = exq a C t dx := rfl
theorem exm_ok {P : Program} {w : World} {H : Hp} {h : Heap} {a C t : Addr} {d : Option Addr} (e : h.get? a = some ({ cls := .ref C, dict := d, data := .fields #[.ref t, .none, .none, .none, .bool false, .none] } : Obj)) : ObjOk P w H h a (exm a C t d) :=
  ⟨e, ⟨_, e⟩, fun _ _ z k => k _ z⟩
theorem exm_at {P : Program} {w : World} {H : Hp} {h : Heap} {a C t : Addr} {d : Option Addr} (ok : HOk P w H h) (e : H a = some (exm a C t d)) : h.get? a = some ({ cls := .ref C, dict := d, data := .fields #[.ref t, .none, .none, .none, .bool false, .none] } : Obj) := by
  have x : ObjOk P w H h a (.ext fun h => h.get? a = some ({ cls := .ref C, dict := d, data := .fields #[.ref t, .none, .none, .none, .bool false, .none] } : Obj)) := ok a _ e
  exact x.1
theorem exm_no {a C t : Addr} {d : Option Addr} : (∀ x, exm a C t d ≠ .own x) ∧ (∀ xs, exm a C t d ≠ .tup xs) ∧ (∀ o u, exm a C t d ≠ .frz o u) ∧ ∀ ps, exm a C t d ≠ .tbl ps := by
  refine ⟨fun x z => ?_, fun x z => ?_, fun x y z => ?_, fun x z => ?_⟩
  · have w : HO.ext _ = HO.own x := z
    cases w
  · have w : HO.ext _ = HO.tup x := z
    cases w
  · have w : HO.ext _ = HO.frz x y := z
    cases w
  · have w : HO.ext _ = HO.tbl x := z
    cases w
section
variable {X : Cx} {pins : List (Addr × Obj)} {σ : L2.St} {H : Hp} {s : Shared} {a C t : Addr} {f : Str} {y : V} {u : Value} {Q : Unit → Shared → Prop} {E : Value → Shared → Prop} {A : Around}
/-- the first field -/
theorem field_new (T : OexC X.K C) (I : Inv X pins σ H s) (e : H a = some (exm a C t none)) (free : PySem.W.findIn X.K (.ref C) f = some none) (ry : RelV y u)
    (k : ∀ dx s', H dx = none → dx ≠ a → Inv X pins σ (upd (upd H dx (exd dx [(f, y)])) a (exm a C t (some dx))) s' → Q () s') : wpAny (model X.prog X.w) A (setAttr (.ref a) f u) Q E s := by
  obtain ⟨nm, q, N, bs, bm, sn, sub, ab, col, dd, k0, k1, k2, k3, k5, hC, hbm⟩ := T.cls
  have hcl : PySem.W.clsIn X.K C = some { name := nm, bases := bs, mro := .ref C :: bm, ns := N, qualname := q, hasDict := true, slotNames := sn, subclasses := sub, abstract := ab, collection := col, hasDel := false } := by unfold PySem.W.clsIn; rw [hC] <;> rfl
  have ho := exm_at I.hok e
  obtain ⟨n1, n2, n3, n4⟩ := exm_no (a := a) (C := C) (t := t) (d := none)
  obtain ⟨hp, g, d, tk, os⟩ := s
  refine PySem.W.set_plain I.kIn (od := none) ⟨ho, rfl, rfl, trivial⟩ T.sa (PySem.HandSPX.exc_osa I.kIn ho hcl (show PySem.HandSPX.refsVE (.ref C :: bm) = true from hbm) rfl free fun h' tk' dx keep beyond ne hx hn => ?_)
  have fresh : H dx = none := I.hok.fresh beyond
  have old : ∀ {b : Addr} {o : Obj}, hp.get? b = some o → b ≠ dx := fun {b o} z => Nat.ne_of_lt (Nat.lt_of_lt_of_le (Heap.lt_size z) beyond)
  have nota : ∀ {b : Addr}, H b = none → b ≠ a := fun {b} n z => by rw [z, e] at n; cases n
  refine k dx _ fresh ne (I.un (t' := tk') ⟨fun b o z n _ _ => keep b o (nota n) z, fun b o z n _ _ => ⟨o.slots, keep b o (nota n) z⟩, fun b o z n _ => by rw [upd_ne (nota n), upd_ne (old z)]; exact n, fun b o z _ => ?_, fun b xs z => ?_, fun b o v z => ?_, fun b ps z => ?_⟩ fun b o z => ?_)
  · by_cases hb : b = a
    · exact ⟨_, by rw [hb]; exact hx⟩
    · exact ⟨o, keep b o hb z⟩
  · rw [upd_ne (at_ne e z (n2 _)), upd_ne (ne_of_none z fresh)]; exact z
  · rw [upd_ne (at_ne e z (n3 _ _)), upd_ne (ne_of_none z fresh)]; exact z
  · exact ⟨#[], by rw [upd_ne (at_ne e z (n4 _)), upd_ne (ne_of_none z fresh), z]; simp⟩
  · by_cases hb : b = a
    · subst hb
      rw [upd_same] at z
      cases z
      exact exm_ok hx
    · rw [upd_ne hb] at z
      by_cases hd : b = dx
      · subst hd
        rw [upd_same] at z
        cases z
        exact exd_ok hn (relO_put (fs := []) ry fun g => True.intro)
      · rw [upd_ne hd] at z
        refine (I.hok b o z).stay (fun c v hc w => keep c v ?_ w) (fun c hc => ?_) fun c xs hc => ?_
        · rcases hc with hc | hc
          · rw [hc]; exact hb
          · exact at_ne e hc (n1 _)
        · rw [upd_ne (at_ne e hc (n1 _)), upd_ne (ne_of_none hc fresh)]; exact hc
        · rw [upd_ne (at_ne e hc (n2 _)), upd_ne (ne_of_none hc fresh)]; exact hc
end
/-- self.f = e, self such an exception -/
def tFld (K : PySem.W.Frag) (f : Str) (to te : TE) : TS := fun D σ H => te σ H fun y H1 => to σ H1 fun x H2 => ∃ a C t : Addr, x = .ref a ∧ OexC K C ∧ PySem.W.findIn K (.ref C) f = some none ∧
  H2 a = some (exm a C t none) ∧ ∀ dx, H2 dx = none → dx ≠ a → D.nx σ (upd (upd H2 dx (exd dx [(f, y)])) a (exm a C t (some dx)))
theorem ps_fld {X : Cx} {o e : Expr} {to te : TE} {f : Str} {p' pos : Pos} (ho : PE X o to) (he : PE X e te) (hs : swapsWith e (some (.Attribute o f p')) pos.line X.env = pure false := by rfl) : PS X (.Assign [.Attribute o f p'] e pos) (tFld X.K f to te) := by
  refine ⟨fun pins s σ H D I h => ?_⟩
  refine plainObj_wpAny_Assign_Attribute (thn (he.run pins s σ H _ I h) fun v s1 ⟨y, H1, I1, r1, q1⟩ => thn (ho.run pins s1 σ H1 _ I1 q1) fun u s2 ⟨x, H2, I2, r2, a, C, t, ex, T, hno, ea, q⟩ => ?_) hs
  subst ex
  obtain rfl : u = Value.ref a := r2
  exact field_new T I2 ea hno r1 fun dx s' n ne J => ⟨σ, _, J, q dx n ne⟩
/-- what __init__ does -/
def spFld (C : Addr) (f : Str) : Sp := fun vs H Q _ => ∃ (a t : Addr) (y : V), vs = [.ref a, y] ∧ H a = some (exm a C t none) ∧ ∀ dx, H dx = none → dx ≠ a → Q .non (upd (upd H dx (exd dx [(f, y)])) a (exm a C t (some dx)))

/-- C(e, ..) as a value -/
def rMkv (C : Addr) (f : Str) : List V → Hp → VK → Prop := fun xs H Q => ∃ y, xs = [y] ∧ ∀ t a dx, H t = none → H a = none → H dx = none → t ≠ a → dx ≠ a → dx ≠ t → Q (.ref a) (upd (upd (upd (upd H t (.tup xs)) a (exm a C t none)) dx (exd dx [(f, y)])) a (exm a C t (some dx)))
theorem pe_mkv {X : Cx} {x : Str} {C fI : Addr} {k : Nat} {fd : FuncData} {ps : List Str} {f : Str} {e : Expr} {ta : TA} {p pos : Pos} (T : OexC X.K C) (iC : PySem.W.findIn X.K (.ref C) "__init__" = some (some (.ref fI))) (tI : PySem.W.typeIn X.K (.ref fI) = some (.type "function"))
    (F1 : FnOk X.prog X.w X.K X.mg X.base (L2.CX X.prog X.w) k fI fd ps (spFld C f)) (hr : Room (k + 1) X.A) (hb : Binds X.K fd ps []) (hx : Passes (L2.CX X.prog X.w) X E0) (hg : Gl X x) (hm : X.mg x = some (.ref C)) (ha : PA X [e] ta)
    (hdb : (x == ("__debug__" : Str)) = false := by decide) (he : starEach [e] X.env = (false, eval e X.env) :: starEach [] X.env := by rfl) (hpl : (backTo pos (starEach [] X.env)).any (·.1) = false := by rfl) :
    PE X (.Call (.Name x p) [e] [] pos) (fun σ H Q => ta σ H fun xs H1 => rMkv C f xs H1 Q) := by
  refine ⟨fun pins s σ H Q I h => ?_⟩
  obtain ⟨nm, q, N, bs, bm, sn, sub, ab, col, dd, k0, k1, k2, k3, k5, hC, hbm⟩ := T.cls
  refine wpAny_Call_Name_kw (ld_glob I hg hm ?_ hdb)
  refine PySem.W.callWith_K (h₀ := X.base) I.ok.mod.kin T.kC (thn (ha.run pos pins s σ H _ I h) fun us s1 ⟨vs, H1, I1, r1, hz⟩ => ⟨I1.kIn, ?_⟩) he hpl
  obtain ⟨y, rfl, q1⟩ := hz
  show wpAny _ _ (call (.ref C) us) _ _ _
  obtain ⟨hp, g, dr, tk, os⟩ := s1
  obtain ⟨u, rfl, ry⟩ := vals1 r1
  have nt : H1 hp.objs.size = none := I1.hok.fresh (Nat.le_refl _)
  have na : H1 (hp.objs.size + 1) = none := I1.hok.fresh (Nat.le_succ _)
  have hta : hp.objs.size ≠ hp.objs.size + 1 := Nat.ne_of_lt (Nat.lt_succ_self _)
  have sz1 : (hp.push (PySem.W.kdv_tup [u])).objs.size = hp.objs.size + 1 := Heap.size_push ..
  have J1 : Inv X pins σ (upd H1 hp.objs.size (.tup [y])) ⟨hp.push (PySem.W.kdv_tup [u]), g, dr, tk, os⟩ :=
    I1.laid (t' := tk) (fun b o z => Heap.get?_push_of_some _ z) (Nat.le_refl _) ⟨by show (1 : Nat) ≤ _; rw [sizeLine_eq]; decide, [u], .cons ry .nil, PySem.W.kdv_tup [u], Heap.get?_push_size _ rfl, rfl, _, rfl⟩
  have get2 : ((hp.push (PySem.W.kdv_tup [u])).push (PySem.HandSPX.excO C hp.objs.size)).get? (hp.objs.size + 1) = some (PySem.HandSPX.excO C hp.objs.size) := by heap_get
  have J2 : Inv X pins σ (upd (upd H1 hp.objs.size (.tup [y])) (hp.objs.size + 1) (exm (hp.objs.size + 1) C hp.objs.size none)) ⟨(hp.push (PySem.W.kdv_tup [u])).push (PySem.HandSPX.excO C hp.objs.size), g, dr, tk, os⟩ :=
    J1.laid (t' := tk) (fun b o z => Heap.get?_push_of_some _ z) (by rw [sz1]; exact Nat.le_refl _) (exm_ok get2)
  have r2 : Vals [V.ref (hp.objs.size + 1), y] [Value.ref (hp.objs.size + 1), u] := .cons rfl (.cons ry .nil)
  have hq : spFld C f [.ref (hp.objs.size + 1), y] (upd (upd H1 hp.objs.size (.tup [y])) (hp.objs.size + 1) (exm (hp.objs.size + 1) C hp.objs.size none)) (fun v H2 => v = .non ∧ Q (.ref (hp.objs.size + 1)) H2) E0 := by
    refine ⟨_, _, y, rfl, upd_same, fun dx hd ne => ⟨rfl, ?_⟩⟩
    rw [upd_ne ne] at hd
    have ne2 : dx ≠ hp.objs.size := fun z => by rw [z, upd_same] at hd; cases hd
    rw [upd_ne ne2] at hd
    exact q1 _ _ dx nt na hd hta ne ne2
  have hl : ([Value.ref (hp.objs.size + 1), u] : List Value).length = ps.length := by
    have e := r2.length
    rw [F1.len _ _ _ _ hq] at e
    exact e.symm
  have bb := hb _ [Value.ref (hp.objs.size + 1), u] J2.kIn (by rw [List.append_nil]; exact hl)
  refine wpAny_call (PySem.HandSPX.call_own F.excBase_ValueError (fun Y => PySem.HandSPX.refsVE_contains Y bm hbm) (I1.kIn _ _ hC) (PySem.W.looks_findIn I1.kIn iC) (fun self => PySem.W.bind_fn I1.kIn self tI) (by rw [sizeLine_eq]; show (1 : Nat) ≤ _; decide)
    (codeAny_mono (F1.run _ X.stack _ _ ⟨[Value.ref (hp.objs.size + 1), u], []⟩ [Value.ref (hp.objs.size + 1), u] _ _ E0 (hr.make C [u] []) (J2.env0.make C [u] []) bb r2 hq) fun r s' hq' => ?_))
  match r, hq' with
  | .error er, hq' => exact hx pins σ _ _ er s' J2 hq'
  | .ok (.ret u2), hq' =>
    obtain ⟨v, H2, I3, rv, ev, qq⟩ := J2.after hq'
    subst ev
    exact ⟨rv, .ref (hp.objs.size + 1), H2, I3, rfl, qq⟩
  | .ok .next, hq' => exact False.elim hq'
  | .ok .brk, hq' => exact False.elim hq'
  | .ok .cont, hq' => exact False.elim hq'
end FD
end
section
set_option Elab.async false
set_option linter.all false
set_option maxRecDepth 100000
set_option maxHeartbeats 2000000
/-! FD18: x, *y = e; {}; e[::-1]; str.index; C(x) as data. -/
namespace FD
open PySem L2
open PySem.Spec PyProof.Rows

/-! ### x, *y = a tuple -/
def gStar (K : PySem.W.Frag) (t1 t2 : TG) : TG := fun v σ H Q => ∃ a w ws, v = .ref a ∧ SqT K H a (w :: ws) ∧ ws.length ≤ 16000 ∧ ∀ p, H p = none → t1 w σ (upd H p (.lst ws)) fun σ2 H2 => t2 (.ref p) σ2 H2 Q
section
variable {X : Cx} {m : Pm} {np : Nat} {e tx ty : Expr} {q : Bool} {pos p1 p2 : Pos} {j : Nat}
theorem unpack_star {A : Around} {E : Value → Shared → Prop} {s : Shared} {prog : Program} {w : World} {a : Addr} {u0 : Value} {us : List Value} {Q : List Value → Shared → Prop} (hh : A.handled = none) (ht : s.heap.IsTuple a (u0 :: us).toArray) (hl : us.length ≤ 16000)
    (k : ∀ (h' : Heap) (tk : Nat), (∀ b o, s.heap.get? b = some o → h'.get? b = some o) → Q [u0, .ref h'.objs.size] { s with heap := h'.push { cls := .type "list", data := .seq us.toArray }, toks := tk }) :
    wpAny (model prog w) A (unpackItems (.ref a) 2 (some 1)) Q E s := by
  obtain ⟨hp, g, d, tk, os⟩ := s
  have ha : a < hp.objs.size := by obtain ⟨o, ho, _⟩ := ht; exact Heap.lt_size ho
  have hne : a ≠ hp.objs.size := Nat.ne_of_lt ha
  unfold unpackItems notIterableAtAll
  refine wpAny_bind (wpAny_bind (wpAny_specialOf ht.typeIs PySem.F.slot_tuple_iter.lookup (wpAny_pure ?_)))
  simp only [Option.isSome_some, if_true, Bool.false_eq_true, if_false]
  refine wpAny_bind (wpAny_holding (wpAny_pyIter_tuple ht (wpAny_bind (wpAny_holding (wpAny_draw_tuple hne 1 0 _ _ ⟨_, Heap.get?_push_size _ rfl, rfl, rfl⟩ (ht.push _) (by simp) fun h1 hit hs => ?_)))))
  have ht1 : h1.IsTuple a (u0 :: us).toArray := (ht.push _).extBut hs.extBut hne
  have hi1 : hp.objs.size < h1.objs.size := by obtain ⟨o, ho, _⟩ := hit; exact Heap.lt_size ho
  have ha1 : a < h1.objs.size := by obtain ⟨o, ho, _⟩ := ht1; exact Heap.lt_size ho
  show wpAny _ _ (holding [u0] (collect (.ref hp.objs.size)) >>= _) _ _ _
  refine wpAny_bind (wpAny_holding (PySem.W.kun_collect (s := ⟨h1, g, d, tk, os⟩) (k := 1) (T := "tuple_iterator") (.inr (.inr (.inr rfl))) (Walks.tuple (A := A.in1) hh hp.objs.size a hne _) (fun i u st => st.1.typeIs) (by simp) ⟨hit, ht1⟩ hi1 ha1 (fun h2 tk2 hk => ?_) (by rw [sizeLine_eq]; simp; omega)))
  show wpAny _ _ (newList (us.take (us.length - 0)) >>= fun l => pure ([u0] ++ [l] ++ us.drop (us.length - 0))) _ _ _
  rw [Nat.sub_zero, List.take_length, List.drop_length]
  unfold newList
  refine wpAny_bind (wpAny_newObj_type (wpAny_pure (k h2 tk2 fun b o ho => ?_)) (by show us.toArray.size ≤ sizeLine; rw [sizeLine_eq, List.size_toArray]; omega))
  exact hk b o (Nat.ne_of_lt (Heap.lt_size ho)) (hs.extBut b o (Nat.ne_of_lt (Heap.lt_size ho)) (Heap.get?_push_of_some _ ho))
theorem pg_star {t1 t2 : TG} (hc : X.calm = true) (h1 : PG X tx t1) (h2 : PG X ty t2) (ha : assignEach [tx, .Starred ty p2] X.env = [(false, assign tx X.env), (true, assign ty X.env)] := by rfl) : PG X (.Tuple [tx, .Starred ty p2] j pos) (gStar X.K t1 t2) := by
  refine ⟨fun pins s σ H v u Q I r hw => ?_⟩
  obtain ⟨a, w, ws, rfl, hq, hl, k⟩ := hw
  cases r
  obtain ⟨its, rv, ht, _⟩ := I.tuple hq
  rw [assign_Tuple]
  refine wpAny_bind (wpAny_standAt ?_)
  unfold unpack
  rw [ha]
  cases rv with
  | @cons _ u0 _ us r0 rs =>
    have len := rs.length
    refine wpAny_bind (wpAny_holding (unpack_star (I.ok.hd hc) ht (by omega) fun h' tk keep => ?_))
    have I1 : Inv X pins σ H { s with heap := h', toks := tk } := I.kept keep
    have hn : H h'.objs.size = none := I1.hok.fresh (Nat.le_refl _)
    have I2 : Inv X pins σ (upd H h'.objs.size (.lst ws)) { s with heap := h'.push { cls := .type "list", data := .seq us.toArray }, toks := tk } :=
      I1.laid (t' := tk) (fun b o z => Heap.get?_push_of_some _ z) (Nat.le_refl _) ⟨by rw [sizeLine_eq]; omega, _, 0, rs, Heap.get?_push_size _ rfl⟩
    show wpAny _ _ (holding [Value.ref h'.objs.size] (assign tx X.env u0) >>= fun _ => holding [] (assign ty X.env (.ref h'.objs.size)) >>= fun _ => pure ()) _ _ _
    refine wpAny_bind (wpAny_holding (wpAny_mono (h1.run pins _ σ _ w u0 _ I2 r0 (k _ hn)) (fun _ s2 z => ?_) fun _ _ z => z))
    obtain ⟨σ2, H2, I3, z2⟩ := z
    exact wpAny_bind (wpAny_holding (wpAny_mono (h2.run pins s2 σ2 H2 (.ref h'.objs.size) (.ref h'.objs.size) Q I3 rfl z2) (fun _ s3 z => wpAny_pure z) fun _ _ z => z))
/-- x, *y = e -/
def sStar (i k : Nat) (f : VF) : SF := fun δ => (f δ).bind fun x => match x.1 with
  | .tup (d :: ds) => if ds.length ≤ 16000 then .ok (.nx ((x.2.set i (.d d)).set k (.d (.lst ds)))) else .no
  | _ => .no
theorem st_star {x y : Str} {i k : Nat} {px py : Pos} {f : VF} (hc : X.calm = true) (hN : X.N.Nodup) (hi : X.N[i]? = some x) (hk : X.N[k]? = some y) (hx : Loc X.env.scope x) (hy : Loc X.env.scope y) (h : PV X m e q f) (hK : X.K = m.K := by rfl)
    (hs : swapsWithSole [.Tuple [.Name x px, .Starred (.Name y py) p2] j p1] e pos.line X.env = pure false := by rfl) (hw : swappedStores [.Tuple [.Name x px, .Starred (.Name y py) p2] j p1] e X.env = pure none := by rfl)
    (h1 : (assignEach [.Tuple [.Name x px, .Starred (.Name y py) p2] j p1] X.env).map (·.2) = [assign (.Tuple [.Name x px, .Starred (.Name y py) p2] j p1) X.env] := by rfl)
    (ha : assignEach [.Name x px, .Starred (.Name y py) p2] X.env = [(false, assign (.Name x px) X.env), (true, assign (.Name y py) X.env)] := by rfl)
    (hf : X.fn x = true ∨ X.env.scope.names.lookup x = some .local := by first | exact .inl rfl | exact .inr rfl | assumption) (hf2 : X.fn y = true ∨ X.env.scope.names.lookup y = some .local := by first | exact .inl rfl | exact .inr rfl | assumption) :
    PSt X m np (.Assign [.Tuple [.Name x px, .Starred (.Name y py) p2] j p1] e pos) (sStar i k f) := by
  refine ps_imp (ps_asg h (pg_star hc (pg_name hN hi hx hf) (pg_name hN hk hy hf2) ha) hs hw h1) fun Dn σ H => ?_
  rintro ⟨F, δ, s, g0⟩
  refine ⟨F, δ, s, ?_⟩
  unfold sStar at g0
  cases hr : f δ with
  | exc c fs => rw [hr] at g0; exact g0
  | no => rw [hr] at g0; exact g0
  | ok o =>
    obtain ⟨d0, δ1⟩ := o
    rw [hr] at g0
    simp only [Rs.bind_ok] at g0
    intro F1 H1 s1 v rv
    split at g0
    · rename_i d ds
      split at g0
      · rename_i hl
        cases rv with
        | @tup a vs _ hq rl =>
          cases rl with
          | @cons w ws _ _ r0 rs =>
            refine ⟨a, w, ws, rfl, hK ▸ same_seqT s1.st.sub hq, by rw [rs.length]; exact hl, fun p hp => ?_⟩
            have al := Alo.new (o := .lst ws) s1.st.sub hp
            have s2 := s1.trans (al.step (q := true) s1.st)
            have s3 := set_d (np := np) (i := i) s2.st (r0.mono al.fr)
            have s4 := set_d (np := np) (i := k) s3.st (RepD.lst upd_same (rs.mono al.fr))
            exact g0 _ _ _ ((s2.s.trans s3).trans s4)
      · exact g0.elim
    · exact g0.elim
end
end FD
end
section
set_option Elab.async false
set_option linter.all false
set_option maxRecDepth 100000
set_option maxHeartbeats 2000000
/-! FD19: e[::-1] of a tuple; {}; str.index; C(x) as data. -/
namespace FD
open PySem L2
open PySem.Spec PyProof.Rows HT

theorem rev_places (n : Nat) : Builtin.Slice.slicePlaces ((n : Int) - 1) (-1) (-1) = n := by
  unfold Builtin.Slice.slicePlaces
  have h1 : ¬ ((-1 : Int) > 0) := by omega
  simp only [h1, if_false]
  split
  · have e : (((n : Int) - 1 - -1 - 1) / (- -1) + 1) = n := by
      rw [show (- -1 : Int) = 1 from rfl, Int.ediv_one]; omega
    rw [e]; omega
  · omega
theorem fm_all {α β : Type} {f : α → Option β} {g : α → β} : ∀ {l : List α}, (∀ k ∈ l, f k = some (g k)) → l.filterMap f = l.map g
  | [], _ => rfl
  | x :: l, h => by
    rw [List.filterMap_cons, h x (List.mem_cons_self ..), List.map_cons, fm_all fun k hk => h k (List.mem_cons_of_mem _ hk)]
theorem rev_pick (xs : Array Value) : ((List.range xs.size).filterMap fun (k : Nat) => xs[(((xs.size : Int) - 1) + (k : Int) * -1).toNat]?).toArray = xs.toList.reverse.toArray := by
  congr 1
  have e : ∀ k ∈ List.range xs.size, (fun (k : Nat) => xs[(((xs.size : Int) - 1) + (k : Int) * -1).toNat]?) k = some (xs.toList.reverse.getD k .none) := fun k hk => by
    have hk' : k < xs.size := List.mem_range.mp hk
    have i1 : (((xs.size : Int) - 1) + (k : Int) * -1).toNat = xs.size - 1 - k := by omega
    show xs[(((xs.size : Int) - 1) + (k : Int) * -1).toNat]? = _
    rw [i1, List.getD_eq_getElem?_getD, List.getElem?_reverse (by rw [Array.length_toList]; exact hk'), Array.length_toList, Array.getElem?_toList]
    rw [Array.getElem?_eq_getElem (by omega)]
    rfl
  rw [fm_all e]
  apply List.ext_getElem
  · simp
  · intro i h1 h2
    simp only [List.length_map, List.length_range] at h1
    simp only [List.getElem_map, List.getElem_range]
    rw [List.getD_eq_getElem?_getD, List.getElem?_eq_getElem h2]
    rfl
section
variable {prog : Program} {w : World} {A : Around} {E : Value → Shared → Prop} {s : Shared}
theorem getItem_tuple_rev {t sl : Addr} {items : Array Value} {vs : Value} {Q : Value → Shared → Prop} (ht : IsTup s.heap t items) (hs : s.heap.IsSliceOf sl .none .none vs) (pv : IsPart vs (some (-1)))
    (h : Q (.ref s.heap.objs.size) { s with heap := s.heap.push { cls := .type "tuple", data := .seq items.toList.reverse.toArray } }) (hsz : items.size ≤ sizeLine) : wpAny (model prog w) A (getItem (.ref t) (.ref sl)) Q E s := by
  have fits : sizeOk (.seq items.toList.reverse.toArray) := by
    show items.toList.reverse.toArray.size ≤ sizeLine
    rw [List.size_toArray, List.length_reverse, Array.length_toList]; exact hsz
  obtain ⟨os, hos, hcs, hds⟩ := id hs
  have hTs : s.TypeIs (.ref sl) "slice" := ⟨os, hos, hcs⟩
  unfold getItem
  try with_reducible refine wpAny_holding ?_
  first | refine wpAny_bind (wpAny_pure ?_) | skip
  refine wpAny_bind (wpAny_sequenceKey ht.typeIs (by decide) ?_)
  refine wpAny_bind (wpAny_callSpecial?_slot (name := Str.ofString "__getitem__") ht.typeIs PyProof.Rows.slot_tuple_getitem (wpAny_call_entry PyProof.Rows.slot_tuple_getitem ht.typeIs entry_tuple_getitem ?_ (args_tuple_getitem _ _)))
  show wpAny _ _ (Builtin.Tuple.tupleItemsOf (.ref t) >>= _) _ _ s
  refine wpAny_bind (tupleItemsOf_ ht (wpAny_bind (wpAny_typeOf hTs ?_)))
  rw [if_pos (by decide)]
  refine wpAny_bind ?_
  unfold Builtin.Slice.sliceApplied Builtin.Slice.sliceFields
  refine wpAny_bind (wpAny_bind (wpAny_field hos hds (x := .none) rfl (wpAny_bind (wpAny_field hos hds (x := .none) rfl (wpAny_bind (wpAny_field hos hds (x := vs) rfl (wpAny_pure ?_)))))))
  refine wpAny_bind (slicePart_ pv ?_)
  show wpAny _ _ (if ((-1 : Int) == 0) = true then _ else _) _ _ s
  rw [if_neg (by decide)]
  refine wpAny_bind (slicePart_none (wpAny_bind (slicePart_none (wpAny_bind (wpAny_pure ?_)))))
  show wpAny _ _ (pure (((items.size : Int) - 1), (-1 : Int), Builtin.Slice.slicePlaces ((items.size : Int) - 1) (-1) (-1))) _ _ s
  rw [rev_places]
  refine wpAny_pure ?_
  show wpAny _ _ (if (((items.size : Int) - 1) == 0 && (-1 : Int) == 1 && items.size == items.size) = true then _ else _) _ _ s
  rw [if_neg (by simp), rev_pick]
  first
    | exact wpAny_bind (m := Builtin.Tuple.tupleExact _) (wpAny_newObj_type (wpAny_pure ⟨_, rfl, wpAny_pure h⟩) fits)
    | exact wpAny_bind (m := Builtin.Tuple.tupleExact _) (wpAny_newObj_type (wpAny_bind (wpAny_pure (wpAny_pure ⟨_, rfl, wpAny_pure h⟩))) fits)
    | exact wpAny_bind (wpAny_bind (m := Builtin.Tuple.tupleExact _) (wpAny_newObj_type (wpAny_pure (wpAny_pure ⟨_, rfl, wpAny_pure h⟩)) fits))
    | exact wpAny_bind (wpAny_bind (m := Builtin.Tuple.tupleExact _) (wpAny_newObj_type (wpAny_pure ⟨_, rfl, wpAny_pure h⟩) fits))
end
def rRevT (K : PySem.W.Frag) : V → Hp → VK → Prop := fun x H Q => ∃ a xs, x = .ref a ∧ SqT K H a xs ∧ ∀ p, H p = none → Q (.ref p) (upd H p (.tup xs.reverse))
theorem pe_revT {X : Cx} {e : Expr} {te : TE} {k : Nat} {p1 p2 p3 pos : Pos} (he : PE X e te) : PE X (.Subscript e (.Slice none none (some (.UnaryOp .USub (.Constant (.int 1) k p1) p2)) p3) pos) (fun σ H Q => te σ H fun x H1 => rRevT X.K x H1 Q) := by
  refine ⟨fun pins s σ H Q I h => ?_⟩
  refine Subscript_ (thn (he.run pins s σ H _ I h) fun v s1 ⟨x, H1, I1, r1, q1⟩ => ?_)
  obtain ⟨a, xs, rfl, hx, q⟩ := q1
  cases r1
  have part : PO X (some (.UnaryOp .USub (.Constant (.int 1) k p1) p2)) (tPart (tUn (rU fun i => .int (-i)) (tC (.int 1)))) := po_some (pe_un un_neg pe_int)
  refine wpAny_Slice (thn (po_none.run pins s1 σ H1 (fun o H2 => o = none ∧ H2 = H1) I1 ⟨rfl, rfl⟩) fun vl s2 ⟨l, H2, I2, pl, el, e2⟩ => ?_)
  subst el e2
  refine thn (po_none.run pins s2 σ H2 (fun o H3 => o = none ∧ H3 = H2) I2 ⟨rfl, rfl⟩) fun vu s3 ⟨u, H3, I3, pu, eu, e3⟩ => ?_
  subst eu e3
  refine thn (part.run pins s3 σ H3 (fun o H4 => o = some (-1) ∧ H4 = H3) I3 ⟨1, rfl, -1, rfl, rfl, rfl⟩) fun vs s4 ⟨o, H4, I4, ps, eo, e4⟩ => ?_
  subst eo e4
  cases pl
  cases pu
  have I5 : Inv X pins σ H4 { s4 with heap := s4.heap.push { cls := .type "slice", data := .fields #[.none, .none, vs] } } := I4.kept (t' := s4.toks) fun b ob z => Heap.get?_push_of_some _ z
  obtain ⟨its, r, ht, hz⟩ := I5.tuple hx
  show wpAny (model X.prog X.w) X.A (subscriptTail e (.Slice none none (some (.UnaryOp .USub (.Constant (.int 1) k p1) p2)) p3) (.ref a) (.ref s4.heap.objs.size)) (EP X pins σ Q) X.xe { s4 with heap := s4.heap.push { cls := .type "slice", data := .fields #[.none, .none, vs] } }
  refine tail_any (ops := [.ref a, .ref s4.heap.objs.size]) ht.typeIs PyProof.Rows.slot_tuple_getitem.lookup ?_ (by with_unfolding_all rfl)
  refine getItem_tuple_rev ht (Heap.IsSliceOf.new _ .none .none vs) ps ?_ (by rw [List.size_toArray, ← r.length]; exact hz)
  refine ⟨.ref _, _, I5.laid (t' := s4.toks) (o := .tup xs.reverse) (fun b ob z => Heap.get?_push_of_some _ z) (Nat.le_refl _) ?_, rfl, q _ (I5.hok.fresh (Nat.le_refl _))⟩
  exact ⟨by rw [List.length_reverse]; exact hz, _, r.reverse, _, Heap.get?_push_size _ rfl, rfl, 0, rfl⟩
def vRevT : D → Option EV
  | .tup l => some (.d (.tup l.reverse))
  | _ => none
theorem px_revT {X : Cx} {m : Pm} {q : Bool} {e : Expr} {fa : VF} {k : Nat} {p1 p2 p3 pos : Pos} (he : PV X m e q fa) (hK : X.K = m.K := by rfl) : PX X m (.Subscript e (.Slice none none (some (.UnaryOp .USub (.Constant (.int 1) k p1) p2)) p3) pos) q (f1 vRevT fa) :=
  pe_imp (show PE X _ (fun σ H Q => TV m q fa σ H fun x H1 => rRevT m.K x H1 Q) from hK ▸ pe_revT he) (one fun F H x d z Q s r e k => by
    cases r with
    | @tup a vs ds h rl =>
      cases e
      refine ⟨a, vs, rfl, same_seqT s h, fun p hp => ?_⟩
      have al := Alo.new (o := .tup vs.reverse) s hp
      exact k _ _ _ al (.d (.tup (SqT.of upd_same) (rl.reverse.mono al.fr)))
    | _ => cases e)

/-! ### {} -/
theorem px_dct0 {X : Cx} {m : Pm} {pos : Pos} : PX X m (.Dict [] [] pos) true (fun δ => .ok (.own (.dct []), δ)) := pe_imp pe_dnewK fun σ H Q => by
  rintro ⟨F, δ, s, g⟩ p hp
  have al := Alo.own (o := .dK []) s.sub hp
  exact g _ _ (al.step s) _ (rz_own s.sub hp (.dct .nil))

/-! ### str.index -/
def vIndex : D → D → Option D
  | .str a, .str b => match Builtin.Str.occurrences a b 0 a.length 1 with
    | i :: _ => some (.int (i : Nat))
    | [] => none
  | _, _ => none
theorem sm_index {K : PySem.W.Frag} : SmM K (fun x xs H Q => ∃ a b i rest, x = .str a ∧ xs = [.str b] ∧ Builtin.Str.occurrences a b 0 a.length 1 = i :: rest ∧ Q (.int (i : Nat)) H) vIndex := by
  intro H a y d x Q r e k
  unfold vIndex at e
  cases r with
  | str b =>
    dsimp only at e
    cases h : Builtin.Str.occurrences a b 0 a.length 1 with
    | nil => rw [h] at e; cases e
    | cons i rest => rw [h] at e; cases e; exact ⟨a, b, i, rest, rfl, rfl, h, k _ fun F => .int _⟩
  | _ => cases e

/-! ### C(x) -/
def vMkv (nm : Str) : List D → Option EV
  | [d] => some (.d (.exc nm [d]))
  | _ => none
theorem sm_mkv {K : PySem.W.Frag} {C : Addr} {f nm : Str} (k0 : ExK K C nm) : SmN K (rMkv C f) (vMkv nm) := by
  intro F H xs ds z Q s r e k
  cases r with
  | nil => cases e
  | @cons x xs d ds r1 r2 =>
    cases r2 with
    | cons r3 r4 => cases e
    | nil =>
      cases e
      refine ⟨x, rfl, fun t a dx ht ha hd hta hda hdt => ?_⟩
      have a1 := Alo.new (o := .tup [x]) s ht
      have a2 := Alo.new (o := exd dx [(f, x)]) a1.sub (p := dx) (by rw [upd_ne hdt]; exact hd)
      have a3 := Alo.new (o := exm a C t (some dx)) a2.sub (p := a) (by rw [upd_ne (Ne.symm hda), upd_ne (Ne.symm hta)]; exact ha)
      have eH : upd (upd (upd (upd H t (.tup [x])) a (exm a C t none)) dx (exd dx [(f, x)])) a (exm a C t (some dx)) = upd (upd (upd H t (.tup [x])) dx (exd dx [(f, x)])) a (exm a C t (some dx)) := by
        funext b
        by_cases hb : b = a
        · rw [hb, upd_same, upd_same]
        · rw [upd_ne hb, upd_ne hb]
          by_cases hb2 : b = dx
          · rw [hb2, upd_same, upd_same]
          · rw [upd_ne hb2, upd_ne hb2, upd_ne hb]
      rw [eH]
      have nn : ∀ {b : Addr}, H b = none → F b = none := fun h => s.free h
      refine k _ _ _ ⟨a1.fr.trans (a2.fr.trans a3.fr), a1.hh.trans (a2.hh.trans a3.hh), a3.sub, fun b o e => ?_⟩ (.d (.exc k0 upd_same (upd_ne hda ▸ (show upd (upd F t (.tup [x])) dx (exd dx [(f, x)]) dx = _ from upd_same) : upd (upd (upd F t (.tup [x])) dx (exd dx [(f, x)])) a (exm a C t (some dx)) dx = some (exd dx [(f, x)])) (SqT.of (by rw [upd_ne hta, upd_ne (Ne.symm hdt)]; exact upd_same)) (.cons ((r1.mono a1.fr).mono (a2.fr.trans a3.fr)) .nil)))
      by_cases hb : b = a
      · rw [hb]; exact .inr ha
      · rw [upd_ne hb] at e
        by_cases hb2 : b = dx
        · rw [hb2]; exact .inr hd
        · rw [upd_ne hb2] at e
          by_cases hb3 : b = t
          · rw [hb3]; exact .inr ht
          · rw [upd_ne hb3] at e; exact .inl e
end FD
end
section
set_option Elab.async false
set_option linter.all false
set_option maxRecDepth 100000
set_option maxHeartbeats 2000000
/-! FD20: try with several clauses that bind a name; raise of own exceptions. -/
namespace FD
open PySem L2
open PySem.Spec PyProof.Rows

/-- clauses 'except x as n', the rest never reached -/
inductive HdA (X : Cx) : List ExceptHandler → List (Value × Nat × (Addr → Value → Option Addr → TS)) → Prop
  | done (hds : List ExceptHandler) : HdA X hds []
  | cons {x n : Str} {c : Value} {i : Nat} {ts : Addr → Value → Option Addr → TS} {b0 : Stmt} {suite : List Stmt} {np pos : Pos} {hds : List ExceptHandler} {l : List (Value × Nat × (Addr → Value → Option Addr → TS))} (hc : Names X x c) (hi : X.N[i]? = some n)
      (hln : X.env.kindOf n = some .local) (hsu : ∀ (a : Addr) (oe : Obj) (cls : Value) (d : Option Addr) (pn : List (Addr × Obj)), Zc cls d oe → (∃ vs, oe.data = .fields vs) → PSs (X.suite a ((a, oe) :: pn)) (b0 :: suite) (ts a cls d)) (r : HdA X hds l) :
      HdA X (.ExceptHandler (some (.Name x np)) (some n) (b0 :: suite) pos :: hds) ((c, i, ts) :: l)
def slotOff (i : Nat) (D : Ends) : Ends := { nx := fun σ H => D.nx (σ.set i none) H, rt := D.rt, bk := fun σ H => D.bk (σ.set i none) H, ct := fun σ H => D.ct (σ.set i none) H }
def wN (K : PySem.W.Frag) (D : Ends) : List (Value × Nat × (Addr → Value → Option Addr → TS)) → WX
  | [] => fun _ _ _ _ => False
  | (c, i, ts) :: l => fun cls d σ H => ∃ b, PySem.W.exmOne K cls c = some b ∧ (b = true → ∀ a, H a = none → ts a cls d (slotOff i D) (σ.set i (some (.ref a))) H) ∧ (b = false → wN K D l cls d σ H)
section
variable {X : Cx} {pins : List (Addr × Obj)}
/-- an exception on the ground meets the clauses -/
theorem meet_clauses (hs : X.stack = X.env :: X.outer) (hf : X.env.frame = some X.env.locals) (hN : X.N.Nodup) (ok : X.Ok) {D : Ends} {a : Addr} {B : Heap} {sI s' : Shared} {σ : L2.St} {H : Hp} {cls : Value} {d : Option Addr} {h3 : Heap} (J : Inv X pins σ H sI)
    (nb : ∀ b o, sI.heap.get? b = some o → b ∉ frs X.stack → B.get? b = some o) (up : sI.heap.UpToSlots h3) (fl : HandSPX.FlyingZ B (X.env :: X.outer) a (Zc cls d) h3) (na : H a = none) (os : s'.os = sI.os) (ag : AllBare s'.gens) :
    ∀ {hds : List ExceptHandler} {l : List (Value × Nat × (Addr → Value → Option Addr → TS))}, HdA X hds l → wN X.K D l cls d σ H → wpAny (model X.prog X.w) X.A (handleBy (.ref a) X.env hds) (SP X pins D) X.xe { s' with heap := h3 } := by
  intro hds l hh
  have J3 : Inv X pins σ H { s' with heap := h3 } := J.landed nb fl.1 up os ag
  obtain ⟨oe3, vs3, he3, hz3, hd3⟩ := fl.there
  have notFr : ∀ {h : Heap} {o : Obj} {vs : Array Value}, h.FunFrames B (X.env :: X.outer) → h.get? a = some o → o.data = .fields vs → a ∉ frs (X.env :: X.outer) := fun {h o vs} ff e dd hm => by
    obtain ⟨_, o', e', hnf⟩ := ff.mem hm
    rw [e] at e'; cases e'
    exact hnf _ dd
  have nfr := notFr fl.2.2.1 he3 hd3
  have nL : a ≠ X.env.locals := fun z => nfr (List.mem_filterMap.mpr ⟨X.env, List.mem_cons_self, by rw [hf, z]⟩)
  have nF : a ∉ X.fs := fun hm => by
    obtain ⟨e, he, q⟩ := List.mem_filterMap.mp hm
    exact nfr (List.mem_filterMap.mpr ⟨e, List.mem_cons_of_mem _ he, q⟩)
  have S3 := J3.suite he3 hd3 na nL nF
  induction hh with
  | done hds => exact fun w => w.elim
  | @cons x n c i ts b0 suite np pos hds l hc hi hln hsu r ih =>
    rintro ⟨b, hb1, hyes, hno⟩
    refine wpAny_handleBy_cons (codeAny_handlers_test ?_) (by intro q; cases q)
    have LT : PySem.W.Looks (model X.prog X.w) h3 (typeOf (.ref a)) cls := fun A Q E s k q => wpAny_typeOf_ref (k _ _ he3) (by rw [hz3.1]; exact q)
    have LM := PySem.W.exm_one (M := model X.prog X.w) (J3.kIn) LT hb1
    have test : ∀ {Q : Value → Shared → Prop} {E : Value → Shared → Prop}, Q c { s' with heap := h3 } → wpAny (model X.prog X.w) (X.A.mark (some (.ref a))) (eval (.Name x np) X.env) Q E { s' with heap := h3 } := fun {Q E} q => by
      obtain ⟨hg, hdbg, hm | ⟨hm, hv, hnn⟩⟩ := hc
      · exact ld_glob (X := X.suite a ((a, oe3) :: (X.pn ++ pins))) S3 hg hm q hdbg
      · exact ld_blt (X := X.suite a ((a, oe3) :: (X.pn ++ pins))) S3 hg hm hv q hnn hdbg
    refine test (LM.here ?_)
    cases b with
    | false => exact ih (hno rfl)
    | true =>
      refine codeAny_handlers_suite_as (HandSPX.lands_againZ fl fun h4 fl4 up4 => ?_)
      have J4 : Inv X pins σ H { s' with heap := h4 } := J.landed nb fl4.1 (up.trans up4) os ag
      obtain ⟨oe4, vs4, he4, hz4, hd4⟩ := fl4.there
      have S4 := J4.suite he4 hd4 na nL nF
      refine store_ok (X := X.suite a ((a, oe4) :: (X.pn ++ pins))) (v := .ref a) S4 hN hi (.inl hln) rfl (fun s5 S5 => ?_) (.inr hln)
      refine wpAny_mono ((hsu a oe4 cls d (X.pn ++ pins) hz4 ⟨_, hd4⟩).run [] s5 _ H _ S5 (hyes rfl a na)) (fun f s6 hsp => ?_) (fun _ _ z => False.elim z)
      have off : ∀ {σ6 : L2.St} {H6 : Hp} {Q : Shared → Prop}, Inv (X.suite a ((a, oe4) :: (X.pn ++ pins))) [] σ6 H6 s6 → (∀ s7, Inv X pins (σ6.set i none) H6 s7 → Q s7) →
          wpAny (model X.prog X.w) X.A (do bindName X.env n .none; unbindBehindTheSuite X.env n pos) (fun _ s7 => Q s7) X.xe s6 := fun {σ6 H6 Q} S6 hq => gone_ok (S6.unsuite ok) hN hi hln hq
      cases f with
      | next => obtain ⟨σ6, H6, S6, q6⟩ := hsp; exact off S6 fun s7 J7 => ⟨_, _, J7, q6⟩
      | brk => obtain ⟨σ6, H6, S6, q6⟩ := hsp; exact off S6 fun s7 J7 => ⟨_, _, J7, q6⟩
      | cont => obtain ⟨σ6, H6, S6, q6⟩ := hsp; exact off S6 fun s7 J7 => ⟨_, _, J7, q6⟩
      | ret u => obtain ⟨v6, σ6, H6, S6, r6, q6⟩ := hsp; exact off S6 fun s7 J7 => ⟨_, _, _, J7, r6, q6⟩
theorem ps_tryA {body : List Stmt} {h0 : ExceptHandler} {hds : List ExceptHandler} {l : List (Value × Nat × (Addr → Value → Option Addr → TS))} {pos : Pos} {tb : WX → TS} (hs : X.stack = X.env :: X.outer) (hf : X.env.frame = some X.env.locals) (hN : X.N.Nodup)
    (hb : ∀ (W : WX) (pn : List (Addr × Obj)) (xe : Value → Shared → Prop), Takes (X.tr pn xe) W → PassesOwn (model X.prog X.w) X.A X.env xe → PSs (X.tr pn xe) body (tb W)) (hh : HdA X (h0 :: hds) l) :
    PS X (.Try body (h0 :: hds) [] [] pos) (fun D σ H => tb (wN X.K D l) D σ H) := by
  refine ⟨fun pins s σ H D I h => ?_⟩
  have ok := I.ok
  have hfr : X.A.frames = some (X.env :: X.outer) := by rw [ok.frames, hs]
  refine wpAny_Try_except ?_
  refine wpAny_mono ((hb (wN X.K D l) (X.pn ++ pins) (fun e s₁ => wpAny (model X.prog X.w) X.A (noteFrame e X.env) (fun _ s₂ => wpAny (model X.prog X.w) X.A (setFlight e none) (fun _ s₃ =>
    wpAny (model X.prog X.w) X.A (handleBy e X.env (h0 :: hds)) (SP X pins D) X.xe s₃) X.xe s₂) X.xe s₁) (fun u s' xx => ?_) PassesOwn.looking).run [] s σ H D (I.toTry _) h) (fun f s1 hsp => ?_) (fun e s1 he => he)
  · obtain ⟨a, B, sI, pins', σ', H', cls, d, rfl, J', nb, up, sky, na, os, ag, w⟩ := xx
    have J : Inv X pins σ' H' sI := J'.ofTry ok
    have sky' : Sky B (X.env :: X.outer) a (Zc cls d) X.env.locals s'.heap := by rw [← hs]; exact sky
    show wpAny (model X.prog X.w) X.A (noteFrame (.ref a) X.env) _ _ _
    exact Sky.land Zc.steady hfr hf sky' fun h3 fl3 up3 => meet_clauses hs hf hN ok J nb (up.trans up3) fl3 na os ag hh w
  · cases f with
    | next => obtain ⟨σ', H', J', q⟩ := hsp; exact wpAny_execs_nil ⟨σ', H', J'.ofTry ok, q⟩
    | brk => obtain ⟨σ', H', J', q⟩ := hsp; exact ⟨σ', H', J'.ofTry ok, q⟩
    | cont => obtain ⟨σ', H', J', q⟩ := hsp; exact ⟨σ', H', J'.ofTry ok, q⟩
    | ret u => obtain ⟨v, σ', H', J', r, q⟩ := hsp; exact ⟨v, σ', H', J'.ofTry ok, r, q⟩
end
end FD
end
section
set_option Elab.async false
set_option linter.all false
set_option maxRecDepth 100000
set_option maxHeartbeats 2000000
/-! FD21: try and raise, as functions of data. -/
namespace FD
open PySem L2
open PySem.Spec PyProof.Rows

open Classical in
/-- what comes out whatever the addresses are -/
noncomputable def anyAD (f : Addr → Addr → Rs Out) : Rs Out := if ∀ a d, f a d = f 0 0 then f 0 0 else .no
theorem anyAD_eq {f : Addr → Addr → Rs Out} {r : Rs Out} (h : ∀ a d, f a d = r) : anyAD f = r := by
  unfold anyAD
  rw [if_pos fun a d => by rw [h, h], h]
def finO (i : Nat) : Rs Out → Rs Out
  | .ok (.nx δ) => .ok (.nx (δ.set i .no))
  | .ok (.rt z δ) => .ok (.rt z (δ.set i .no))
  | .ok (.bk δ) => .ok (.bk (δ.set i .no))
  | .ok (.ct δ) => .ok (.ct (δ.set i .no))
  | .exc _ _ => .no
  | .no => .no
def hushS : Sl → Sl
  | .own _ => .no
  | s => s
def hush (δ : Dv) : Dv := δ.map hushS
/-- a clause: the classes that it takes, those that it passes on, its name's slot, its suite -/
structure Cl where
  yes : List Str
  nos : List Str
  i : Nat
  g : Addr → Addr → SF
noncomputable def cGo : List Cl → Str → List (Str × D) → SF
  | [], _, _, _ => .no
  | c :: cs, x, fs, δ => if x ∈ c.yes then anyAD fun a d => finO c.i (c.g a d ((hush δ).set c.i (.d (.cau a d fs)))) else if x ∈ c.nos then cGo cs x fs δ else .no
noncomputable def sTry (gb : SF) (cs : List Cl) : SF := fun δ => match gb δ with
  | .exc x fs => cGo cs x fs δ
  | r => r
inductive ClsOk (X : Cx) (m : Pm) (np : Nat) : List ExceptHandler → List Cl → Prop
  | done (hds : List ExceptHandler) : ClsOk X m np hds []
  | cons {x n : Str} {v : Value} {c : Cl} {b0 : Stmt} {suite : List Stmt} {p pos : Pos} {hds : List ExceptHandler} {cs : List Cl} (hc : Names X x v) (hi : X.N[c.i]? = some n) (hln : X.env.kindOf n = some .local)
      (hy : ∀ x ∈ c.yes, PySem.W.exmOne X.K (.ref (m.cls x)) v = some true) (hn : ∀ x ∈ c.nos, PySem.W.exmOne X.K (.ref (m.cls x)) v = some false)
      (hsu : ∀ (a : Addr) (oe : Obj) (x : Str) (d : Addr) (pn : List (Addr × Obj)), x ∈ c.yes → Zc (.ref (m.cls x)) (some d) oe → (∃ vs, oe.data = .fields vs) → PSq (X.suite a ((a, oe) :: pn)) ⟨m.K, fun _ => E0, m.cls⟩ np (b0 :: suite) (c.g a d))
      (r : ClsOk X m np hds cs) : ClsOk X m np (.ExceptHandler (some (.Name x p)) (some n) (b0 :: suite) pos :: hds) (c :: cs)
section
variable {K : PySem.W.Frag} {F H : Hp} {σ : L2.St} {δ : Dv} {np i : Nat}
theorem hush_get {j : Nat} {s : Sl} (h : (hush δ)[j]? = some s) : (∀ o, s ≠ .own o) ∧ ∀ x, s = .d x → δ[j]? = some (.d x) := by
  unfold hush at h
  rw [List.getElem?_map] at h
  cases hj : δ[j]? with
  | none => rw [hj] at h; cases h
  | some t =>
    rw [hj] at h
    cases h
    cases t with
    | own o => exact ⟨fun o z => (by cases z), fun x z => (by cases z)⟩
    | d y => exact ⟨fun o z => (by cases z), fun x z => (by cases z; rfl)⟩
    | no => exact ⟨fun o z => (by cases z), fun x z => (by cases z)⟩
/-- the state that a clause's suite begins with -/
theorem clause_in {F' H' : Hp} {a d : Addr} {fs : List (Str × D)} {vs : List (Str × V)} (s : Stt K F σ δ H) (hn : H d = none) (h1 : Same F' H') (h2 : Ext F H (OwnAt σ δ) F' H') (e1 : H' d = some (.xd vs)) (e2 : vs.map (·.1) = fs.map (·.1)) (e3 : RepL K F' (vs.map (·.2)) (fs.map (·.2))) :
    ∃ F2, Stt K F2 (σ.set i (some (.ref a))) ((hush δ).set i (.d (.cau a d fs))) H' ∧ Ext F H (OwnAt σ δ) F2 H' ∧ ∀ p, ¬ OwnAt (σ.set i (some (.ref a))) ((hush δ).set i (.d (.cau a d fs))) p := by
  have sm : Same F' (upd F' d (.xd vs)) := fun b o e => by
    by_cases hb : b = d
    · subst hb
      have := h1 _ _ e
      rw [e1] at this
      rw [upd_same]; exact this
    · rw [upd_ne hb]; exact e
  have noOwn : ∀ (j : Nat) (o : Ob), ((hush δ).set i (.d (.cau a d fs)))[j]? ≠ some (.own o) := fun j o e => by
    rw [List.getElem?_set] at e
    split at e
    · split at e
      · cases e
      · cases e
    · exact (hush_get e).1 o rfl
  refine ⟨upd F' d (.xd vs), ⟨fun b o e => ?_, ?_, fun j x e => ?_, fun j o e => absurd e (noOwn j o), fun j k o u p e => absurd e (noOwn j o)⟩, ⟨h2.fr.trans sm, fun b o hb fb nm => ?_, h2.dom⟩, fun p ⟨j, o, e, _⟩ => noOwn j o e⟩
  · by_cases hb : b = d
    · subst hb; rw [upd_same] at e; cases e; exact e1
    · rw [upd_ne hb] at e; exact h1 _ _ e
  · rw [List.length_set, List.length_set, hush, List.length_map]; exact s.len
  · rw [List.getElem?_set] at e
    split at e
    · rename_i hij
      subst hij
      split at e
      · rename_i hl
        cases e
        refine ⟨.ref a, ?_, .cau upd_same e2 (e3.mono sm)⟩
        rw [List.getElem?_set_self]
        rw [s.len]
        simpa [hush] using hl
      · cases e
    · rename_i hij
      obtain ⟨v, z1, z2⟩ := s.dd j x ((hush_get e).2 x rfl)
      exact ⟨v, by rw [List.getElem?_set_ne hij]; exact z1, (z2.mono h2.fr).mono sm⟩
  · obtain ⟨k1, k2⟩ := h2.keep b o hb fb nm
    exact ⟨k1, by rw [upd_ne (fun z => by rw [z, hn] at hb; cases hb)]; exact k2⟩
/-- and what its end is, seen from the try -/
theorem clause_out {F2 H' F3 H3 : Hp} {σ2 σ3 : L2.St} {δ2 δ3 : Dv} (s : Stt K F σ δ H) (hl : σ2.length = σ.length) (h2 : Ext F H (OwnAt σ δ) F2 H') (no : ∀ p, ¬ OwnAt σ2 δ2 p) (noE : ∀ (j : Nat) (o : Ob), δ2[j]? ≠ some (.own o)) (s3 : SStep K np F2 H' σ2 δ2 F3 H3 σ3 δ3) : SStep K np F H σ δ F3 H3 (σ3.set i none) (δ3.set i .no) := by
  have get : ∀ (j : Nat) (t : Sl), t ≠ .no → (δ3.set i .no)[j]? = some t → j ≠ i ∧ δ3[j]? = some t ∧ (σ3.set i none)[j]? = σ3[j]? := fun j t nt e => by
    by_cases hj : j = i
    · subst hj
      rw [List.getElem?_set] at e
      simp only [if_true] at e
      split at e
      · cases e; exact absurd rfl nt
      · cases e
    · rw [List.getElem?_set_ne (Ne.symm hj)] at e
      exact ⟨hj, e, List.getElem?_set_ne (Ne.symm hj)⟩
  refine ⟨⟨s3.st.sub, by rw [List.length_set, List.length_set]; exact s3.st.len, fun j x e => ?_, fun j o e => ?_, fun j k o u p e e' z z' => ?_⟩, h2.trans s3.ex fun p z => absurd z (no p), fun p h => ?_, fun j hj o e => ?_, by rw [List.length_set, s3.ln, hl]⟩
  · obtain ⟨_, y1, y2⟩ := get j _ (fun z => by cases z) e
    rw [y2]; exact s3.st.dd j x y1
  · obtain ⟨_, y1, y2⟩ := get j _ (fun z => by cases z) e
    rw [y2]; exact s3.st.ow j o y1
  · obtain ⟨_, y1, y2⟩ := get j _ (fun z => by cases z) e
    obtain ⟨_, w1, w2⟩ := get k _ (fun z => by cases z) e'
    rw [y2] at z; rw [w2] at z'
    exact s3.st.ne j k o u p y1 w1 z z'
  · obtain ⟨j, o, e, z⟩ := h
    obtain ⟨_, y1, y2⟩ := get j _ (fun z => by cases z) e
    rw [y2] at z
    rcases s3.ow p ⟨j, o, y1, z⟩ with w | w
    · exact absurd w (no p)
    · exact .inr (h2.dom p w)
  · obtain ⟨_, y1, y2⟩ := get j _ (fun z => by cases z) e
    obtain ⟨_, u, hu⟩ := s3.pr j hj o y1
    exact absurd hu (noE j u)
end
section
variable {X : Cx} {m : Pm} {np : Nat} {h0 : ExceptHandler} {hds : List ExceptHandler} {cs : List Cl} {body : List Stmt} {gb : SF} {pos : Pos}
theorem ClsOk.meets (hK : X.K = m.K) : ∀ {hds : List ExceptHandler} {cs : List Cl}, ClsOk X m np hds cs → ∃ l, HdA X hds l ∧ ∀ (De : Ends) (F H : Hp) (σ : L2.St) (δ : Dv) (x : Str) (fs : List (Str × D)) (d : Addr) (F' H' : Hp),
    Stt m.K F σ δ H → GS m np F H σ δ (cGo cs x fs δ) De → H d = none → Same F' H' → Ext F H (OwnAt σ δ) F' H' → XRep m.K F' H' d fs → wN X.K De l (.ref (m.cls x)) (some d) σ H'
  | _, _, .done hds => ⟨[], .done hds, fun D F H σ δ x fs d F' H' s k => k.elim⟩
  | _, _, .cons (v := v) (c := c) hc hi hln hy hn hsu r => by
    obtain ⟨l, h1, h2⟩ := ClsOk.meets hK r
    refine ⟨(v, c.i, fun a cls d D σ H => ∃ x dd, x ∈ c.yes ∧ cls = .ref (m.cls x) ∧ d = some dd ∧ TSt ⟨m.K, fun _ => E0, m.cls⟩ np (c.g a dd) D σ H) :: l, .cons hc hi hln (fun a oe cls d pn hz hf => ⟨fun pins s σ H D I z => ?_⟩) h1, fun D F H σ δ x fs d F' H' s k hd e1 e2 e3 => ?_⟩
    · obtain ⟨x, dd, hx, rfl, rfl, t⟩ := z
      exact (hsu a oe x dd pn hx hz hf).run pins s σ H D I t
    · unfold cGo at k
      split at k
      · rename_i hx
        refine ⟨true, hy x hx, fun _ a na => ⟨x, d, hx, rfl, rfl, ?_⟩, fun z => nomatch z⟩
        obtain ⟨vs, g1, g2, g3⟩ := e3
        obtain ⟨F2, st2, ex2, no2⟩ := clause_in (i := c.i) (a := a) s hd e1 e2 g1 g2 g3
        have noE : ∀ (j : Nat) (o : Ob), ((hush δ).set c.i (.d (.cau a d fs)))[j]? ≠ some (.own o) := fun j o e => by
          rw [List.getElem?_set] at e
          split at e
          · split at e
            · cases e
            · cases e
          · exact (hush_get e).1 o rfl
        have k2 : GS m np F H σ δ (finO c.i (c.g a d ((hush δ).set c.i (.d (.cau a d fs))))) D := by
          unfold anyAD at k
          split at k
          · rename_i all
            rw [← all a d] at k; exact k
          · exact k.elim
        refine ⟨F2, _, st2, ?_⟩
        have out := fun {F3 H3 : Hp} {σ3 : L2.St} {δ3 : Dv} => clause_out (np := np) (i := c.i) (F3 := F3) (H3 := H3) (σ3 := σ3) (δ3 := δ3) s (by rw [List.length_set]) ex2 no2 noE
        cases hr : c.g a d ((hush δ).set c.i (.d (.cau a d fs))) with
        | exc y gs => rw [hr] at k2; exact k2.elim
        | no => rw [hr] at k2; exact k2.elim
        | ok o =>
          rw [hr] at k2
          cases o with
          | nx δ' => exact fun F3 H3 σ3 s3 => k2 F3 H3 _ (out s3)
          | rt z δ' => exact fun F3 H3 σ3 w s3 rz => k2 F3 H3 _ w (out s3) (rz.fresh fun p hp => e2.dom p hp)
          | bk δ' => exact fun F3 H3 σ3 s3 => k2 F3 H3 _ (out s3)
          | ct δ' => exact fun F3 H3 σ3 s3 => k2 F3 H3 _ (out s3)
      · split at k
        · rename_i hx
          exact ⟨false, hn x hx, (fun z => nomatch z), fun _ => h2 D F H σ δ x fs d F' H' s k hd e1 e2 e3⟩
        · exact k.elim
theorem st_try (hs : X.stack = X.env :: X.outer) (hf : X.env.frame = some X.env.locals) (hN : X.N.Nodup) (hb : ∀ (W : WX) (pn : List (Addr × Obj)) (xe : Value → Shared → Prop), Takes (X.tr pn xe) W → PassesOwn (model X.prog X.w) X.A X.env xe → PSq (X.tr pn xe) ⟨m.K, WE W, m.cls⟩ np body gb)
    (hcl : ClsOk X m np (h0 :: hds) cs) (hK : X.K = m.K := by rfl) : PSt X m np (.Try body (h0 :: hds) [] [] pos) (sTry gb cs) := by
  obtain ⟨l, h1, h2⟩ := hcl.meets hK
  refine ps_imp (ps_tryA (tb := fun W => TSt ⟨m.K, WE W, m.cls⟩ np gb) hs hf hN hb h1) fun D σ H => ?_
  rintro ⟨F, δ, s, k⟩
  refine ⟨F, δ, s, ?_⟩
  unfold sTry at k
  cases hr : gb δ with
  | no => rw [hr] at k; exact k
  | ok o => rw [hr] at k; cases o <;> exact k
  | exc x fs =>
    rw [hr] at k
    exact fun d F' H' hd e1 e2 e3 => h2 D F H σ δ x fs d F' H' s k hd e1 (e2.wk fun p z => z.2) e3
end
end FD
end
section
set_option Elab.async false
set_option linter.all false
set_option maxRecDepth 100000
set_option maxHeartbeats 2000000
/-! FD22: e.f of a caught exception; raise C(x); C(x) as a value. -/
namespace FD
open PySem L2
open PySem.Spec PyProof.Rows

def fFld (i : Nat) (a d : Addr) (f : Str) : VF := fun δ => match δ[i]? with
  | some (.d (.cau a' d' fs)) => if a' = a ∧ d' = d then match fs.lookup f with
    | some x => .ok (x, δ)
    | none => .no
    else .no
  | _ => .no
theorem fld_look {K : PySem.W.Frag} {F : Hp} {f : Str} {x : D} : ∀ {vs : List (Str × V)} {fs : List (Str × D)}, vs.map (·.1) = fs.map (·.1) → RepL K F (vs.map (·.2)) (fs.map (·.2)) → fs.lookup f = some x → ∃ v, vs.lookup f = some v ∧ RepD K F v x
  | [], [], _, _, h => by cases h
  | [], _ :: _, h, _, _ => by cases h
  | _ :: _, [], h, _, _ => by cases h
  | (a, v) :: vs, (b, y) :: fs, h, r, e => by
    simp only [List.map_cons, List.cons.injEq] at h
    obtain ⟨h1, h2⟩ := h
    subst h1
    simp only [List.map_cons] at r
    cases r with
    | cons r1 r2 =>
      rw [List.lookup_cons] at e ⊢
      cases hb : f == a with
      | true => rw [hb] at e; cases e; exact ⟨v, rfl, r1⟩
      | false => rw [hb] at e; exact fld_look h2 r2 e
theorem pv_fld {X : Cx} {m : Pm} {a C d : Addr} {oe : Obj} {pn : List (Addr × Obj)} {e : Expr} {pos : Pos} {i : Nat} {f : Str} (T : XfC X.K C) (hno : PySem.W.findIn X.K (.ref C) f = some none) (hz : Zc (.ref C) (some d) oe) (hf : ∃ vs, oe.data = .fields vs) (he : PE (X.suite a ((a, oe) :: pn)) e (tVar i))
    (hb : attributeBase e f X.env (eval e X.env) = eval e X.env := by rfl) : PV (X.suite a ((a, oe) :: pn)) m (.Attribute e f pos) true (fFld i a d f) := pe_imp (pe_xf T hno hz hf he hb) fun σ H Q => by
  rintro ⟨F, δ, s, g⟩
  unfold fFld at g
  split at g
  · rename_i a' d' fs hi
    split at g
    · rename_i hc
      obtain ⟨rfl, rfl⟩ := hc
      split at g
      · rename_i x hl
        obtain ⟨v, e1, r⟩ := s.dd i _ hi
        cases r with
        | cau h1 h2 h3 =>
          obtain ⟨w, l1, l2⟩ := fld_look h2 h3 hl
          exact ⟨_, e1, rfl, rfl, d', _, w, rfl, s.sub _ _ h1, l1, g F H (.refl s) w l2⟩
      · exact g.elim
    · exact g.elim
  · exact g.elim

/-! ### raise C(x) -/
/-- what C's __init__ does while an exception is made to be raised -/
def spRz (C : Addr) (f : Str) : Sp := fun vs H Q _ => ∃ (a : Addr) (y : V), vs = [.ref a, y] ∧ H a = some (exo a C none) ∧ ∀ dx, H dx = none → dx ≠ a → Q .non (upd (upd H dx (exd dx [(f, y)])) a (exo a C (some dx)))
/-- an own exception class, its __init__ storing its one argument as f -/
structure ExcOk (P : Program) (w : World) (K : PySem.W.Frag) (mg : Str → Option Value) (base : Heap) (k : Nat) (x f : Str) (C : Addr) : Prop where
  T : OexC K C
  made : ∃ fI fd ps, PySem.W.findIn K (.ref C) "__init__" = some (some (.ref fI)) ∧ PySem.W.typeIn K (.ref fI) = some (.type "function") ∧ FnOk P w K mg base (L2.CX P w) k fI fd ps (spRz C f) ∧ FnOk P w K mg base (L2.CX P w) k fI fd ps (spFld C f) ∧ Binds K fd ps []
  hm : mg x = some (.ref C)
def sRz (c f : Str) (fa : VF) : SF := fun δ => (fa δ).bind fun a => .exc c [(f, a.1)]
theorem st_raise {X : Cx} {m : Pm} {W : WX} {np k j : Nat} {q : Bool} {c x f : Str} {C : Addr} {e : Expr} {fa : VF} {p pos pos2 : Pos} (O : ExcOk X.prog X.w X.K X.mg X.base k x f C) (hr : Room j X.A) (hk : k + 1 ≤ j) (hc : X.calm = true) (tk : Takes X W) (hW : ∀ σ cls d H, m.E σ cls d H → W cls d σ H) (hg : Gl X x) (hcl : m.cls c = C) (ha : PV X m e q fa)
    (hdb : (x == ("__debug__" : Str)) = false := by decide) (he : starEach [e] X.env = (false, eval e X.env) :: starEach [] X.env := by rfl) (hpl : (backTo pos (starEach [] X.env)).any (·.1) = false := by rfl) :
    PSt X m np (.Raise (some (.Call (.Name x p) [e] [] pos)) none pos2) (sRz c f fa) := by
  obtain ⟨fI, fd, ps, iC, tI, F1, _, hb⟩ := O.made
  refine ps_imp (ps_raise hc tk (pmk_oex O.T iC tI F1 (hr.mono hk) hb .nil passL hg O.hm (pa_cons ha pa_nil he) hdb he hpl)) fun D σ H => ?_
  rintro ⟨F, δ, s, h⟩
  refine ⟨F, δ, s, ?_⟩
  unfold sRz at h
  cases hr2 : fa δ with
  | exc c fs => rw [hr2] at h; exact h
  | no => rw [hr2] at h; exact h
  | ok o =>
    obtain ⟨d, δ1⟩ := o
    rw [hr2] at h
    intro F1 H1 s1 v rv
    refine ⟨by show (1 : Nat) ≤ 1000; decide, fun a na => ⟨a, v, rfl, upd_same, fun dx hd ne => ⟨rfl, dx, [(f, v)], upd_same, ?_, ?_, ?_⟩⟩⟩
    · rw [upd_ne ne, upd_same]
    · rw [upd_ne ne] at hd; exact hd
    · rw [upd_ne ne] at hd
      have eH : upd (L2.del (upd (upd (upd H1 a (exo a C none)) dx (exd dx [(f, v)])) a (exo a C (some dx))) a) dx (.xd [(f, v)]) = upd H1 dx (.xd [(f, v)]) := by
        funext b
        by_cases hb : b = dx
        · rw [hb, upd_same, upd_same]
        · rw [upd_ne hb, upd_ne hb]
          by_cases hba : b = a
          · rw [hba, del_same, na]
          · rw [del_ne hba, upd_ne hba, upd_ne hb, upd_ne hba]
      rw [eH, ← hcl]
      have al := Alo.own (o := .xd [(f, v)]) s1.st.sub hd
      have s2 := s1.trans (al.step (q := true) s1.st)
      refine hW σ _ _ _ ((show GX m F H σ δ c [(f, d)] from h) dx F1 _ (s1.ex.dom dx hd) al.sub s2.wk.ex ⟨[(f, v)], upd_same, rfl, .cons rv .nil⟩)
end FD
end
section
set_option Elab.async false
set_option linter.all false
set_option maxRecDepth 100000
/-! FDL: the law's own call: its promise is kept where nothing is being shown. -/
namespace FD
open PySem L2

/-- the modules' dict stands where it stands -/
def SysD (h : Heap) : Prop := ∃ (o : Obj) (es : Array DictEntry) (ep : Nat), h.get? sysModules = some o ∧ o.cls = .type "dict" ∧ o.data = .dict es ep
def sysB (g : Addr → Option Obj) : Bool := match g sysModules with
  | some o => decide (o.cls = .type "dict") && (match o.data with | .dict _ _ => true | _ => false)
  | none => false
theorem sysB_ok {h : Heap} (e : sysB h.get? = true) : SysD h := by
  unfold sysB at e
  cases ho : h.get? sysModules with
  | none => rw [ho] at e; cases e
  | some o =>
    rw [ho] at e
    obtain ⟨e1, e2⟩ := Bool.and_eq_true_iff.mp e
    obtain ⟨oc, od, dt, sl⟩ := o
    cases dt with
    | dict es ep => exact ⟨_, es, ep, ho, of_decide_eq_true e1, rfl⟩
    | _ => cases e2
/-- the head's hook: facts by names, further facts p, the modules' dict -/
def hookF (n : Nat) (fa : List He.Fa) (fn : List He.DefD) (p : PySem.W.Frag → Bool) : PySem.W.Hook where
  α := Bool × He.AlD
  obs := fun s => (p (He.frG s.heap.get? (He.asD s.heap.get? n)) && sysB s.heap.get?, He.obsDG n fa fn s.heap.get?)
  val := fun _ => (true, He.valD fn)
  says := fun _ h => ∃ K : PySem.W.Frag, K.In h ∧ He.SaysD fa fn K ∧ p K = true ∧ SysD h
  of := fun _ _ e => by
    have e1 : (p _ && sysB _) = true := congrArg Prod.fst e
    obtain ⟨e3, e4⟩ := Bool.and_eq_true_iff.mp e1
    exact ⟨_, He.frG_in, congrArg Prod.snd e, e3, sysB_ok e4⟩
  keeps := fun _ _ _ ⟨K, hK, c, e, o, es, ep, h1, h2, h3⟩ k => ⟨K, PySem.W.Frag.In.keeps hK k, c, e, o, es, ep, k _ _ h1, h2, h3⟩
def obsF (n : Nat) (fa : List He.Fa) (fn : List He.DefD) (p : PySem.W.Frag → Bool) (g : Addr → Option Obj) : Bool × He.AlD := (p (He.frG g (He.asD g n)) && sysB g, He.obsDG n fa fn g)
theorem obsF_eq {n : Nat} {fa : List He.Fa} {fn : List He.DefD} {p : PySem.W.Frag → Bool} {g : Addr → Option Obj} {s : Shared} (h : ∀ a, g a = s.heap.get? a) : obsF n fa fn p g = (hookF n fa fn p).obs s := by
  have e : g = s.heap.get? := funext h
  rw [e] <;> rfl

theorem law_callG {P : Program} {w : World} {K : PySem.W.Frag} {mg mb : Str → Option Value} {k : Nat} {fa a : Addr} {fd : FuncData} {x : Str} {sp : Sp} {s : Shared} {vs : List Value} {ns : List Int} (KX : K.In s.heap) (hns : s.heap.Ns mainGlobals mg) (hb : s.heap.Ns builtinsNs mb)
    (hbb : ∀ x : Str, x ≠ "__name__" → mb x = bootBuiltins x) (hlim : s.heap.NoLimit) (hsy : SysD s.heap) (hg : s.gens = #[]) (ha : s.heap.get? a = some { cls := .type "list", data := .seq vs.toArray }) (hi : PyProof.Rows.IntsAre vs ns) (hl : ns.length ≤ sizeLine) (hr : Room k callerA) (hgu : callerA.guards = some [])
    (F : ∀ base : Heap, K.In base → base.Ns mainGlobals mg → SysOk base → FnG P w K mg base k fa fd [x] sp) (hbind : ∀ (s : Shared) (u : Value), BindsTo s fd ⟨[u], []⟩ [(x, u)])
    (hsp : ∀ H : Hp, Only H → SqL K H a (ns.map V.int) → sp [.ref a] H (fun v _ => v = .bl true) fun _ _ _ => False) :
    codeAny (model P w) callerA (.call (.ref fa) ⟨[.ref a], []⟩) (fun r s' => r = .ok (.ret (.bool true)) ∧ OldK s.heap s'.heap ∧ s'.os = s.os ∧ PyProof.Rows.AllBare s'.gens) s := by
  have rv := vals_ints hi
  have lenV := hi.length
  -- the heap that is tracked: the script alone, or nothing
  have main : ∀ H : Hp, Only H → SqL K H a (ns.map V.int) → HOk P w H s.heap → (∀ b u, H b = some u → b = a) → (∀ u, H a = some u → K.lookup a = none) →
      codeAny (model P w) callerA (.call (.ref fa) ⟨[.ref a], []⟩) (fun r s' => r = .ok (.ret (.bool true)) ∧ OldK s.heap s'.heap ∧ s'.os = s.os ∧ PyProof.Rows.AllBare s'.gens) s := by
    intro H hO hS hok hA hKa
    have keep : ∀ {b : Addr} {o : Obj}, s.heap.get? b = some o → H b = none → (hidT s.heap H).get? b = some o := fun e n => hidT_get e n
    have dictFree : ∀ {b : Addr} {o : Obj} {es : Array DictEntry} {ep : Nat}, s.heap.get? b = some o → o.data = .dict es ep → H b = none := by
      intro b o es ep e d
      cases z : H b with
      | none => rfl
      | some u =>
        rw [hA b u z, ha] at e
        cases e
        cases (show Data.seq vs.toArray _ = Data.dict es ep from d)
    have nsK : ∀ {b : Addr} {m : Str → Option Value}, s.heap.Ns b m → (hidT s.heap H).Ns b m := by
      rintro b m ⟨o, es, ep, e, d, r⟩
      exact ⟨o, es, ep, keep e (dictFree e d), d, r⟩
    have KB : K.In (hidT s.heap H) := by
      intro b o e
      refine keep (KX b o e) ?_
      cases z : H b with
      | none => rfl
      | some u =>
        have hb := hA b u z
        subst hb
        rw [hKa u z] at e
        cases e
    have M : Mod K mg (hidT s.heap H) := ⟨KB, nsK hns, ⟨mb, nsK hb, hbb⟩, by obtain ⟨mc, h1, h2⟩ := hlim; exact ⟨mc, nsK h1, h2⟩⟩
    have e0 : Env0 P w K mg (hidT s.heap H) callerA [] s H := ⟨rfl, M, fun b o e => of_hidT e, Nat.le_of_eq (hidT_size _ _), trivial, (fun b z => nomatch (show b ∈ ([] : List Addr) from z)), hok, .of_eq hg⟩
    have SY : SysOk (hidT s.heap H) := by
      obtain ⟨o, es, ep, h1, h2, h3⟩ := hsy
      exact ⟨o, keep h1 (dictFree h1 h3), h2⟩
    refine codeAny_mono ((F _ KB (nsK hns) SY).run callerA [] s H ⟨[.ref a], []⟩ [.ref a] [.ref a] _ _ hr hgu e0 (hbind s (.ref a)) (.cons rfl .nil) (hsp H hO hS)) ?_
    intro r s' h
    match r, h with
    | .error e, h =>
      obtain ⟨_, _, _, _, _, _, _, _, _, _, _, _, z⟩ := h
      exact z.elim
    | .ok .next, h => exact False.elim h
    | .ok .brk, h => exact False.elim h
    | .ok .cont, h => exact False.elim h
    | .ok (.ret u), h =>
      obtain ⟨v, H', os, bare, un, hok', r', q⟩ := h
      cases (show v = .bl true from q)
      cases (show u = Value.bool true from r')
      refine ⟨rfl, OldK.of_keep fun b o e => ?_, os, bare⟩
      rcases hO b with z | ⟨ob, xs, z⟩
      · exact un.keep b o e z (fun z => nomatch (show b ∈ ([] : List Addr) from z)) (by simp)
      · obtain ⟨e1, _⟩ := hok b _ z
        obtain ⟨e2, _⟩ := hok' b _ (un.frzs b ob _ z)
        rw [e] at e1
        cases e1
        exact e2
  cases hk : K.lookup a with
  | some o =>
    have e := KX a o hk
    rw [ha] at e
    cases e
    exact main (fun _ => none) (fun _ => .inl rfl) (.inr ⟨_, vs.toArray, _, hk, rfl, rfl, rfl, by rw [List.size_toArray, lenV]; exact hl, by simpa using rv⟩) (fun _ _ z => by cases z) (fun _ _ z => by cases z) fun _ z => by cases z
  | none =>
    have hH : ∀ b u, (if b = a then some (HO.frz { cls := .type "list", data := .seq vs.toArray } (.lst (ns.map V.int))) else none) = some u → b = a ∧ u = .frz { cls := .type "list", data := .seq vs.toArray } (.lst (ns.map V.int)) := fun b u z => by
      by_cases hb : b = a
      · rw [if_pos hb] at z; cases z; exact ⟨hb, rfl⟩
      · rw [if_neg hb] at z; cases z
    refine main (fun b => if b = a then some (.frz { cls := .type "list", data := .seq vs.toArray } (.lst (ns.map V.int))) else none) (fun b => ?_) (.inl (.inr ⟨_, if_pos rfl⟩)) (fun b u z => ?_) (fun b u z => (hH b u z).1) fun _ _ => hk
    · by_cases hb : b = a
      · exact .inr ⟨_, _, if_pos hb⟩
      · exact .inl (if_neg hb)
    · obtain ⟨rfl, rfl⟩ := hH b u z
      exact ⟨ha, by rw [List.length_map]; exact hl, vs, _, rv, ha⟩

/-- the goal that the head leaves -/
theorem walkG {l : PySem.W.OpenLaw} {n k : Nat} {q : Program} {loose : List Str} {XP : (Str → Option Value) → Heap → Prop} {YP : World → Heap → Prop} {d : DefRec} {x : Str} (hn : l.most = some n) (hn2 : n ≤ sizeLine) (hdf : d.params.defaults = []) (hr : Room k callerA) (hgu : callerA.guards = some [])
    (F : ∀ (w : World) (mg : Str → Option Value) (fa : Addr) (h : Heap), YP w h → h.Ns mainGlobals mg → mg d.name = some (.ref fa) → ∃ (K : PySem.W.Frag) (fd : FuncData) (sp : Sp), K.In h ∧ (∀ (s : Shared) (u : Value), BindsTo s fd ⟨[u], []⟩ [(x, u)]) ∧
      (∀ (H : Hp) (a : Addr) (ns : List Int), ns.length ≤ n → Only H → SqL K H a (ns.map V.int) → sp [.ref a] H (fun v _ => v = .bl true) fun _ _ _ => False) ∧ SysD h ∧ ∀ base : Heap, K.In base → base.Ns mainGlobals mg → SysOk base → FnG l.prog w K mg base k fa fd [x] sp) :
    PySem.W.WalkO q loose XP YP l.row.toRowW d [] (fun f vs => PySem.call f vs) := by
  refine Att.attach_call hn hdf fun w s₀ s₁ mg mb fa o pm cd doc a vs ns Gr Y ho hd hcd hmg hobj hints hlen hg => ?_
  obtain ⟨K, fd, sp, KX, hb, hsp, hsy, hF⟩ := F w mg fa _ Y Gr.T.g hmg
  exact law_callG KX Gr.T.g Gr.T.b Gr.T.builtins Gr.T.nolimit hsy hg hobj hints (Nat.le_trans hlen hn2) hr hgu hF hb fun H hO hS => hsp H a ns hlen hO hS
end FD
end
section
set_option Elab.async false
set_option linter.all false
set_option maxRecDepth 100000
/-! FD23: small words for printed proofs. -/
namespace FD
open PySem L2

theorem bt_all : bootBuiltins "all" = some (.builtin "all") := by decide +kernel
theorem bt_any : bootBuiltins "any" = some (.builtin "any") := by decide +kernel
theorem bt_sum : bootBuiltins "sum" = some (.builtin "sum") := by decide +kernel
theorem bt_abs : bootBuiltins "abs" = some (.builtin "abs") := by decide +kernel
theorem bt_max : bootBuiltins "max" = some (.builtin "max") := by decide +kernel
theorem bt_min : bootBuiltins "min" = some (.builtin "min") := by decide +kernel
theorem bt_ord : bootBuiltins "ord" = some (.builtin "ord") := by decide +kernel
theorem bt_repr : bootBuiltins "repr" = some (.builtin "repr") := by decide +kernel
theorem bt_isi : bootBuiltins "isinstance" = some (.builtin "isinstance") := by decide +kernel
section
variable {X : Cx} {m : Pm} {q : Bool} {a : Expr} {pos : Pos} {x : Str} {p : Pos}
theorem px_neg {fa : VF} (h : PV X m a q fa) : PX X m (.UnaryOp .USub a pos) q (f1 vNeg fa) := pe_imp (pe_un un_neg h) (one sm_neg)
/-- a type's name -/
theorem pe_tyn {n : String} (hm : X.mg x = none) (hv : bootBuiltins x = some (.type n)) (hg : Gl X x := by rfl) (hn : x ≠ "__name__" := by decide) (hd : (x == ("__debug__" : Str)) = false := by decide) : PE X (.Name x p) (tC (.ty n)) := pe_bltn hg hm hv rfl hn hd
theorem pk_tyn {n : String} (hm : X.mg x = none) (hv : bootBuiltins x = some (.type n)) (hg : Gl X x := by rfl) (hn : x ≠ "__name__" := by decide) (hd : (x == ("__debug__" : Str)) = false := by decide) : PLk X m (.Name x p) true (fC (.ty n)) := pw_of (pv_c (pe_tyn hm hv hg hn hd) fun _ => .ty n)
/-- constants of the module -/
theorem pv_gint {i : Int} (hm : ∃ t, X.mg x = some (.int i t)) (hg : Gl X x := by rfl) (hd : (x == ("__debug__" : Str)) = false := by decide) : PV X m (.Name x p) true (fC (.int i)) := by
  obtain ⟨t, hm⟩ := hm
  exact pv_c (pe_glob (v := .int i) hg hm ⟨t, rfl⟩ hd) fun _ => .int i
theorem pv_gstr {i : Str} (hm : ∃ t, X.mg x = some (.str i t)) (hg : Gl X x := by rfl) (hd : (x == ("__debug__" : Str)) = false := by decide) : PV X m (.Name x p) true (fC (.str i)) := by
  obtain ⟨t, hm⟩ := hm
  exact pv_c (pe_glob (v := .str i) hg hm ⟨t, rfl⟩ hd) fun _ => .str i
theorem pass0At (σ : L2.St) : PassesAt (L2.CX X.prog X.w) X σ E0 := fun pins H s e s' I c => passL pins σ H s e s' I c
end
theorem passB {X : Cx} {E : XK} (hs : X.stack = X.env :: X.outer) (hf : X.env.frame = some X.env.locals) (hex : X.ex = []) {E1 : Value → Shared → Prop} (hx : X.xe = fun e s' => wpAny (model X.prog X.w) X.A (leaving X.env e) (fun _ s'' => L2.CX X.prog X.w X.outer X.H_0 X.s_0 E e s'') E1 s') (σ : L2.St) : PassesAt (L2.CX X.prog X.w) X σ E :=
  fun pins H s e s' I c => passes_call (takes_of hs hf hex hx) (fun _ _ _ _ h => h) pins σ H s e s' I c
theorem passT {X : Cx} {W : WX} (tk : Takes X W) (σ : L2.St) : PassesAt (L2.CX X.prog X.w) X σ (WE W σ) := passAt tk σ
/-- the last statement -/
theorem st_last {X : Cx} {m : Pm} {np : Nat} {st : Stmt} {g : SF} (h : PSt X m np st g) : PSq X m np [st] g := pss_one h
theorem un_of {k : Nat} {A : Around} (r : Room k A) : A.units + 64 < cLine := by have := r.un; omega
def fDct0 : XF := fun δ => .ok (.own (.dct []), δ)
/-- what is asked by a look, asked of data -/
theorem sm_wn {K : PySem.W.Frag} {r : List V → Hp → VK → Prop} {g : List D → Option D} (h : SmW K r g) : SmN K r (fun ds => (g ds).map EV.d) := fun F H xs ds z Q s rl e k => by
  dsimp only at e
  cases hg : g ds with
  | none => rw [hg] at e; cases e
  | some x =>
    rw [hg] at e
    cases e
    exact h H xs ds x Q (rl.mono s) hg fun v rv => k v F H (.refl s) (.d (rv F))
/-- name = [..] on one line -/
theorem st_setLc {X : Cx} {m m' : Pm} {np i : Nat} {q qc qf : Bool} {y : Str} {py : Pos} {elt tg iter : Expr} {ifs : List Expr} {scope : Scope} {own : List (Str × Nat)} {pos spos : Pos} {t : TG} {tt : TT} {it : LF} {g : D → Dv → Option Dv} {c : BF} {f : XF} {is : List Nat} (hc : X.calm = true) (hN : X.N.Nodup) (hy : X.N[i]? = some y) (hyl : X.env.scope.names.lookup y = some .local)
    (hi : PIt X m tg iter q it) (ok : BlkOk X.N X.env.scope scope own)
    (hg : ∀ (s : Shared) (H : Hp) (C : Addr) (cl : List (Str × Addr)) (fp : List Addr), PG (X.blk s H scope (compEnvC scope cl C X.env) fp) tg t) (hT : TgOk m.K t g is) (his : ∀ i ∈ is, i ∈ own.map (·.2))
    (ht : ∀ (s : Shared) (H : Hp) (C : Addr) (cl : List (Str × Addr)) (fp : List Addr), PTs (X.blk s H scope (compEnvC scope cl C X.env) fp) ifs tt) (htt : ∀ σ H Q, TB m' qc c σ H Q → tt σ H Q)
    (he : ∀ (s : Shared) (H : Hp) (C : Addr) (cl : List (Str × Addr)) (fp : List Addr), PX (X.blk s H scope (compEnvC scope cl C X.env) fp) m' elt qf f) (hK : m'.K = m.K := by rfl) (hs : ∀ x, foldedSetIterable iter X.env x = pure x := by intro _; rfl)
    (hsw : swapsWith (.ListComp elt [⟨tg, iter, ifs, 0⟩] scope pos) (some (.Name y py)) spos.line X.env = pure true := by rfl) :
    PSt X m np (.Assign [.Name y py] (.ListComp elt [⟨tg, iter, ifs, 0⟩] scope pos) spos) (sSet np i (fLc it g c f (own.map (·.2)))) :=
  st_set0 (ps_setLc hc hN hy hyl hsw hi ok hg ht he hs) (lc_read hK (fun _ _ _ z => z) hT his htt fun _ _ _ z => z)
/-- a def, by its function -/
theorem Cal.of {P : Program} {w : World} {K : PySem.W.Frag} {mg : Str → Option Value} {base : Heap} {cls : Str → Addr} {k : Nat} {x qual : Str} {st : Stmt} {f : Addr} {fd : FuncData} {ps : List Str} {fn : FnT} (F : FunD K x qual (defArgs st) (defBody st) (defScope st) [] [] f fd) (hm : mg x = some (.ref f)) (h : FnG P w K mg base k f fd ps (spG K cls fn))
    (hb : ∀ (kV doc pm : Value) (an : Option Addr) (cdv ct : Value) (us : List Value), us.length = ps.length → bindArgs (PySem.W.fnOf x qual (defArgs st) (defBody st) (defScope st) .none kV doc pm an cdv ct) ⟨us, []⟩ = pure (ps.zip us)) : Cal P w K mg base cls k x fn :=
  ⟨f, fd, ps, h, hm, F.kp, F.bindsN hb⟩
end FD
namespace FD
open PySem L2
theorem boot_int : bootBuiltins "int" = some (.type "int") := by decide +kernel
theorem boot_bool : bootBuiltins "bool" = some (.type "bool") := by decide +kernel
theorem boot_str : bootBuiltins "str" = some (.type "str") := by decide +kernel
theorem boot_list : bootBuiltins "list" = some (.type "list") := by decide +kernel
theorem boot_dict : bootBuiltins "dict" = some (.type "dict") := by decide +kernel
theorem boot_tuple : bootBuiltins "tuple" = some (.type "tuple") := by decide +kernel
end FD
end
section
set_option Elab.async false
set_option linter.all false
set_option maxRecDepth 100000
/-! FD24: exceptions made, by names; recursion by fuel. -/
namespace FD
open PySem L2

/-- what is known of an own exception class -/
structure ExF (P : Program) (w : World) (K : PySem.W.Frag) (mg : Str → Option Value) (base : Heap) (cls : Str → Addr) (x f : Str) : Prop where
  ok : ExcOk P w K mg base 1 x f (cls x)
  xf : XfC K (cls x)
  no : PySem.W.findIn K (.ref (cls x)) f = some none
theorem px_mk {X : Cx} {m : Pm} {j : Nat} {q : Bool} {x f nm : Str} {C : Addr} {e : Expr} {fa : LF} {p pos : Pos} {k : Nat} (O : ExcOk X.prog X.w X.K X.mg X.base k x f C) (kx : ExK m.K C nm) (hr : Room j X.A) (hk : k + 1 ≤ j) (hg : Gl X x) (ha : PL X m [e] q fa)
    (hdb : (x == ("__debug__" : Str)) = false := by decide) (he : starEach [e] X.env = (false, eval e X.env) :: starEach [] X.env := by rfl) (hpl : (backTo pos (starEach [] X.env)).any (·.1) = false := by rfl) : PX X m (.Call (.Name x p) [e] [] pos) q (fN (vMkv nm) fa) := by
  obtain ⟨fI, fd, ps, iC, tI, _, F1, hb⟩ := O.made
  exact pe_imp (pe_mkv O.T iC tI F1 (hr.mono hk) hb passL hg O.hm ha hdb he hpl) (many (sm_mkv kx))
theorem FnG.no {P : Program} {w : World} {K : PySem.W.Frag} {mg : Str → Option Value} {base : Heap} {cls : Str → Addr} {k : Nat} {f : Addr} {fd : FuncData} {ps : List Str} : FnG P w K mg base k f fd ps (spG K cls fun _ => .no) :=
  ⟨fun _ _ _ _ ⟨_, _, _, h⟩ => h.elim, fun _ _ _ _ _ _ _ _ _ _ _ _ _ _ ⟨_, _, _, h⟩ => h.elim⟩
theorem Cal.mono {P : Program} {w : World} {K : PySem.W.Frag} {mg : Str → Option Value} {base : Heap} {cls : Str → Addr} {j k : Nat} {x : Str} {fn : FnT} (c : Cal P w K mg base cls j x fn) (h : j ≤ k) : Cal P w K mg base cls k x fn := by
  obtain ⟨f, fd, ps, F, r⟩ := c
  exact ⟨f, fd, ps, F.mono h, r⟩
/-- __init__: self.f = x, both ways -/
theorem exc_made {P : Program} {w : World} {K : PySem.W.Frag} {mg : Str → Option Value} {base : Heap} {x qual f fp : Str} {C fI : Addr} {fd : FuncData} {pf p1 p2 p3 : Pos} {sc : Scope} {dc : Arguments} (T : OexC K C) (hno : PySem.W.findIn K (.ref C) f = some none) (hm : mg x = some (.ref C))
    (iC : PySem.W.findIn K (.ref C) "__init__" = some (some (.ref fI))) (tI : PySem.W.typeIn K (.ref fI) = some (.type "function"))
    (F : FunD K "__init__" qual dc [.Assign [.Attribute (.Name "self" p1) f p2] (.Name fp p3) pf] sc [] [] fI fd) (S : FnScope [("self" : Str), fp] [("self" : Str), fp] sc)
    (hb : ∀ (kV doc pm : Value) (an : Option Addr) (cdv ct : Value) (us : List Value), us.length = 2 → bindArgs (PySem.W.fnOf "__init__" qual dc [.Assign [.Attribute (.Name "self" p1) f p2] (.Name fp p3) pf] sc .none kV doc pm an cdv ct) ⟨us, []⟩ = pure ([("self" : Str), fp].zip us))
    (v1 : Vis sc "self") (v2 : Vis sc fp) (hd2 : (fp == ("__debug__" : Str)) = false) (hc2 : (fp == ("__classdict__" : Str)) = false) : ExcOk P w K mg base 1 x f C := by
  refine ⟨T, ⟨fI, fd, [("self" : Str), fp], iC, tI, ?_, ?_, F.bindsN hb⟩, hm⟩
  · refine F.ok S (fun vs H Q E h => ?_) fun cdv A out s H vs Q E hr h => ⟨_, pss_one (ps_ost (pe_var (i := 0) rfl v1) (pe_var (i := 1) rfl v2 hd2 hc2)), ?_⟩
    · obtain ⟨a, y, rfl, _⟩ := h; rfl
    · obtain ⟨a, y, rfl, e, k⟩ := h
      exact ⟨y, rfl, .ref a, rfl, a, C, rfl, T, hno, .inl ⟨e, fun dx hd ne => k dx hd ne⟩⟩
  · refine F.ok S (fun vs H Q E h => ?_) fun cdv A out s H vs Q E hr h => ⟨_, pss_one (ps_fld (pe_var (i := 0) rfl v1) (pe_var (i := 1) rfl v2 hd2 hc2)), ?_⟩
    · obtain ⟨a, t, y, rfl, _⟩ := h; rfl
    · obtain ⟨a, t, y, rfl, e, k⟩ := h
      exact ⟨y, rfl, .ref a, rfl, a, C, t, rfl, T, hno, e, fun dx hd ne => k dx hd ne⟩
end FD
end
section
set_option Elab.async false
set_option linter.all false
set_option maxRecDepth 100000
/-! FDE: what the written part says of own exception classes, asked by one Bool. -/
namespace FD
open PySem L2

def oexB (K : PySem.W.Frag) (C : Addr) : Bool := match K.lookup C with
  | some ⟨.type "type", _, .cls cd, sl⟩ => (match cd.mro, sl.toList with
    | .ref C' :: bm, [_, _, _, _, some (.builtin n), _] => C' == C && (n == "ValueError.__new__" && (!cd.hasDel && (cd.hasDict && PySem.HandSPX.refsVE bm)))
    | _, _ => false)
  | _ => false
theorem oexB_ok {K : PySem.W.Frag} {C : Addr} (h : oexB K C = true) : ∃ nm q N bs bm sn sub ab col dd k0 k1 k2 k3 k5, K.lookup C = some (excClassObj nm q C N bs bm true sn sub ab col dd k0 k1 k2 k3 k5 "ValueError.__new__") ∧ PySem.HandSPX.refsVE bm = true := by
  unfold oexB at h
  split at h
  · rename_i dd cd sl ho
    split at h
    · rename_i C' bm k0 k1 k2 k3 n k5 hm hs
      obtain ⟨h1, h⟩ := Bool.and_eq_true_iff.mp h
      obtain ⟨h2, h⟩ := Bool.and_eq_true_iff.mp h
      obtain ⟨h3, h⟩ := Bool.and_eq_true_iff.mp h
      obtain ⟨h4, h5⟩ := Bool.and_eq_true_iff.mp h
      obtain rfl : C' = C := eq_of_beq h1
      obtain rfl : n = "ValueError.__new__" := eq_of_beq h2
      obtain ⟨nm, bs, mro, ns, qn, hd, sn, sb, ab, col, del⟩ := cd
      dsimp only at hm h3 h4
      subst hm
      subst h4
      have h3 : del = false := by simpa using h3
      subst h3
      obtain ⟨sl⟩ := sl
      simp only at hs
      subst hs
      exact ⟨nm, qn, ns, bs, bm, sn, sb, ab, col, dd, k0, k1, k2, k3, k5, ho, h5⟩
    · cases h
  · cases h
def eqV (a b : Option (Option Value)) : Bool := He.eqO a b
def exB (K : PySem.W.Frag) (x f : Str) : Bool :=
  oexB K (He.ga K x) && (eqV (PySem.W.findIn K (.ref (He.ga K x)) "__setattr__") (some (some (.builtin "object.__setattr__"))) && (decide (PySem.W.subIn K (.ref (He.ga K x)) (.type "BaseException") = some true) && (decide (PySem.W.typeIn K (.ref (He.ga K x)) = some (.type "type")) && (PySem.W.keepIn K (.ref (He.ga K x)) &&
  (xfB K (He.ga K x) && (eqV (PySem.W.findIn K (.ref (He.ga K x)) f) (some none) && (eqV (PySem.W.findIn K (.ref (He.ga K x)) "__init__") (some (some (.ref (He.ma K (He.ga K x) "__init__")))) && decide (PySem.W.typeIn K (.ref (He.ma K (He.ga K x) "__init__")) = some (.type "function")))))))))
structure ExB (K : PySem.W.Frag) (x f : Str) : Prop where
  T : OexC K (He.ga K x)
  xf : XfC K (He.ga K x)
  no : PySem.W.findIn K (.ref (He.ga K x)) f = some none
  iC : PySem.W.findIn K (.ref (He.ga K x)) "__init__" = some (some (.ref (He.ma K (He.ga K x) "__init__")))
  tI : PySem.W.typeIn K (.ref (He.ma K (He.ga K x) "__init__")) = some (.type "function")
theorem exB_ok {K : PySem.W.Frag} {x f : Str} (h : exB K x f = true) : ExB K x f := by
  obtain ⟨h1, h⟩ := Bool.and_eq_true_iff.mp h
  obtain ⟨h2, h⟩ := Bool.and_eq_true_iff.mp h
  obtain ⟨h3, h⟩ := Bool.and_eq_true_iff.mp h
  obtain ⟨h4, h⟩ := Bool.and_eq_true_iff.mp h
  obtain ⟨h5, h⟩ := Bool.and_eq_true_iff.mp h
  obtain ⟨h6, h⟩ := Bool.and_eq_true_iff.mp h
  obtain ⟨h7, h⟩ := Bool.and_eq_true_iff.mp h
  obtain ⟨h8, h9⟩ := Bool.and_eq_true_iff.mp h
  exact ⟨⟨oexB_ok h1, He.eqO_ok h2, of_decide_eq_true h3, of_decide_eq_true h4, h5⟩, xfB_ok h6, He.eqO_ok h7, He.eqO_ok h8, of_decide_eq_true h9⟩
/-- .. of one whose instances are held as values -/
def exkB (K : PySem.W.Frag) (C : Addr) (nm : Str) : Bool :=
  eqV (PySem.W.findIn K (.ref C) "__getattribute__") (some (some (.builtin "BaseException.__getattribute__"))) && (eqV (PySem.W.findIn K (.ref C) "__getattr__") (some none) && (decide (PySem.W.subIn K (.ref C) (.type "BaseException") = some true) && (PySem.W.hasDictIn K C && (eqV (PySem.W.findIn K (.ref C) "__class__") (some (some (.builtin "object.__class__"))) &&
  (eqV (PySem.W.specialIn K (.builtin "object.__class__") "__get__") (some (some (.builtin "getset_descriptor.__get__"))) && (decide (PySem.W.takesIn K (.builtin "object.__class__") = some true) && (decide (PySem.W.mroIn K C (.type "object") = some true) && (eqV (PySem.W.findIn K (.ref C) "__repr__") (some (some (.builtin "BaseException.__repr__"))) &&
  ((["int", "bool", "str", "tuple", "list", "dict"].all fun n => decide (PySem.W.kitOne K (.ref C) (.type n) = some false)) && (match PySem.W.clsIn K C with | some cd => decide (cd.name = nm) | none => false))))))))))
theorem exkB_ok {K : PySem.W.Frag} {C : Addr} {nm : Str} (h : exkB K C nm = true) (hn : excReprHead nm.toString = nm) : ExK K C nm := by
  obtain ⟨h1, h⟩ := Bool.and_eq_true_iff.mp h
  obtain ⟨h2, h⟩ := Bool.and_eq_true_iff.mp h
  obtain ⟨h3, h⟩ := Bool.and_eq_true_iff.mp h
  obtain ⟨h4, h⟩ := Bool.and_eq_true_iff.mp h
  obtain ⟨h5, h⟩ := Bool.and_eq_true_iff.mp h
  obtain ⟨h6, h⟩ := Bool.and_eq_true_iff.mp h
  obtain ⟨h7, h⟩ := Bool.and_eq_true_iff.mp h
  obtain ⟨h8, h⟩ := Bool.and_eq_true_iff.mp h
  obtain ⟨h9, h⟩ := Bool.and_eq_true_iff.mp h
  obtain ⟨h10, h11⟩ := Bool.and_eq_true_iff.mp h
  refine ⟨⟨He.eqO_ok h1, He.eqO_ok h2, of_decide_eq_true h3, h4, He.eqO_ok h5, He.eqO_ok h6, of_decide_eq_true h7, of_decide_eq_true h8⟩, He.eqO_ok h9, fun n hn => of_decide_eq_true (List.all_eq_true.mp h10 n hn), ?_⟩
  cases hc : PySem.W.clsIn K C with
  | none => rw [hc] at h11; cases h11
  | some cd =>
    rw [hc] at h11
    have e : cd.name = nm := of_decide_eq_true h11
    exact ⟨cd, rfl, by rw [e]; exact hn⟩
theorem repL_ints {K : PySem.W.Frag} {F : Hp} : ∀ ns : List Int, RepL K F (ns.map V.int) (ns.map D.int)
  | [] => .nil
  | n :: ns => .cons (.int n) (repL_ints ns)
/-- what the law is asked, and what it must say -/
theorem law_in {K : PySem.W.Frag} {cls : Str → Addr} {fn : FnT} {a : Addr} {ns : List Int} {H : Hp} (_hO : Only H) (hS : SqL K H a (ns.map V.int)) (h : ∃ δ, fn [.d (.scr (ns.map D.int))] = .ok (.d (.bl true), δ)) : spG K cls fn [.ref a] H (fun v _ => v = .bl true) fun _ _ _ => False := by
  obtain ⟨δ, e⟩ := h
  refine ⟨H, [.d (.scr (ns.map D.int))], ⟨.refl _, rfl, fun i x hx => ?_, fun i o hx => ?_, fun i j o u p hx => ?_⟩, ?_⟩
  · cases i with
    | zero => cases hx; exact ⟨_, rfl, .scr hS (repL_ints ns)⟩
    | succ i => simp at hx
  · cases i with
    | zero => cases hx
    | succ i => simp at hx
  · cases i with
    | zero => cases hx
    | succ i => simp at hx
  · rw [e]
    intro v F' H' _ _ _ rz
    cases rz with
    | d r => cases r; rfl
end FD
end
section
set_option Elab.async false
set_option linter.all false
set_option maxRecDepth 100000
/-! S0: what a function of data does, step by step. -/
namespace FD
open PySem L2

abbrev EC := Str → List (Str × D) → Prop
def noE : EC := fun _ _ => False
def W {α : Type} (r : Rs (α × Dv)) (Q : α → Dv → Prop) (E : EC) : Prop := match r with
  | .ok (a, δ) => Q a δ
  | .exc c fs => E c fs
  | .no => False
def WS (r : Rs Out) (P : Out → Prop) (E : EC) : Prop := match r with
  | .ok o => P o
  | .exc c fs => E c fs
  | .no => False
def VQ {α : Type} (o : Option α) (Q : α → Dv → Prop) (δ : Dv) : Prop := match o with
  | some z => Q z δ
  | none => False
section
variable {α β : Type} {Q : α → Dv → Prop} {P : Out → Prop} {E : EC} {δ : Dv}
theorem W_bind {r : Rs (α × Dv)} {f : α × Dv → Rs (β × Dv)} {Q : β → Dv → Prop} : W (r.bind f) Q E = W r (fun a δ => W (f (a, δ)) Q E) E := by
  cases r with
  | ok p => cases p; rfl
  | exc c fs => rfl
  | no => rfl
theorem WS_bind {r : Rs (α × Dv)} {f : α × Dv → Rs Out} : WS (r.bind f) P E = W r (fun a δ => WS (f (a, δ)) P E) E := by
  cases r with
  | ok p => cases p; rfl
  | exc c fs => rfl
  | no => rfl
theorem WS_bindS {r : Rs Out} {f : Out → Rs Out} : WS (r.bind f) P E = WS r (fun a => WS (f a) P E) E := by
  cases r <;> rfl
theorem W_ok {a : α} : W (.ok (a, δ)) Q E = Q a δ := rfl
theorem W_exc {c : Str} {fs : List (Str × D)} : W (.exc c fs) Q E = E c fs := rfl
theorem W_no : W .no Q E = False := rfl
theorem WS_ok {o : Out} : WS (.ok o) P E = P o := rfl
theorem WS_no : WS .no P E = False := rfl
theorem VQ_some {z : α} : VQ (some z) Q δ = Q z δ := rfl
theorem VQ_none : VQ none Q δ = False := rfl
theorem VQ_eq {o : Option α} {z : α} (h : o = some z) (q : Q z δ) : VQ o Q δ := by rw [h]; exact q
theorem VQ_of {o : Option α} {f : α → Rs (β × Dv)} {Q : β → Dv → Prop} : W ((Rs.of o).bind f) Q E = VQ o (fun z _ => W (f z) Q E) δ := by cases o <;> rfl
theorem W.mono {r : Rs (α × Dv)} {Q' : α → Dv → Prop} {E' : EC} (h : W r Q E) (k : ∀ a δ, Q a δ → Q' a δ) (e : ∀ c fs, E c fs → E' c fs) : W r Q' E' := by
  cases r with
  | ok p => exact k _ _ h
  | exc c fs => exact e _ _ h
  | no => exact h
theorem W.to {r : Rs (α × Dv)} {Q' : α → Dv → Prop} (h : W r Q noE) (k : ∀ a δ, Q a δ → Q' a δ) : W r Q' E := h.mono k fun _ _ h => h.elim
theorem WS.mono {r : Rs Out} {P' : Out → Prop} {E' : EC} (h : WS r P E) (k : ∀ a, P a → P' a) (e : ∀ c fs, E c fs → E' c fs) : WS r P' E' := by
  cases r with
  | ok p => exact k _ h
  | exc c fs => exact e _ _ h
  | no => exact h
theorem W.get {r : Rs (α × Dv)} (h : W r Q noE) : ∃ a δ, r = .ok (a, δ) ∧ Q a δ := by
  cases r with
  | ok p => exact ⟨p.1, p.2, rfl, h⟩
  | exc c fs => exact h.elim
  | no => exact h.elim
theorem W.by {r : Rs (α × Dv)} {a : α} (e : r = .ok (a, δ)) (q : Q a δ) : W r Q E := by rw [e]; exact q
end

/-! ### leaves -/
def LV : Option Sl → (D → Dv → Prop) → Dv → Prop
  | some (.d x), Q, δ => Q x δ
  | _, _, _ => False
def LF' : Option Sl → Nat → (D → Dv → Prop) → Dv → Prop
  | some (.d x), _, Q, δ => Q x δ
  | some (.own o), i, Q, δ => Q o.toD (δ.set i (.d o.toD))
  | _, _, _, _ => False
def LW : Option Sl → (D → Dv → Prop) → Dv → Prop
  | some (.d x), Q, δ => Q x δ
  | some (.own o), Q, δ => Q o.toD δ
  | _, _, _ => False
section
variable {E : EC} {δ : Dv} {i : Nat} {o : Ob} {x y : D}
section
variable {Q : D → Dv → Prop}
theorem LV_d : LV (some (.d x)) Q δ = Q x δ := rfl
theorem LF_d : LF' (some (.d x)) i Q δ = Q x δ := rfl
theorem LF_o : LF' (some (.own o)) i Q δ = Q o.toD (δ.set i (.d o.toD)) := rfl
theorem LW_d : LW (some (.d x)) Q δ = Q x δ := rfl
theorem LW_o : LW (some (.own o)) Q δ = Q o.toD δ := rfl
theorem W_fC : W (fC x δ) Q E = Q x δ := rfl
theorem W_fV : W (fV i δ) Q E = LV δ[i]? Q δ := by
  unfold fV
  cases h : δ[i]? with
  | none => rfl
  | some s => cases s <;> rfl
theorem W_fVF : W (fVF i δ) Q E = LF' δ[i]? i Q δ := by
  unfold fVF
  cases h : δ[i]? with
  | none => rfl
  | some s => cases s <;> rfl
theorem W_fVW : W (fVW i δ) Q E = LW δ[i]? Q δ := by
  unfold fVW
  cases h : δ[i]? with
  | none => rfl
  | some s => cases s <;> rfl
end
theorem toD_l {l : List D} : Ob.toD (.lst l) = .lst l := rfl
theorem toD_c {l : List (Key × D)} : Ob.toD (.dct l) = .dct l := rfl
theorem eD_d : EV.toD (.d x) = x := rfl
theorem eD_o : EV.toD (.own o) = o.toD := rfl
theorem sl_d : EV.sl (.d x) = .d x := rfl
theorem sl_o : EV.sl (.own o) = .own o := rfl

/-! ### frames -/
def KD (Q : D → Dv → Prop) : EV → Dv → Prop := fun z δ => Q z.toD δ
def KX (Q : EV → Dv → Prop) : D → Dv → Prop := fun x δ => Q (.d x) δ
def K1 (g : D → Option EV) (Q : EV → Dv → Prop) : D → Dv → Prop := fun x δ => VQ (g x) Q δ
def K2b (g : D → D → Option EV) (x : D) (Q : EV → Dv → Prop) : D → Dv → Prop := fun y δ => VQ (g x y) Q δ
def K2 (g : D → D → Option EV) (fb : VF) (Q : EV → Dv → Prop) (E : EC) : D → Dv → Prop := fun x δ => W (fb δ) (K2b g x Q) E
def KN (g : List D → Option EV) (Q : EV → Dv → Prop) : List D → Dv → Prop := fun l δ => VQ (g l) Q δ
def KW (g : List D → Option D) (Q : D → Dv → Prop) : List D → Dv → Prop := fun l δ => VQ (g l) Q δ
def KCb (x : D) (Q : List D → Dv → Prop) : List D → Dv → Prop := fun l δ => Q (x :: l) δ
def KC (fs : LF) (Q : List D → Dv → Prop) (E : EC) : D → Dv → Prop := fun x δ => W (fs δ) (KCb x Q) E
section
variable {Q : EV → Dv → Prop} {R : D → Dv → Prop} {L : List D → Dv → Prop} {f fa fb : VF} {h : XF} {fs : LF} {l : List D} {z : EV} {g1 : D → Option EV} {g2 : D → D → Option EV} {gN : List D → Option EV} {gW : List D → Option D}
theorem W_fD : W (fD h δ) R E = W (h δ) (KD R) E := by unfold fD; rw [W_bind]; rfl
theorem R_KD : KD R z δ = R z.toD δ := rfl
theorem W_fX : W (fX f δ) Q E = W (f δ) (KX Q) E := by unfold fX; rw [W_bind]; rfl
theorem R_KX : KX Q x δ = Q (.d x) δ := rfl
theorem W_f1 : W (f1 g1 fa δ) Q E = W (fa δ) (K1 g1 Q) E := by
  unfold f1; rw [W_bind]; congr 1; funext a δ'; show W ((Rs.of (g1 a)).bind _) Q E = VQ (g1 a) Q δ'; cases g1 a <;> rfl
theorem R_K1 : K1 g1 Q x δ = VQ (g1 x) Q δ := rfl
theorem W_f2 : W (f2 g2 fa fb δ) Q E = W (fa δ) (K2 g2 fb Q E) E := by
  unfold f2; rw [W_bind]; congr 1; funext a δ'; rw [W_bind]; show _ = W (fb δ') (K2b g2 a Q) E; congr 1; funext b δ''; show W ((Rs.of (g2 a b)).bind _) Q E = VQ (g2 a b) Q δ''; cases g2 a b <;> rfl
theorem R_K2 : K2 g2 fb Q E x δ = W (fb δ) (K2b g2 x Q) E := rfl
theorem R_K2b : K2b g2 x Q y δ = VQ (g2 x y) Q δ := rfl
theorem W_fN : W (fN gN fs δ) Q E = W (fs δ) (KN gN Q) E := by
  unfold fN; rw [W_bind]; congr 1; funext a δ'; show W ((Rs.of (gN a)).bind _) Q E = VQ (gN a) Q δ'; cases gN a <;> rfl
theorem R_KN : KN gN Q l δ = VQ (gN l) Q δ := rfl
theorem W_fW : W (fW gW fs δ) R E = W (fs δ) (KW gW R) E := by
  unfold fW; rw [W_bind]; congr 1; funext a δ'; show W ((Rs.of (gW a)).bind _) R E = VQ (gW a) R δ'; cases gW a <;> rfl
theorem R_KW : KW gW R l δ = VQ (gW l) R δ := rfl
theorem W_fNil : W (fNil δ) L E = L [] δ := rfl
theorem W_fCons : W (fCons fa fs δ) L E = W (fa δ) (KC fs L E) E := by
  unfold fCons; rw [W_bind]; congr 1; funext a δ'; rw [W_bind]; rfl
theorem R_KC : KC fs L E x δ = W (fs δ) (KCb x L) E := rfl
theorem R_KCb : KCb x L l δ = L (x :: l) δ := rfl
end

/-! ### tests -/
def KB (Q : Bool → Dv → Prop) : EV → Dv → Prop
  | .d (.bl b), δ => Q b δ
  | _, _ => False
def KBv (Q : Bool → Dv → Prop) : D → Dv → Prop
  | .bl b, δ => Q b δ
  | _, _ => False
def KNB (Q : Bool → Dv → Prop) : Bool → Dv → Prop := fun b δ => Q (!b) δ
def KAB (g : BF) (Q : Bool → Dv → Prop) (E : EC) : Bool → Dv → Prop
  | true, δ => W (g δ) Q E
  | false, δ => Q false δ
def KOB (g : BF) (Q : Bool → Dv → Prop) (E : EC) : Bool → Dv → Prop
  | true, δ => Q true δ
  | false, δ => W (g δ) Q E
def KA (g : VF) (Q : D → Dv → Prop) (E : EC) : D → Dv → Prop
  | .bl true, δ => W (g δ) Q E
  | .bl false, δ => Q (.bl false) δ
  | _, _ => False
def KO (g : VF) (Q : D → Dv → Prop) (E : EC) : D → Dv → Prop
  | .bl true, δ => Q (.bl true) δ
  | .bl false, δ => W (g δ) Q E
  | _, _ => False
def KI (f g : XF) (Q : EV → Dv → Prop) (E : EC) : Bool → Dv → Prop
  | true, δ => W (f δ) Q E
  | false, δ => W (g δ) Q E
def KIN (Q : D → Dv → Prop) : D → Dv → Prop := fun x δ => Q (.bl (isNonD x)) δ
def KNN (Q : D → Dv → Prop) : D → Dv → Prop := fun x δ => Q (.bl (!isNonD x)) δ
def KH3 (g' : D → D → Option EV) (y : D) (fc : VF) (Q : D → Dv → Prop) (E : EC) : EV → Dv → Prop
  | .d (.bl true), δ => W (fc δ) (K2b g' y (KD Q)) E
  | .d (.bl false), δ => Q (.bl false) δ
  | _, _ => False
def KH2 (g g' : D → D → Option EV) (x : D) (fc : VF) (Q : D → Dv → Prop) (E : EC) : D → Dv → Prop := fun y δ => VQ (g x y) (KH3 g' y fc Q E) δ
def KH1 (g g' : D → D → Option EV) (fb fc : VF) (Q : D → Dv → Prop) (E : EC) : D → Dv → Prop := fun x δ => W (fb δ) (KH2 g g' x fc Q E) E
section
variable {Q : Bool → Dv → Prop} {R : D → Dv → Prop} {Z : EV → Dv → Prop} {b : Bool} {f g : BF} {h : XF} {k : XF} {u v w : VF} {g2 g2' : D → D → Option EV}
theorem W_fB : W (fB h δ) Q E = W (h δ) (KB Q) E := by
  unfold fB; rw [W_bind]; congr 1; funext a δ'
  cases a with
  | d x => cases x <;> rfl
  | own o => rfl
theorem R_KB : KB Q (.d (.bl b)) δ = Q b δ := rfl
theorem W_fBv : W (fBv u δ) Q E = W (u δ) (KBv Q) E := by
  unfold fBv; rw [W_bind]; congr 1; funext a δ'; cases a <;> rfl
theorem R_KBv : KBv Q (.bl b) δ = Q b δ := rfl
theorem W_fNotB : W (fNotB f δ) Q E = W (f δ) (KNB Q) E := by unfold fNotB; rw [W_bind]; rfl
theorem R_KNB : KNB Q b δ = Q (!b) δ := rfl
theorem W_fAndB : W (fAndB f g δ) Q E = W (f δ) (KAB g Q E) E := by
  unfold fAndB; rw [W_bind]; congr 1; funext a δ'; cases a <;> rfl
theorem R_KABt : KAB g Q E true δ = W (g δ) Q E := rfl
theorem R_KABf : KAB g Q E false δ = Q false δ := rfl
theorem W_fOrB : W (fOrB f g δ) Q E = W (f δ) (KOB g Q E) E := by
  unfold fOrB; rw [W_bind]; congr 1; funext a δ'; cases a <;> rfl
theorem R_KOBt : KOB g Q E true δ = Q true δ := rfl
theorem R_KOBf : KOB g Q E false δ = W (g δ) Q E := rfl
theorem W_fAnd : W (fAnd u v δ) R E = W (u δ) (KA v R E) E := by
  unfold fAnd; rw [W_bind]; congr 1; funext a δ'
  cases a with
  | bl b => cases b <;> rfl
  | _ => rfl
theorem R_KAt : KA v R E (.bl true) δ = W (v δ) R E := rfl
theorem R_KAf : KA v R E (.bl false) δ = R (.bl false) δ := rfl
theorem W_fOr : W (fOr u v δ) R E = W (u δ) (KO v R E) E := by
  unfold fOr; rw [W_bind]; congr 1; funext a δ'
  cases a with
  | bl b => cases b <;> rfl
  | _ => rfl
theorem R_KOt : KO v R E (.bl true) δ = R (.bl true) δ := rfl
theorem R_KOf : KO v R E (.bl false) δ = W (v δ) R E := rfl
theorem W_fIf : W (fIf f h k δ) Z E = W (f δ) (KI h k Z E) E := by
  unfold fIf; rw [W_bind]; congr 1; funext a δ'; cases a <;> rfl
theorem R_KIt : KI h k Z E true δ = W (h δ) Z E := rfl
theorem R_KIf : KI h k Z E false δ = W (k δ) Z E := rfl
theorem W_fIsN : W (fIsN u δ) R E = W (u δ) (KIN R) E := by unfold fIsN; rw [W_bind]; rfl
theorem R_KIN : KIN R x δ = R (.bl (isNonD x)) δ := rfl
theorem W_fNotN : W (fNotN u δ) R E = W (u δ) (KNN R) E := by unfold fNotN; rw [W_bind]; rfl
theorem R_KNN : KNN R x δ = R (.bl (!isNonD x)) δ := rfl
theorem W_fChain : W (fChain g2 g2' u v w δ) R E = W (u δ) (KH1 g2 g2' v w R E) E := by
  unfold fChain; rw [W_bind]; congr 1; funext a δ'; rw [W_bind]
  show _ = W (v δ') (KH2 g2 g2' a w R E) E
  congr 1; funext b δ''
  show W ((Rs.of (g2 a b)).bind _) R E = VQ (g2 a b) (KH3 g2' b w R E) δ''
  cases g2 a b with
  | none => rfl
  | some z =>
    cases z with
    | own o => rfl
    | d x =>
      cases x with
      | bl c =>
        cases c with
        | false => rfl
        | true =>
          show W ((w δ'').bind _) R E = W (w δ'') _ E
          rw [W_bind]
          congr 1; funext c δ3
          show W ((Rs.of (g2' b c)).bind _) R E = VQ (g2' b c) (KD R) δ3
          cases g2' b c <;> rfl
      | _ => rfl
theorem R_KH1 : KH1 g2 g2' v w R E x δ = W (v δ) (KH2 g2 g2' x w R E) E := rfl
theorem R_KH2 : KH2 g2 g2' x w R E y δ = VQ (g2 x y) (KH3 g2' y w R E) δ := rfl
theorem R_KH3t : KH3 g2' y w R E (.d (.bl true)) δ = W (w δ) (K2b g2' y (KD R)) E := rfl
theorem R_KH3f : KH3 g2' y w R E (.d (.bl false)) δ = R (.bl false) δ := rfl
/-! by cases -/
theorem KI_by (h1 : b = true → KI h k Z E true δ) (h2 : b = false → KI h k Z E false δ) : KI h k Z E b δ := by
  cases b
  · exact h2 rfl
  · exact h1 rfl
theorem KAB_by (h1 : b = true → KAB g Q E true δ) (h2 : b = false → KAB g Q E false δ) : KAB g Q E b δ := by
  cases b
  · exact h2 rfl
  · exact h1 rfl
theorem KOB_by (h1 : b = true → KOB g Q E true δ) (h2 : b = false → KOB g Q E false δ) : KOB g Q E b δ := by
  cases b
  · exact h2 rfl
  · exact h1 rfl
theorem KA_by (h1 : b = true → KA v R E (.bl true) δ) (h2 : b = false → KA v R E (.bl false) δ) : KA v R E (.bl b) δ := by
  cases b
  · exact h2 rfl
  · exact h1 rfl
theorem KO_by (h1 : b = true → KO v R E (.bl true) δ) (h2 : b = false → KO v R E (.bl false) δ) : KO v R E (.bl b) δ := by
  cases b
  · exact h2 rfl
  · exact h1 rfl
theorem KH3_by (h1 : b = true → KH3 g2' y w R E (.d (.bl true)) δ) (h2 : b = false → KH3 g2' y w R E (.d (.bl false)) δ) : KH3 g2' y w R E (.d (.bl b)) δ := by
  cases b
  · exact h2 rfl
  · exact h1 rfl
end
end
end FD
end
section
set_option Elab.async false
set_option linter.all false
set_option maxRecDepth 100000
/-! S1: subscripts, methods, calls, comprehensions, statements. -/
namespace FD
open PySem L2

def KM1b (g : D → D → Option D) (a : Str) (Q : D → Dv → Prop) : D → Dv → Prop := fun y δ => VQ (g (.str a) y) Q δ
def KM1 (g : D → D → Option D) (fa : VF) (Q : D → Dv → Prop) (E : EC) : D → Dv → Prop
  | .str a, δ => W (fa δ) (KM1b g a Q) E
  | _, _ => False
def IxB : Option Sl → D → (D → Dv → Prop) → Dv → Prop
  | some (.own (.lst l)), .int k, Q, δ => VQ (atI l k) Q δ
  | some (.d x), y, Q, δ => VQ (vIx x y) (KD Q) δ
  | _, _, _, _ => False
def KIx (i : Nat) (Q : D → Dv → Prop) : D → Dv → Prop := fun y δ => IxB δ[i]? y Q δ
def IxA : Option Sl → Nat → VF → (D → Dv → Prop) → EC → Dv → Prop
  | some (.d _), i, fb, Q, E, δ => W (fb δ) (KIx i Q) E
  | some (.own _), i, fb, Q, E, δ => W (fb δ) (KIx i Q) E
  | _, _, _, _, _, _ => False
def MtC (i : Nat) (Q : D → Dv → Prop) : List D × D → Dv → Prop := fun z δ => Q z.2 (δ.set i (.own (.lst z.1)))
def MtB : Option Sl → Nat → (List D → List D → Option (List D × D)) → List D → (D → Dv → Prop) → Dv → Prop
  | some (.own (.lst l)), i, g, ds, Q, δ => VQ (g l ds) (MtC i Q) δ
  | _, _, _, _, _, _ => False
def KMt (i : Nat) (g : List D → List D → Option (List D × D)) (Q : D → Dv → Prop) : List D → Dv → Prop := fun ds δ => MtB δ[i]? i g ds Q δ
def MtA : Option Sl → Nat → (List D → List D → Option (List D × D)) → LF → (D → Dv → Prop) → EC → Dv → Prop
  | some (.own (.lst _)), i, g, fa, Q, E, δ => W (fa δ) (KMt i g Q) E
  | _, _, _, _, _, _, _ => False
def KSl3 (x : D) (lo : Option Int) (Q : EV → Dv → Prop) : Option Int → Dv → Prop := fun hi δ => VQ (vSl x lo hi) Q δ
def KSl2 (x : D) (fh : OF) (Q : EV → Dv → Prop) (E : EC) : Option Int → Dv → Prop := fun lo δ => W (fh δ) (KSl3 x lo Q) E
def KSl1 (fl fh : OF) (Q : EV → Dv → Prop) (E : EC) : D → Dv → Prop := fun x δ => W (fl δ) (KSl2 x fh Q E) E
def KOs (Q : Option Int → Dv → Prop) : D → Dv → Prop
  | .int i, δ => Q (some i) δ
  | _, _ => False
def KIt (Q : List D → Dv → Prop) : D → Dv → Prop
  | .lst l, δ => Q l δ
  | .scr l, δ => Q l δ
  | _, _ => False
def KItT (Q : List D → Dv → Prop) : D → Dv → Prop
  | .tup l, δ => Q l δ
  | _, _ => False
def KSg (Q : List D → Dv → Prop) : D → Dv → Prop
  | .str x, δ => Q (signsL x) δ
  | _, _ => False
def KR1 (Q : List D → Dv → Prop) : List D → Dv → Prop
  | [.int j], δ => (-4611686018427387904 ≤ j ∧ j < 4611686018427387904) ∧ Q (rngL 0 j.toNat) δ
  | _, _ => False
def KR2 (Q : List D → Dv → Prop) : List D → Dv → Prop
  | [.int i, .int j], δ => ((-4611686018427387904 ≤ i ∧ i < 4611686018427387904) ∧ (-4611686018427387904 ≤ j ∧ j < 4611686018427387904)) ∧ Q (rngL i (j - i).toNat) δ
  | _, _ => False
section
variable {E : EC} {δ : Dv} {i : Nat} {o : Ob} {x y : D} {a : Str} {j k : Int} {l l' ds : List D}
section
variable {Q : D → Dv → Prop} {Z : EV → Dv → Prop} {L : List D → Dv → Prop} {g1 : D → D → Option D} {gm : List D → List D → Option (List D × D)} {fa fb fo : VF} {fl : LF} {lo hi : Option Int} {Oq : Option Int → Dv → Prop} {fp fh : OF}
theorem W_fM1 : W (fM1 g1 fo fa δ) Q E = W (fo δ) (KM1 g1 fa Q E) E := by
  unfold fM1; rw [W_bind]; congr 1; funext a δ'
  cases a with
  | str s =>
    show W ((fa δ').bind _) Q E = W (fa δ') (KM1b g1 s Q) E
    rw [W_bind]; congr 1; funext b δ''
    show W ((Rs.of (g1 (.str s) b)).bind _) Q E = VQ (g1 (.str s) b) Q δ''
    cases g1 (.str s) b <;> rfl
  | _ => rfl
theorem R_KM1 : KM1 g1 fa Q E (.str a) δ = W (fa δ) (KM1b g1 a Q) E := rfl
theorem R_KM1b : KM1b g1 a Q y δ = VQ (g1 (.str a) y) Q δ := rfl
theorem W_fIxN : W (fIxN i fb δ) Q E = IxA δ[i]? i fb Q E δ := by
  have go : W ((fb δ).bind fun b => match b.2[i]? with
    | some (.own (.lst l)) => match b.1 with
      | .int k => (Rs.of (atI l k)).bind fun x => .ok (x, b.2)
      | _ => .no
    | some (.d x) => (Rs.of (vIx x b.1)).bind fun z => .ok (z.toD, b.2)
    | _ => .no) Q E = W (fb δ) (KIx i Q) E := by
    rw [W_bind]; congr 1; funext y δ'
    show _ = IxB δ'[i]? y Q δ'
    cases h : δ'[i]? with
    | none => simp only [h]; rfl
    | some s =>
      simp only [h]
      cases s with
      | no => rfl
      | d x =>
        show W ((Rs.of (vIx x y)).bind _) Q E = VQ (vIx x y) (KD Q) δ'
        cases vIx x y <;> rfl
      | own o =>
        cases o with
        | dct _ => rfl
        | lst l =>
          cases y with
          | int k =>
            show W ((Rs.of (atI l k)).bind _) Q E = VQ (atI l k) Q δ'
            cases atI l k <;> rfl
          | _ => rfl
  unfold fIxN
  cases h : δ[i]? with
  | none => rfl
  | some s =>
    cases s with
    | no => rfl
    | d x => exact go
    | own o => exact go
theorem R_IxAd : IxA (some (.d x)) i fb Q E δ = W (fb δ) (KIx i Q) E := rfl
theorem R_IxAo : IxA (some (.own o)) i fb Q E δ = W (fb δ) (KIx i Q) E := rfl
theorem R_KIx : KIx i Q y δ = IxB δ[i]? y Q δ := rfl
theorem R_IxBo : IxB (some (.own (.lst l))) (.int k) Q δ = VQ (atI l k) Q δ := rfl
theorem R_IxBd : IxB (some (.d x)) y Q δ = VQ (vIx x y) (KD Q) δ := rfl
theorem W_fMt : W (fMt i gm fl δ) Q E = MtA δ[i]? i gm fl Q E δ := by
  unfold fMt
  cases h : δ[i]? with
  | none => rfl
  | some s =>
    cases s with
    | no => rfl
    | d x => rfl
    | own o =>
      cases o with
      | dct _ => rfl
      | lst l0 =>
        show W ((fl δ).bind _) Q E = W (fl δ) (KMt i gm Q) E
        rw [W_bind]; congr 1; funext ds δ'
        show _ = MtB δ'[i]? i gm ds Q δ'
        cases h : δ'[i]? with
        | none => simp only [h]; rfl
        | some s =>
          simp only [h]
          cases s with
          | no => rfl
          | d x => rfl
          | own o =>
            cases o with
            | dct _ => rfl
            | lst l =>
              show W ((Rs.of (gm l ds)).bind _) Q E = VQ (gm l ds) (MtC i Q) δ'
              cases gm l ds <;> rfl
theorem R_MtA : MtA (some (.own (.lst l))) i gm fl Q E δ = W (fl δ) (KMt i gm Q) E := rfl
theorem R_KMt : KMt i gm Q ds δ = MtB δ[i]? i gm ds Q δ := rfl
theorem R_MtB : MtB (some (.own (.lst l))) i gm ds Q δ = VQ (gm l ds) (MtC i Q) δ := rfl
theorem R_MtC : MtC i Q (l, y) δ = Q y (δ.set i (.own (.lst l))) := rfl
theorem W_fSl : W (fSl fa fp fh δ) Z E = W (fa δ) (KSl1 fp fh Z E) E := by
  unfold fSl; rw [W_bind]; congr 1; funext a δ1; rw [W_bind]
  show _ = W (fp δ1) (KSl2 a fh Z E) E
  congr 1; funext b δ2; rw [W_bind]
  show _ = W (fh δ2) (KSl3 a b Z) E
  congr 1; funext c δ3
  show W ((Rs.of (vSl a b c)).bind _) Z E = VQ (vSl a b c) Z δ3
  cases vSl a b c <;> rfl
theorem R_KSl1 : KSl1 fp fh Z E x δ = W (fp δ) (KSl2 x fh Z E) E := rfl
theorem R_KSl2 : KSl2 x fh Z E lo δ = W (fh δ) (KSl3 x lo Z) E := rfl
theorem R_KSl3 : KSl3 x lo Z hi δ = VQ (vSl x lo hi) Z δ := rfl
theorem W_oNone : W (oNone δ) Oq E = Oq none δ := rfl
theorem W_oSome : W (oSome fa δ) Oq E = W (fa δ) (KOs Oq) E := by
  unfold oSome; rw [W_bind]; congr 1; funext a δ'; cases a <;> rfl
theorem R_KOs : KOs Oq (.int k) δ = Oq (some k) δ := rfl
theorem W_fItems : W (fItems fa δ) L E = W (fa δ) (KIt L) E := by
  unfold fItems; rw [W_bind]; congr 1; funext a δ'; cases a <;> rfl
theorem R_KItl : KIt L (.lst l) δ = L l δ := rfl
theorem R_KIts : KIt L (.scr l) δ = L l δ := rfl
theorem W_fItemsT : W (fItemsT fa δ) L E = W (fa δ) (KItT L) E := by
  unfold fItemsT; rw [W_bind]; congr 1; funext a δ'; cases a <;> rfl
theorem R_KItT : KItT L (.tup l) δ = L l δ := rfl
theorem W_fSigns : W (fSigns fa δ) L E = W (fa δ) (KSg L) E := by
  unfold fSigns; rw [W_bind]; congr 1; funext a δ'; cases a <;> rfl
theorem R_KSg : KSg L (.str a) δ = L (signsL a) δ := rfl
theorem W_fRng1 : W (fRng1 fl δ) L E = W (fl δ) (KR1 L) E := by
  unfold fRng1; rw [W_bind]; congr 1; funext a δ'
  match a with
  | [] => rfl
  | [.int j] =>
    show W (if _ then _ else _) L E = ((-4611686018427387904 ≤ j ∧ j < 4611686018427387904) ∧ L (rngL 0 j.toNat) δ')
    split
    · rename_i h; show L _ _ = _; exact propext ⟨fun z => ⟨h, z⟩, fun z => z.2⟩
    · rename_i h; show False = _; exact propext ⟨fun z => z.elim, fun z => h z.1⟩
  | .int j :: b :: c => rfl
  | .non :: c | .bl _ :: c | .str _ :: c | .tup _ :: c | .lst _ :: c | .scr _ :: c | .dct _ :: c | .obj _ :: c | .ty _ :: c | .exc _ _ :: c | .cau _ _ _ :: c => cases c <;> rfl
theorem R_KR1 : KR1 L [.int j] δ = ((-4611686018427387904 ≤ j ∧ j < 4611686018427387904) ∧ L (rngL 0 j.toNat) δ) := rfl
end
end
/-- two ints -/
theorem W_fRng2 {fl : LF} {δ : Dv} {L : List D → Dv → Prop} {E : EC} (h : W (fl δ) (KR2 L) E) : W (fRng2 fl δ) L E := by
  unfold fRng2
  rw [W_bind]
  refine h.mono (fun a δ' h => ?_) fun _ _ h => h
  unfold KR2 at h
  split at h
  · show W (if _ then _ else _) L E
    rw [if_pos h.1]
    exact h.2
  · exact h.elim

/-! ### calls -/
def KAb (x : D) (Q : List Ar → Dv → Prop) : List Ar → Dv → Prop := fun l δ => Q (.d x :: l) δ
def KAc (fs : AF) (Q : List Ar → Dv → Prop) (E : EC) : D → Dv → Prop := fun x δ => W (fs δ) (KAb x Q) E
def KAi (i : Nat) (Q : List Ar → Dv → Prop) : List Ar → Dv → Prop := fun l δ => Q (.bor i :: l) δ
def ABo : Option Sl → Nat → AF → (List Ar → Dv → Prop) → EC → Dv → Prop
  | some (.d x), _, fs, Q, E, δ => W (fs δ) (KAb x Q) E
  | some (.own _), i, fs, Q, E, δ => W (fs δ) (KAi i Q) E
  | _, _, _, _, _, _ => False
def KP (as : List Ar) (δ : Dv) (Q : EV → Dv → Prop) : EV → Dv → Prop := fun z out => Q z (putB as out δ)
def KCl (fn : FnT) (Q : EV → Dv → Prop) (E : EC) : List Ar → Dv → Prop := fun as δ => (borIx as).Nodup ∧ W (fn (as.map (argSl δ))) (KP as δ Q) E
section
variable {E : EC} {δ : Dv} {i : Nat} {o : Ob} {x y : D} {Q : List Ar → Dv → Prop} {Z : EV → Dv → Prop} {fa : VF} {fs : AF} {fn : FnT} {as : List Ar} {z : EV} {out : List Sl}
theorem W_aNil : W (aNil δ) Q E = Q [] δ := rfl
theorem W_aCons : W (aCons fa fs δ) Q E = W (fa δ) (KAc fs Q E) E := by
  unfold aCons; rw [W_bind]; congr 1; funext a δ'; rw [W_bind]; rfl
theorem R_KAc : KAc fs Q E x δ = W (fs δ) (KAb x Q) E := rfl
theorem R_KAb : KAb x Q as δ = Q (.d x :: as) δ := rfl
theorem R_KAi : KAi i Q as δ = Q (.bor i :: as) δ := rfl
theorem W_aBor : W (aBor i fs δ) Q E = ABo δ[i]? i fs Q E δ := by
  unfold aBor
  cases h : δ[i]? with
  | none => rfl
  | some s =>
    cases s with
    | no => rfl
    | d x => show W ((fs δ).bind _) Q E = W (fs δ) (KAb x Q) E; rw [W_bind]; rfl
    | own o => show W ((fs δ).bind _) Q E = W (fs δ) (KAi i Q) E; rw [W_bind]; rfl
theorem R_ABd : ABo (some (.d x)) i fs Q E δ = W (fs δ) (KAb x Q) E := rfl
theorem R_ABo : ABo (some (.own o)) i fs Q E δ = W (fs δ) (KAi i Q) E := rfl
theorem W_fCall : W (fCall fn fs δ) Z E = W (fs δ) (KCl fn Z E) E := by
  unfold fCall; rw [W_bind]; congr 1; funext as δ'
  show W (if _ then _ else _) Z E = ((borIx as).Nodup ∧ W (fn (as.map (argSl δ'))) (KP as δ' Z) E)
  split
  · rename_i h
    rw [W_bind]
    exact propext ⟨fun z => ⟨h, z⟩, fun z => z.2⟩
  · rename_i h
    exact propext ⟨fun z => z.elim, fun z => h z.1⟩
theorem R_KCl : KCl fn Z E as δ = ((borIx as).Nodup ∧ W (fn (as.map (argSl δ))) (KP as δ Z) E) := rfl
theorem R_KP : KP as δ Z z out = Z z (putB as out δ) := rfl
theorem R_pb0 : putB [] out δ = δ := by cases out <;> rfl
theorem R_pbd {s : Sl} : putB (.d x :: as) (s :: out) δ = putB as out δ := rfl
theorem R_pbb {s : Sl} : putB (.bor i :: as) (s :: out) δ = (putB as out δ).set i (keepS s) := rfl
theorem keep_o : keepS (.own o) = .own o := rfl
theorem keep_d : keepS (.d x) = .no := rfl
theorem R_asd : argSl δ (.d x) = .d x := rfl
theorem R_asb : argSl δ (.bor i) = (δ[i]?).getD .no := rfl
theorem R_bi0 : borIx [] = [] := rfl
theorem R_bid : borIx (.d x :: as) = borIx as := rfl
theorem R_bib : borIx (.bor i :: as) = i :: borIx as := rfl
end
/-! ### a def's run -/
def RP (n : Nat) (Q : EV → Dv → Prop) : Out → Prop
  | .rt z δ => Q z (δ.take n)
  | .nx δ => Q (.d .non) (δ.take n)
  | _ => False
section
variable {E : EC} {n N : Nat} {g : SF} {args : List Sl} {Q : EV → Dv → Prop} {z : EV} {δ : Dv}
theorem W_run : W (runF n N g args) Q E = (args.length = n ∧ WS (g (args ++ List.replicate (N - n) .no)) (RP n Q) E) := by
  unfold runF
  split
  · rename_i h
    have e : W ((g (args ++ List.replicate (N - n) .no)).bind fun o => match o with
      | .rt z δ => .ok (z, δ.take n)
      | .nx δ => .ok (.d .non, δ.take n)
      | _ => .no) Q E = WS (g (args ++ List.replicate (N - n) .no)) (RP n Q) E := by
      cases g (args ++ List.replicate (N - n) .no) with
      | ok o => cases o <;> rfl
      | exc c fs => rfl
      | no => rfl
    refine Eq.trans e ?_
    exact propext ⟨fun z => ⟨h, z⟩, fun z => z.2⟩
  · rename_i h
    exact propext ⟨fun z => z.elim, fun z => h z.1⟩
theorem R_RPr : RP n Q (.rt z δ) = Q z (δ.take n) := rfl
theorem R_RPn : RP n Q (.nx δ) = Q (.d .non) (δ.take n) := rfl
end
/-! ### statements -/
def SQ (h : SF) (P : Out → Prop) (E : EC) : Out → Prop
  | .nx δ => WS (h δ) P E
  | .rt z δ => P (.rt z δ)
  | .bk δ => P (.bk δ)
  | .ct δ => P (.ct δ)
def KS (np i : Nat) (P : Out → Prop) : EV → Dv → Prop := fun z δ => P (.nx (δ.set i (slOf np i z)))
def KRt (P : Out → Prop) : EV → Dv → Prop := fun z δ => P (.rt z δ)
def KEx (P : Out → Prop) : EV → Dv → Prop := fun _ δ => P (.nx δ)
def SI (g h : SF) (P : Out → Prop) (E : EC) : Bool → Dv → Prop
  | true, δ => WS (g δ) P E
  | false, δ => WS (h δ) P E
def KFo (g : D → Dv → Option Dv) (body : SF) (P : Out → Prop) (E : EC) : List D → Dv → Prop := fun l δ => WS (forLo g body l δ) P E
def KPa (i j : Nat) (x : EV) (P : Out → Prop) : EV → Dv → Prop := fun y δ => P (.nx ((δ.set i x.sl).set j y.sl))
def KPar (i j : Nat) (fb : XF) (P : Out → Prop) (E : EC) : EV → Dv → Prop := fun x δ => W (fb δ) (KPa i j x P) E
def AsQ (o : Option Dv) (P : Out → Prop) : Prop := match o with
  | some δ => P (.nx δ)
  | none => False
def KAs (g : D → Dv → Option Dv) (P : Out → Prop) : D → Dv → Prop := fun x δ => AsQ (g x δ) P
def KRz (c f : Str) (E : EC) : D → Dv → Prop := fun x _ => E c [(f, x)]
def KSt (i k : Nat) (P : Out → Prop) : D → Dv → Prop
  | .tup (d :: ds), δ => ds.length ≤ 16000 ∧ P (.nx ((δ.set i (.d d)).set k (.d (.lst ds))))
  | _, _ => False
def SxB : Option Sl → Nat → D → D → (Out → Prop) → Dv → Prop
  | some (.own (.lst l)), i, x, .int n, P, δ => ∃ j, ixN l.length n = some j ∧ P (.nx (δ.set i (.own (.lst (l.set j x)))))
  | _, _, _, _, _, _ => False
def KSx2 (i : Nat) (x : D) (P : Out → Prop) : D → Dv → Prop := fun k δ => SxB δ[i]? i x k P δ
def SxA : Option Sl → Nat → D → VF → (Out → Prop) → EC → Dv → Prop
  | some (.own _), i, x, fi, P, E, δ => W (fi δ) (KSx2 i x P) E
  | _, _, _, _, _, _, _ => False
def KSx (i : Nat) (fi : VF) (P : Out → Prop) (E : EC) : D → Dv → Prop := fun x δ => SxA δ[i]? i x fi P E δ
def TyE (cs : List Cl) (δ : Dv) (P : Out → Prop) (E : EC) : EC := fun c fs => WS (cGo cs c fs δ) P E
section
variable {E : EC} {δ : Dv} {np i j : Nat} {o : Ob} {x y : D} {P : Out → Prop} {z : EV} {b : Bool} {f fa fb : XF} {c : BF} {g h : SF} {u v : VF} {fl : LF} {gg : D → Dv → Option Dv} {l : List D} {ds : List D} {n : Int} {cc ff : Str} {cs : List Cl}
theorem WS_nil : WS (sNil δ) P E = P (.nx δ) := rfl
theorem WS_seq : WS (sSeq g h δ) P E = WS (g δ) (SQ h P E) E := by
  unfold sSeq; rw [WS_bindS]; congr 1; funext o; cases o <;> rfl
theorem R_SQn : SQ h P E (.nx δ) = WS (h δ) P E := rfl
theorem R_SQr : SQ h P E (.rt z δ) = P (.rt z δ) := rfl
theorem R_SQb : SQ h P E (.bk δ) = P (.bk δ) := rfl
theorem R_SQc : SQ h P E (.ct δ) = P (.ct δ) := rfl
theorem WS_set : WS (sSet np i f δ) P E = W (f δ) (KS np i P) E := by unfold sSet; rw [WS_bind]; rfl
theorem R_KS : KS np i P z δ = P (.nx (δ.set i (slOf np i z))) := rfl
theorem slOf_lt (h : i < np) : slOf np i z = .d z.toD := by unfold slOf; rw [if_pos h]
theorem slOf_ge (h : ¬ i < np) : slOf np i z = z.sl := by unfold slOf; rw [if_neg h]
theorem WS_ret : WS (sRet f δ) P E = W (f δ) (KRt P) E := by unfold sRet; rw [WS_bind]; rfl
theorem R_KRt : KRt P z δ = P (.rt z δ) := rfl
theorem WS_expr : WS (sExpr f δ) P E = W (f δ) (KEx P) E := by unfold sExpr; rw [WS_bind]; rfl
theorem R_KEx : KEx P z δ = P (.nx δ) := rfl
theorem WS_if : WS (sIf c g h δ) P E = W (c δ) (SI g h P E) E := by
  unfold sIf; rw [WS_bind]; congr 1; funext a δ'; cases a <;> rfl
theorem R_SIt : SI g h P E true δ = WS (g δ) P E := rfl
theorem R_SIf : SI g h P E false δ = WS (h δ) P E := rfl
theorem SI_by (h1 : b = true → SI g h P E true δ) (h2 : b = false → SI g h P E false δ) : SI g h P E b δ := by
  cases b
  · exact h2 rfl
  · exact h1 rfl
theorem WS_for : WS (sFor fl gg g δ) P E = W (fl δ) (KFo gg g P E) E := by unfold sFor; rw [WS_bind]; rfl
theorem WS_par : WS (sPar i j fa fb δ) P E = W (fa δ) (KPar i j fb P E) E := by
  unfold sPar; rw [WS_bind]; congr 1; funext a δ'; rw [WS_bind]; rfl
theorem R_KPar : KPar i j fb P E z δ = W (fb δ) (KPa i j z P) E := rfl
theorem R_KPa {w : EV} : KPa i j w P z δ = P (.nx ((δ.set i w.sl).set j z.sl)) := rfl
theorem WS_asg : WS (sAsg u gg δ) P E = W (u δ) (KAs gg P) E := by
  unfold sAsg; rw [WS_bind]; congr 1; funext a δ'
  show WS ((Rs.of (gg a δ')).bind _) P E = AsQ (gg a δ') P
  cases gg a δ' <;> rfl
theorem R_KAs : KAs gg P x δ = AsQ (gg x δ) P := rfl
theorem AsQ_some : AsQ (some δ) P = P (.nx δ) := rfl
theorem R_gNm : gNm i x δ = some (δ.set i (.d x)) := rfl
theorem R_gTp {is : List Nat} : gTp is (.tup ds) δ = gSeq is ds δ := rfl
theorem R_gS0 : gSeq [] [] δ = some δ := rfl
theorem R_gS1 {is : List Nat} : gSeq (i :: is) (x :: ds) δ = gSeq is ds (δ.set i (.d x)) := rfl
theorem WS_rz : WS (sRz cc ff u δ) P E = W (u δ) (KRz cc ff E) E := by unfold sRz; rw [WS_bind]; rfl
theorem R_KRz : KRz cc ff E x δ = E cc [(ff, x)] := rfl
theorem WS_star : WS (sStar i j u δ) P E = W (u δ) (KSt i j P) E := by
  unfold sStar; rw [WS_bind]; congr 1; funext a δ'
  cases a with
  | tup l =>
    cases l with
    | nil => rfl
    | cons d ds =>
      show WS (if _ then _ else _) P E = (ds.length ≤ 16000 ∧ P (.nx ((δ'.set i (.d d)).set j (.d (.lst ds)))))
      split
      · rename_i h; exact propext ⟨fun z => ⟨h, z⟩, fun z => z.2⟩
      · rename_i h; exact propext ⟨fun z => z.elim, fun z => h z.1⟩
  | _ => rfl
theorem R_KSt : KSt i j P (.tup (x :: ds)) δ = (ds.length ≤ 16000 ∧ P (.nx ((δ.set i (.d x)).set j (.d (.lst ds))))) := rfl
theorem WS_setIx : WS (sSetIx i u v δ) P E = W (u δ) (KSx i v P E) E := by
  unfold sSetIx; rw [WS_bind]; congr 1; funext a δ'
  show _ = SxA δ'[i]? i a v P E δ'
  cases h : δ'[i]? with
  | none => simp only [h]; rfl
  | some s =>
    simp only [h]
    cases s with
    | no => rfl
    | d x => rfl
    | own o =>
      show WS ((v δ').bind _) P E = W (v δ') (KSx2 i a P) E
      rw [WS_bind]; congr 1; funext k δ2
      show _ = SxB δ2[i]? i a k P δ2
      cases h2 : δ2[i]? with
      | none => simp only [h2]; rfl
      | some s2 =>
        simp only [h2]
        cases s2 with
        | no => rfl
        | d x => rfl
        | own o2 =>
          cases o2 with
          | dct _ => rfl
          | lst l =>
            cases k with
            | int n =>
              show WS (match ixN l.length n with | some j => _ | none => _) P E = ∃ j, ixN l.length n = some j ∧ P (.nx (δ2.set i (.own (.lst (l.set j a)))))
              cases ixN l.length n with
              | none => exact propext ⟨fun z => z.elim, fun ⟨j, z, _⟩ => by cases z⟩
              | some j => exact propext ⟨fun z => ⟨j, rfl, z⟩, fun ⟨j', z, w⟩ => by cases z; exact w⟩
            | _ => rfl
theorem R_KSx : KSx i v P E x δ = SxA δ[i]? i x v P E δ := rfl
theorem R_SxA : SxA (some (.own o)) i x v P E δ = W (v δ) (KSx2 i x P) E := rfl
theorem R_KSx2 : KSx2 i x P y δ = SxB δ[i]? i x y P δ := rfl
theorem R_SxB : SxB (some (.own (.lst l))) i x (.int n) P δ = ∃ j, ixN l.length n = some j ∧ P (.nx (δ.set i (.own (.lst (l.set j x))))) := rfl
theorem WS_try : WS (sTry g cs δ) P E = WS (g δ) P (TyE cs δ P E) := by
  unfold sTry
  cases h : g δ <;> rfl
theorem R_TyE {fs : List (Str × D)} : TyE cs δ P E cc fs = WS (cGo cs cc fs δ) P E := rfl
/-- the clause that takes it: what comes out is the same wherever it is -/
theorem cgo_yes {c : Cl} {fs : List (Str × D)} {o' : Out} (hy : cc ∈ c.yes) (h : ∀ a d, WS (c.g a d ((hush δ).set c.i (.d (.cau a d fs)))) (fun o => finO c.i (.ok o) = .ok o') noE) (hp : P o') : WS (cGo (c :: cs) cc fs δ) P E := by
  unfold cGo
  rw [if_pos hy]
  have e : anyAD (fun a d => finO c.i (c.g a d ((hush δ).set c.i (.d (.cau a d fs))))) = .ok o' := anyAD_eq fun a d => by
    have := h a d
    revert this
    cases c.g a d ((hush δ).set c.i (.d (.cau a d fs))) with
    | ok o => exact fun h => h
    | exc _ _ => exact fun h => h.elim
    | no => exact fun h => h.elim
  show WS (anyAD fun a d => finO c.i (c.g a d ((hush δ).set c.i (.d (.cau a d fs))))) P E
  rw [e]
  exact hp
theorem cgo_no {c : Cl} {fs : List (Str × D)} (hy : cc ∉ c.yes) (hn : cc ∈ c.nos) (h : WS (cGo cs cc fs δ) P E) : WS (cGo (c :: cs) cc fs δ) P E := by
  unfold cGo
  rw [if_neg hy, if_pos hn]
  exact h
end
/-! ### loops -/
def LoopP (J : Dv → Prop) (P : Out → Prop) : Out → Prop
  | .nx δ => J δ
  | .ct δ => J δ
  | .bk δ => P (.nx δ)
  | .rt z δ => P (.rt z δ)
theorem R_LPn {J : Dv → Prop} {P : Out → Prop} {δ : Dv} : LoopP J P (.nx δ) = J δ := rfl
theorem R_LPc {J : Dv → Prop} {P : Out → Prop} {δ : Dv} : LoopP J P (.ct δ) = J δ := rfl
theorem R_LPb {J : Dv → Prop} {P : Out → Prop} {δ : Dv} : LoopP J P (.bk δ) = P (.nx δ) := rfl
theorem R_LPr {J : Dv → Prop} {P : Out → Prop} {z : EV} {δ : Dv} : LoopP J P (.rt z δ) = P (.rt z δ) := rfl
theorem for_inv {gg : D → Dv → Option Dv} {body : SF} {P : Out → Prop} {E : EC} (I : List D → Dv → Prop) :
    ∀ (l : List D) (δ : Dv), I l δ → (∀ x l δ, I (x :: l) δ → ∃ δ1, gg x δ = some δ1 ∧ WS (body δ1) (LoopP (I l) P) E) → (∀ δ, I [] δ → P (.nx δ)) → WS (forLo gg body l δ) P E
  | [], δ, h, _, e => e δ h
  | x :: l, δ, h, s, e => by
    obtain ⟨δ1, h1, h2⟩ := s x l δ h
    unfold forLo ofG
    rw [h1, WS_bindS]
    refine WS.mono h2 (fun o h => ?_) fun _ _ h => h
    cases o with
    | nx δ => exact for_inv I l δ h s e
    | ct δ => exact for_inv I l δ h s e
    | bk δ => exact h
    | rt z δ => exact h
theorem KFo_inv {gg : D → Dv → Option Dv} {body : SF} {P : Out → Prop} {E : EC} (I : List D → Dv → Prop) {l : List D} {δ : Dv} (h : I l δ) (s : ∀ x l δ, I (x :: l) δ → ∃ δ1, gg x δ = some δ1 ∧ WS (body δ1) (LoopP (I l) P) E) (e : ∀ δ, I [] δ → P (.nx δ)) : KFo gg body P E l δ := for_inv I l δ h s e
/-- over a name -/
theorem KFo_nm {i : Nat} {body : SF} {P : Out → Prop} {E : EC} (I : List D → Dv → Prop) {l : List D} {δ : Dv} (h : I l δ) (s : ∀ x l δ, I (x :: l) δ → WS (body (δ.set i (.d x))) (LoopP (I l) P) E) (e : ∀ δ, I [] δ → P (.nx δ)) : KFo (gNm i) body P E l δ :=
  for_inv I l δ h (fun x l δ h => ⟨_, rfl, s x l δ h⟩) e
/-! comprehensions -/
def KLt (J : List D → Dv → Prop) (vs : List Nat) : EV → Dv → Prop := fun z δ => J [z.toD] (wipeD δ vs)
def KLb (f : XF) (vs : List Nat) (J : List D → Dv → Prop) : Bool → Dv → Prop
  | true, δ => W (f δ) (KLt J vs) noE
  | false, δ => J [] (wipeD δ vs)
def KLc (g : D → Dv → Option Dv) (c : BF) (f : XF) (vs : List Nat) (Q : EV → Dv → Prop) : List D → Dv → Prop := fun l δ => l.length ≤ 100000 ∧ W (lcLo g c f vs l (wipeD δ vs)) (fun b δ' => Q (.own (.lst b)) (backD vs δ δ')) noE
section
variable {g : D → Dv → Option Dv} {c : BF} {f : XF} {vs : List Nat} {Q : EV → Dv → Prop} {E : EC} {it : LF} {δ : Dv} {J : List D → Dv → Prop} {z : EV}
theorem lc_noexc : ∀ (l : List D) (δ : Dv) (c' : Str) (fs : List (Str × D)), lcLo g c f vs l δ ≠ .exc c' fs
  | [], δ, c', fs, z => by cases z
  | x :: l, δ, c', fs, z => by
    unfold lcLo at z
    cases hg : g x δ with
    | none => rw [hg] at z; cases z
    | some δ1 =>
      rw [hg] at z
      dsimp only [Rs.of_some, Rs.bind_ok] at z
      split at z
      · split at z
        · rename_i z' δ3 hz
          cases h2 : lcLo g c f vs l (wipeD δ3 vs) with
          | ok a => rw [h2] at z; cases z
          | no => rw [h2] at z; cases z
          | exc c2 f2 => exact lc_noexc _ _ _ _ h2
        · cases z
      · exact lc_noexc _ _ _ _ z
      · cases z
theorem W_fLc (h : W (it δ) (KLc g c f vs Q) E) : W (fLc it g c f vs δ) Q E := by
  unfold fLc
  rw [W_bind]
  refine h.mono (fun l δ h => ?_) fun _ _ h => h
  obtain ⟨h1, h2⟩ := h
  show W (if _ then _ else _) Q E
  rw [if_pos h1, W_bind]
  exact h2.to fun _ _ h => h
theorem W_fLcE : W (fLc it g c f vs δ) Q E = W (it δ) (KLc g c f vs Q) E := by
  unfold fLc
  rw [W_bind]
  congr 1; funext l δ'
  show W (if l.length ≤ 100000 then _ else _) Q E = (l.length ≤ 100000 ∧ W (lcLo g c f vs l (wipeD δ' vs)) (fun b δ2 => Q (.own (.lst b)) (backD vs δ' δ2)) noE)
  split
  · rename_i h
    rw [W_bind]
    cases hr : lcLo g c f vs l (wipeD δ' vs) with
    | ok a => exact propext ⟨fun z => ⟨h, z⟩, fun z => z.2⟩
    | exc c' fs => exact absurd hr (lc_noexc _ _ _ _)
    | no => exact propext ⟨fun z => ⟨h, z⟩, fun z => z.2⟩
  · rename_i h
    exact propext ⟨fun z => z.elim, fun z => h z.1⟩
theorem R_KLbt : KLb f vs J true δ = W (f δ) (KLt J vs) noE := rfl
theorem R_KLbf : KLb f vs J false δ = J [] (wipeD δ vs) := rfl
theorem KLb_by {b : Bool} (h1 : b = true → KLb f vs J true δ) (h2 : b = false → KLb f vs J false δ) : KLb f vs J b δ := by
  cases b
  · exact h2 rfl
  · exact h1 rfl
theorem R_KLt : KLt J vs z δ = J [z.toD] (wipeD δ vs) := rfl
theorem lc_go {R : List D → Dv → Prop} (I : List D → List D → Dv → Prop) : ∀ (l zs : List D) (δ : Dv), I l zs δ →
    (∀ x l zs δ, I (x :: l) zs δ → ∃ δ1, g x δ = some δ1 ∧ W (c δ1) (KLb f vs fun z δ => I l (zs ++ z) δ) noE) → (∀ zs δ, I [] zs δ → R zs δ) → W (lcLo g c f vs l δ) (fun b δ' => R (zs ++ b) δ') noE
  | [], zs, δ, h, _, e => by
    show R (zs ++ []) δ
    rw [List.append_nil]
    exact e _ _ h
  | x :: l, zs, δ, h, s, e => by
    obtain ⟨δ1, h1, h2⟩ := s x l zs δ h
    unfold lcLo
    rw [h1]
    dsimp only [Rs.of_some, Rs.bind_ok]
    obtain ⟨b, δ2, h3, h4⟩ := h2.get
    rw [h3]
    cases b with
    | false =>
      have := lc_go (R := R) I l (zs ++ []) _ h4 s e
      rw [List.append_nil] at this
      exact this
    | true =>
      obtain ⟨z, δ3, h5, h6⟩ := (show W (f δ2) (KLt _ vs) noE from h4).get
      dsimp only
      rw [h5]
      dsimp only
      have := lc_go (R := R) I l (zs ++ [z.toD]) _ h6 s e
      rw [W_bind]
      refine this.mono (fun b δ' h => ?_) fun _ _ h => h
      show R (zs ++ z.toD :: b) δ'
      rw [List.append_assoc] at h
      exact h
/-- an invariant: what is left, what is made, the names -/
theorem KLc_inv (I : List D → List D → Dv → Prop) {l : List D} (hl : l.length ≤ 100000) (h : I l [] (wipeD δ vs)) (s : ∀ x l zs δ, I (x :: l) zs δ → ∃ δ1, g x δ = some δ1 ∧ W (c δ1) (KLb f vs fun z δ => I l (zs ++ z) δ) noE)
    (e : ∀ zs δ', I [] zs δ' → Q (.own (.lst zs)) (backD vs δ δ')) : KLc g c f vs Q l δ := by
  refine ⟨hl, ?_⟩
  have := lc_go (R := fun zs δ' => Q (.own (.lst zs)) (backD vs δ δ')) I l [] (wipeD δ vs) h s e
  exact this
theorem W_fYes {Q : Bool → Dv → Prop} : W (fYes δ) Q E = Q true δ := rfl
end
theorem set_no' {δ : Dv} {i : Nat} (h : δ[i]? = some .no) : δ.set i .no = δ := by
  apply List.ext_getElem?
  intro j
  by_cases hj : j = i
  · subst hj
    rw [List.getElem?_set_self (List.getElem?_eq_some_iff.mp h).1, h]
  · rw [List.getElem?_set_ne (Ne.symm hj)]
def KPu (i : Nat) (δ : Dv) (h : D) : EV → Dv → Prop := fun z δ' => z.toD = h ∧ δ' = δ
def KPb (i : Nat) (f : XF) (δ : Dv) (p : Bool) (h : D) : Bool → Dv → Prop := fun b δ' => b = p ∧ δ' = δ ∧ (p = true → W (f δ) (KPu i δ h) noE)
/-- each item by itself -/
theorem KLc_pure {i : Nat} {c : BF} {f : XF} {Q : EV → Dv → Prop} {δ : Dv} {l : List D} (p : D → Bool) (h : D → D) (hl : l.length ≤ 100000) (hi : δ[i]? = some .no)
    (hx : ∀ x ∈ l, W (c (δ.set i (.d x))) (fun b δ' => b = p x ∧ δ' = δ.set i (.d x)) noE ∧ (p x = true → W (f (δ.set i (.d x))) (fun z δ' => z.toD = h x ∧ δ' = δ.set i (.d x)) noE)) (q : Q (.own (.lst ((l.filter p).map h))) δ) : KLc (gNm i) c f [i] Q l δ := by
  have h0 := set_no' hi
  refine KLc_inv (fun l' zs δ' => δ' = δ ∧ ∃ pre, pre ++ l' = l ∧ zs = (pre.filter p).map h) hl ⟨h0, [], rfl, rfl⟩ ?_ ?_
  · rintro x l' zs δ' ⟨rfl, pre, e1, rfl⟩
    refine ⟨_, rfl, ?_⟩
    obtain ⟨h1, h2⟩ := hx x (by rw [← e1]; simp)
    have e2 : (pre ++ [x]) ++ l' = l := by rw [← e1]; simp
    have w : wipeD (δ'.set i (.d x)) [i] = δ' := by
      show (δ'.set i (.d x)).set i .no = δ'
      rw [List.set_set]; exact h0
    refine h1.mono ?_ fun _ _ h => h
    rintro b δ2 ⟨rfl, rfl⟩
    refine KLb_by (fun hb => ?_) fun hb => ?_
    · rw [R_KLbt]
      refine (h2 hb).mono ?_ fun _ _ h => h
      rintro z δ3 ⟨hz, rfl⟩
      rw [R_KLt]
      exact ⟨w, pre ++ [x], e2, by rw [hz]; simp [hb]⟩
    · rw [R_KLbf]
      exact ⟨w, pre ++ [x], e2, by simp [hb]⟩
  · rintro zs δ' ⟨rfl, pre, e1, rfl⟩
    rw [List.append_nil] at e1
    subst e1
    have b : backD [i] δ' δ' = δ' := by
      show δ'.set i _ = δ'
      rw [hi]
      exact h0
    rw [b]
    exact q
end FD
end
section
set_option Elab.async false
set_option linter.all false
set_option maxRecDepth 100000
/-! S2: what operations give. -/
namespace FD
open PySem L2

theorem ite_and {α : Type} {c : Prop} [Decidable c] {z : α} {Q : α → Dv → Prop} {δ : Dv} : VQ (if c then some z else none) Q δ = (c ∧ Q z δ) := by
  split
  · rename_i h; exact propext ⟨fun z => ⟨h, z⟩, fun z => z.2⟩
  · rename_i h; exact propext ⟨fun z => z.elim, fun z => h z.1⟩
def KCh (Q : EV → Dv → Prop) : Nat → Dv → Prop := fun c δ => Q (.d (.str ⟨#[c]⟩)) δ
def cutS (z : Str) (lo hi : Option Int) : Str := ⟨(cutD z.cps.toList lo hi).toArray⟩
structure Bo where
  a : Int
  b : Int
  c : Int
def bx (q : Bo) : Sl := .own (.lst [.int q.a, .int q.b, .int q.c])
def Bok (n : Nat) (q : Bo) : Prop := 0 ≤ q.a ∧ 0 ≤ q.b ∧ q.b ≤ 2147483648 ∧ 0 ≤ q.c ∧ q.c ≤ n
theorem Bok.mono {n m : Nat} {q : Bo} (h : Bok n q) (k : n ≤ m) : Bok m q := ⟨h.1, h.2.1, h.2.2.1, h.2.2.2.1, by have := h.2.2.2.2; omega⟩
section
variable {Q : EV → Dv → Prop} {R : D → Dv → Prop} {E : EC} {δ : Dv} {i j : Int} {a b : Str} {l m : List D} {x y : D} {c d : Nat} {p : Bool} {q : Bo} {lo hi : Option Int}
theorem q_bxA {k : Nat} {fs : AF} {Q : List Ar → Dv → Prop} : ABo (some (bx q)) k fs Q E δ = W (fs δ) (KAi k Q) E := rfl
theorem q_bxK : keepS (bx q) = bx q := rfl
theorem q_addI : VQ (vAdd (.int i) (.int j)) Q δ = Q (.d (.int (i + j))) δ := rfl
theorem q_addS : VQ (vAdd (.str a) (.str b)) Q δ = (a.length + b.length ≤ lim ∧ Q (.d (.str (a ++ b))) δ) := ite_and
theorem q_addL : VQ (vAdd (.lst l) (.lst m)) Q δ = (l.length + m.length ≤ lim ∧ Q (.own (.lst (l ++ m))) δ) := ite_and
theorem q_addT : VQ (vAdd (.tup l) (.tup m)) Q δ = (l.length + m.length ≤ lim ∧ Q (.d (.tup (l ++ m))) δ) := ite_and
theorem q_subI : VQ (vSub (.int i) (.int j)) Q δ = Q (.d (.int (i - j))) δ := rfl
theorem q_mulI : VQ (vMul (.int i) (.int j)) Q δ = (((-18446744073709551616 < i ∧ i < 18446744073709551616) ∨ (-18446744073709551616 < j ∧ j < 18446744073709551616)) ∧ Q (.d (.int (i * j))) δ) := ite_and
theorem q_mulS : VQ (vMul (.str a) (.int j)) Q δ = ((j ≤ 100000 ∧ -100000 ≤ j ∧ a.length * j.toNat ≤ lim) ∧ Q (.d (.str (repS a j))) δ) := ite_and
theorem q_mulL : VQ (vMul (.lst l) (.int j)) Q δ = ((j ≤ 100000 ∧ -100000 ≤ j ∧ l.length * j.toNat ≤ lim) ∧ Q (.own (.lst (List.replicate j.toNat l).flatten)) δ) := ite_and
theorem q_mod : VQ (vMod (.int i) (.int j)) Q δ = (0 < j ∧ Q (.d (.int (i % j))) δ) := ite_and
theorem q_div : VQ (vDiv (.int i) (.int j)) Q δ = ((0 < j ∧ j < 1000000000000000000000000000000000000000) ∧ Q (.d (.int (i / j))) δ) := ite_and
theorem q_pow : VQ (vPow (.int i) (.int j)) Q δ = (((0 ≤ j ∧ j ≤ 1000) ∧ (-18446744073709551616 < i ∧ i < 18446744073709551616)) ∧ Q (.d (.int (i ^ j.toNat))) δ) := ite_and
theorem q_neg : VQ (vNeg (.int i)) Q δ = Q (.d (.int (-i))) δ := rfl
theorem q_not : VQ (vNot (.bl p)) Q δ = Q (.d (.bl (!p))) δ := rfl
theorem q_lt : VQ (ordV ltF ltG (.int i) (.int j)) Q δ = Q (.d (.bl (decide (i < j)))) δ := rfl
theorem q_le : VQ (ordV leF leG (.int i) (.int j)) Q δ = Q (.d (.bl (decide (i ≤ j)))) δ := rfl
theorem q_gt : VQ (ordV gtF gtG (.int i) (.int j)) Q δ = Q (.d (.bl (decide (j < i)))) δ := rfl
theorem q_ge : VQ (ordV geF geG (.int i) (.int j)) Q δ = Q (.d (.bl (decide (j ≤ i)))) δ := rfl
theorem q_eqI : VQ (vEq (.int i) (.int j)) Q δ = Q (.d (.bl (decide (i = j)))) δ := rfl
theorem q_neI : VQ (vNe (.int i) (.int j)) Q δ = Q (.d (.bl (!decide (i = j)))) δ := rfl
theorem q_eqS : VQ (vEq (.str a) (.str b)) Q δ = Q (.d (.bl (decide (a = b)))) δ := rfl
theorem q_neS : VQ (vNe (.str a) (.str b)) Q δ = Q (.d (.bl (!decide (a = b)))) δ := rfl
theorem q_eqB {p' : Bool} : VQ (vEq (.bl p) (.bl p')) Q δ = Q (.d (.bl (decide (p = p')))) δ := rfl
theorem q_neB {p' : Bool} : VQ (vNe (.bl p) (.bl p')) Q δ = Q (.d (.bl (!decide (p = p')))) δ := rfl
theorem q_eqTn : VQ (vEq (.tup l) (.tup [])) Q δ = Q (.d (.bl l.isEmpty)) δ := by cases l <;> rfl
theorem q_eqLn : VQ (vEq (.lst l) (.lst [])) Q δ = Q (.d (.bl l.isEmpty)) δ := by
  cases l with
  | nil => rfl
  | cons x l => simp [vEq, eqX, VQ]
theorem q_inSg : VQ (vIn (.str ⟨#[c]⟩) (.str a)) Q δ = Q (.d (.bl (decide (c ∈ a.cps.toList)))) δ := rfl
theorem q_ninSg : VQ (vNin (.str ⟨#[c]⟩) (.str a)) Q δ = Q (.d (.bl (!decide (c ∈ a.cps.toList)))) δ := rfl
theorem q_ixL : VQ (vIx (.lst l) (.int i)) Q δ = VQ (atI l i) (KX Q) δ := by
  show VQ ((atI l i).map EV.d) Q δ = _
  cases atI l i <;> rfl
theorem q_ixT : VQ (vIx (.tup l) (.int i)) Q δ = VQ (atI l i) (KX Q) δ := by
  show VQ ((atI l i).map EV.d) Q δ = _
  cases atI l i <;> rfl
theorem q_ixR : VQ (vIx (.scr l) (.int i)) Q δ = VQ (atI l i) (KX Q) δ := by
  show VQ ((atI l i).map EV.d) Q δ = _
  cases atI l i <;> rfl
theorem q_ixS : VQ (vIx (.str a) (.int i)) Q δ = (a.length ≤ lim ∧ VQ (atI a.cps.toList i) (KCh Q) δ) := by
  show VQ (if a.length ≤ lim then (atI a.cps.toList i).map fun c => EV.d (.str ⟨#[c]⟩) else none) Q δ = _
  split
  · rename_i h
    cases atI a.cps.toList i with
    | none => exact propext ⟨fun z => z.elim, fun z => z.2.elim⟩
    | some c => exact propext ⟨fun z => ⟨h, z⟩, fun z => z.2⟩
  · rename_i h; exact propext ⟨fun z => z.elim, fun z => h z.1⟩
theorem R_KCh : KCh Q c δ = Q (.d (.str ⟨#[c]⟩)) δ := rfl
theorem at_any {α : Type} {l : List α} {R : α → Dv → Prop} (h0 : 0 ≤ i) (h1 : i < l.length) (h : ∀ x, x ∈ l → atI l i = some x → R x δ) : VQ (atI l i) R δ := by
  have h2 : i.toNat < l.length := by omega
  have e : atI l i = some l[i.toNat] := by
    unfold atI ixN
    rw [if_pos h0, if_pos h1]
    simp [h2]
  rw [e]
  exact h _ (List.getElem_mem h2) e
theorem at_eq {α : Type} {l : List α} {R : α → Dv → Prop} {x : α} (h0 : 0 ≤ i) (h1 : l[i.toNat]? = some x) (h : R x δ) : VQ (atI l i) R δ := by
  have h2 := (List.getElem?_eq_some_iff.mp h1).1
  have e : atI l i = some x := by
    unfold atI ixN
    rw [if_pos h0, if_pos (by omega)]
    simp [h1]
  rw [e]
  exact h
theorem q_at0 {α : Type} {l : List α} {x : α} {R : α → Dv → Prop} : VQ (atI (x :: l) 0) R δ = R x δ := by
  have e : atI (x :: l) 0 = some x := by
    unfold atI ixN
    simp
  rw [e]; rfl
theorem q_at1 {α : Type} {l : List α} {x y : α} {R : α → Dv → Prop} : VQ (atI (x :: y :: l) 1) R δ = R y δ := by
  have e : atI (x :: y :: l) 1 = some y := by
    unfold atI ixN
    have : (1 : Int) < (l.length : Int) + 1 + 1 := by omega
    simp [this]
  rw [e]; rfl
theorem q_at2 {α : Type} {l : List α} {x y z : α} {R : α → Dv → Prop} : VQ (atI (x :: y :: z :: l) 2) R δ = R z δ := by
  have e : atI (x :: y :: z :: l) 2 = some z := by
    unfold atI ixN
    have : (2 : Int) < (l.length : Int) + 1 + 1 + 1 := by omega
    simp [this]
  rw [e]; rfl
theorem q_lenS : VQ (vLen [.str a]) R δ = (a.length ≤ lim ∧ R (.int a.length) δ) := by
  unfold vLen lenD
  dsimp only
  split
  · rename_i h; exact propext ⟨fun z => ⟨h, z⟩, fun z => z.2⟩
  · rename_i h; exact propext ⟨fun z => z.elim, fun z => h z.1⟩
theorem q_lenT : VQ (vLen [.tup l]) R δ = R (.int l.length) δ := rfl
theorem q_lenL : VQ (vLen [.lst l]) R δ = R (.int l.length) δ := rfl
theorem q_lenR : VQ (vLen [.scr l]) R δ = R (.int l.length) δ := rfl
theorem q_max2 : VQ (vMax2 [.int i, .int j]) R δ = R (.int (if j > i then j else i)) δ := rfl
theorem q_min2 : VQ (vMin2 [.int i, .int j]) R δ = R (.int (if j < i then j else i)) δ := rfl
theorem q_min2E : VQ ((vMin2 [.int i, .int j]).map EV.d) Q δ = Q (.d (.int (if j < i then j else i))) δ := rfl
theorem q_max2E : VQ ((vMax2 [.int i, .int j]).map EV.d) Q δ = Q (.d (.int (if j > i then j else i))) δ := rfl
theorem q_abs : VQ (vAbs [.int i]) R δ = R (.int (if i < 0 then -i else i)) δ := rfl
theorem q_intI : VQ (vInt [.int i]) R δ = R (.int i) δ := rfl
theorem q_intB : VQ (vInt [.bl p]) R δ = R (.int (if p then 1 else 0)) δ := rfl
theorem q_strS : VQ (vStr [.str a]) R δ = R (.str a) δ := rfl
theorem q_ordc : VQ (vOrd [.str ⟨#[c]⟩]) R δ = R (.int c) δ := rfl
theorem q_tup : VQ (vTup l) Q δ = (l.length ≤ 1000 ∧ Q (.d (.tup l)) δ) := ite_and
theorem q_lst : VQ (vLst l) Q δ = (l.length ≤ 1000 ∧ Q (.own (.lst l)) δ) := ite_and
theorem q_listT : VQ (vList [.tup l]) Q δ = Q (.own (.lst l)) δ := rfl
theorem q_listL : VQ (vList [.lst l]) Q δ = Q (.own (.lst l)) δ := rfl
theorem q_tupT : VQ (vTuple [.tup l]) Q δ = Q (.d (.tup l)) δ := rfl
theorem q_tupL : VQ (vTuple [.lst l]) Q δ = Q (.d (.tup l)) δ := rfl
theorem q_slS : VQ (vSl (.str a) lo hi) Q δ = (a.length ≤ lim ∧ Q (.d (.str (cutS a lo hi))) δ) := ite_and
theorem q_slL : VQ (vSl (.lst l) lo hi) Q δ = Q (.own (.lst (cutD l lo hi))) δ := rfl
theorem q_slR : VQ (vSl (.scr l) lo hi) Q δ = Q (.own (.lst (cutD l lo hi))) δ := rfl
theorem q_slT : VQ (vSl (.tup l) lo hi) Q δ = Q (.d (.tup (cutD l lo hi))) δ := rfl
theorem q_revT : VQ (vRevT (.tup l)) Q δ = Q (.d (.tup l.reverse)) δ := rfl
theorem q_dct0 : W (fDct0 δ) Q E = Q (.own (.dct [])) δ := rfl
theorem q_mkv {nm : Str} : VQ (vMkv nm [x]) Q δ = Q (.d (.exc nm [x])) δ := rfl
theorem q_app : VQ (vAppend l [x]) (MtC 0 R) δ = (l.length < lim ∧ R .non (δ.set 0 (.own (.lst (l ++ [x]))))) := by
  exact ite_and
theorem q_app' {k : Nat} : VQ (vAppend l [x]) (MtC k R) δ = (l.length < lim ∧ R .non (δ.set k (.own (.lst (l ++ [x]))))) := ite_and
theorem W_isT2 {ns : List String} {fa : VF} : W (fIsT2 ns fa δ) R E = W (fa δ) (fun x δ => VQ (vIsT2 ns x) R δ) E := by
  unfold fIsT2; rw [W_bind]; congr 1; funext a δ'
  show W ((Rs.of (vIsT2 ns a)).bind _) R E = VQ (vIsT2 ns a) R δ'
  cases vIsT2 ns a <;> rfl
theorem isN_n : isNonD .non = true := rfl
theorem isN_b : isNonD (.bl p) = false := rfl
theorem isN_i : isNonD (.int i) = false := rfl
theorem isN_s : isNonD (.str a) = false := rfl
theorem isN_t : isNonD (.tup l) = false := rfl
theorem isN_l : isNonD (.lst l) = false := rfl
end
/-- a comprehension that goes on with a state: how many, each made so -/
theorem KLc_sts {σ : Type} (S : σ → Dv) (Iv : Nat → σ → Prop) (Z : D → Prop) {i : Nat} {f : XF} {Q : EV → Dv → Prop} {l : List D} {δ : Dv} (s0 : σ) (hl : l.length ≤ 100000) (h0 : wipeD δ [i] = S s0) (hI : Iv 0 s0)
    (hx : ∀ x, x ∈ l → ∀ k s, k < l.length → Iv k s → W (f ((S s).set i (.d x))) (fun z δ' => Z z.toD ∧ ∃ s', wipeD δ' [i] = S s' ∧ Iv (k + 1) s') noE)
    (q : ∀ zs s, zs.length = l.length → (∀ z, z ∈ zs → Z z) → Iv l.length s → Q (.own (.lst zs)) (backD [i] δ (S s))) : KLc (gNm i) fYes f [i] Q l δ := by
  refine KLc_inv (fun l' zs δ' => ∃ s, δ' = S s ∧ Iv zs.length s ∧ zs.length + l'.length = l.length ∧ (∀ x, x ∈ l' → x ∈ l) ∧ ∀ z, z ∈ zs → Z z) hl ⟨s0, h0, hI, by simp, fun _ h => h, by simp⟩ ?_ ?_
  · rintro x l' zs δ' ⟨s, rfl, h1, h2, h3, h4⟩
    refine ⟨_, rfl, ?_⟩
    show KLb f [i] _ true _
    rw [R_KLbt]
    rw [List.length_cons] at h2
    refine (hx x (h3 x (List.mem_cons_self ..)) zs.length s (by omega) h1).mono ?_ fun _ _ h => h
    rintro z δ2 ⟨hz, s', e1, h5⟩
    rw [R_KLt]
    refine ⟨s', e1, by rw [List.length_append]; exact h5, by rw [List.length_append]; simp only [List.length_cons, List.length_nil]; omega, fun y hy => h3 y (List.mem_cons_of_mem _ hy), fun y hy => ?_⟩
    rcases List.mem_append.mp hy with hy | hy
    · exact h4 y hy
    · rw [List.mem_singleton.mp hy]; exact hz
  · rintro zs δ' ⟨s, rfl, h1, h2, _, h4⟩
    rw [List.length_nil, Nat.add_zero] at h2
    exact q zs s h2 h4 (by rw [← h2]; exact h1)
/-- .. that changes nothing -/
theorem KLc_each (Z : D → Prop) {i : Nat} {f : XF} {Q : EV → Dv → Prop} {l : List D} {δ : Dv} (hl : l.length ≤ 100000) (hi : δ[i]? = some .no) (hx : ∀ x, x ∈ l → W (f (δ.set i (.d x))) (fun z δ' => Z z.toD ∧ δ' = δ.set i (.d x)) noE)
    (q : ∀ zs, zs.length = l.length → (∀ z, z ∈ zs → Z z) → Q (.own (.lst zs)) δ) : KLc (gNm i) fYes f [i] Q l δ := by
  have h0 := set_no' hi
  refine KLc_sts (fun _ : Unit => δ) (fun _ _ => True) Z () hl h0 trivial (fun x hx' k s _ _ => ?_) fun zs s h1 h2 _ => ?_
  · refine (hx x hx').mono ?_ fun _ _ h => h
    rintro z δ' ⟨hz, rfl⟩
    refine ⟨hz, (), ?_, trivial⟩
    show (δ.set i (.d x)).set i .no = δ
    rw [List.set_set]; exact h0
  · have b : backD [i] δ δ = δ := by
      show δ.set i _ = δ
      rw [hi]
      exact h0
    rw [b]
    exact q zs h1 h2
/-- a loop over numbers or items, with a state -/
theorem KFo_sts {σ : Type} (S : σ → Dv) (Iv : Nat → σ → Prop) {i : Nat} {body : SF} {P : Out → Prop} {E : EC} {l : List D} {δ : Dv} (s0 : σ) (h0 : δ = S s0) (hI : Iv 0 s0)
    (hx : ∀ x k s, l[k]? = some x → Iv k s → WS (body ((S s).set i (.d x))) (LoopP (fun δ' => ∃ s', δ' = S s' ∧ Iv (k + 1) s') P) E) (e : ∀ s, Iv l.length s → P (.nx (S s))) : KFo (gNm i) body P E l δ := by
  refine KFo_nm (fun l' δ' => ∃ pre s, pre ++ l' = l ∧ δ' = S s ∧ Iv pre.length s) ⟨[], s0, rfl, h0, hI⟩ ?_ ?_
  · rintro x l' δ' ⟨pre, s, e1, rfl, h1⟩
    refine (hx x pre.length s (by rw [← e1]; simp) h1).mono (fun o ho => ?_) fun _ _ h => h
    have e2 : (pre ++ [x]) ++ l' = l := by rw [← e1]; simp
    cases o with
    | nx δ2 => obtain ⟨s', e3, h2⟩ := ho; exact ⟨pre ++ [x], s', e2, e3, by rw [List.length_append]; exact h2⟩
    | ct δ2 => obtain ⟨s', e3, h2⟩ := ho; exact ⟨pre ++ [x], s', e2, e3, by rw [List.length_append]; exact h2⟩
    | bk δ2 => exact ho
    | rt z δ2 => exact ho
  · rintro δ' ⟨pre, s, e1, rfl, h1⟩
    rw [List.append_nil] at e1
    subst e1
    exact e s h1
/-- a state, some slots put otherwise -/
def setsD (δ : Dv) (us : List (Nat × Sl)) : Dv := us.foldl (fun d u => d.set u.1 u.2) δ
theorem sets_nil {δ : Dv} : setsD δ [] = δ := rfl
theorem sets_cons {δ : Dv} {i : Nat} {s : Sl} {us : List (Nat × Sl)} : setsD δ ((i, s) :: us) = setsD (δ.set i s) us := rfl
/-- a loop that puts some slots otherwise -/
theorem KFo_up {σ : Type} (U : σ → List (Nat × Sl)) (Iv : Nat → σ → Prop) {i : Nat} {body : SF} {P : Out → Prop} {E : EC} {l : List D} {δ : Dv} (s0 : σ) (h0 : setsD δ (U s0) = δ) (hI : Iv 0 s0)
    (hx : ∀ x k s, l[k]? = some x → Iv k s → WS (body ((setsD δ (U s)).set i (.d x))) (LoopP (fun δ' => ∃ s', δ' = setsD δ (U s') ∧ Iv (k + 1) s') P) E) (e : ∀ s, Iv l.length s → P (.nx (setsD δ (U s)))) : KFo (gNm i) body P E l δ :=
  KFo_sts (fun s => setsD δ (U s)) Iv s0 h0.symm hI hx e
/-- a comprehension that puts some slots otherwise -/
theorem KLc_up {σ : Type} (U : σ → List (Nat × Sl)) (Iv : Nat → σ → Prop) (Z : D → Prop) {i : Nat} {f : XF} {Q : EV → Dv → Prop} {l : List D} {δ : Dv} (s0 : σ) (hl : l.length ≤ 100000) (h0 : wipeD δ [i] = setsD δ (U s0)) (hI : Iv 0 s0)
    (hx : ∀ x, x ∈ l → ∀ k s, k < l.length → Iv k s → W (f ((setsD δ (U s)).set i (.d x))) (fun z δ' => Z z.toD ∧ ∃ s', wipeD δ' [i] = setsD δ (U s') ∧ Iv (k + 1) s') noE)
    (q : ∀ zs s, zs.length = l.length → (∀ z, z ∈ zs → Z z) → Iv l.length s → Q (.own (.lst zs)) (backD [i] δ (setsD δ (U s)))) : KLc (gNm i) fYes f [i] Q l δ :=
  KLc_sts (fun s => setsD δ (U s)) Iv Z s0 hl h0 hI hx q
/-- whichever way, the same value -/
theorem KI_val {h k : XF} {Z : EV → Dv → Prop} {E : EC} {b : Bool} {δ : Dv} (z : EV) (h1 : b = true → W (h δ) (fun z' δ' => z' = z ∧ δ' = δ) noE) (h2 : b = false → W (k δ) (fun z' δ' => z' = z ∧ δ' = δ) noE) (q : Z z δ) : KI h k Z E b δ := by
  cases b
  · refine (h2 rfl).to ?_
    rintro _ _ ⟨rfl, rfl⟩
    exact q
  · refine (h1 rfl).to ?_
    rintro _ _ ⟨rfl, rfl⟩
    exact q
/-- a clause's name -/
def LFl : Option Sl → Addr → Addr → Str → (D → Dv → Prop) → Dv → Prop
  | some (.d (.cau a' d' fs)), a, d, f, Q, δ => (a' = a ∧ d' = d) ∧ VQ (fs.lookup f) Q δ
  | _, _, _, _, _, _ => False
theorem W_fFld {i : Nat} {a d : Addr} {f : Str} {Q : D → Dv → Prop} {E : EC} {δ : Dv} : W (fFld i a d f δ) Q E = LFl δ[i]? a d f Q δ := by
  unfold fFld
  cases h : δ[i]? with
  | none => rfl
  | some s =>
    cases s with
    | no => rfl
    | own o => rfl
    | d x =>
      cases x with
      | cau a' d' fs =>
        show W (if a' = a ∧ d' = d then _ else _) Q E = ((a' = a ∧ d' = d) ∧ VQ (fs.lookup f) Q δ)
        split
        · rename_i h
          cases fs.lookup f with
          | none => exact propext ⟨fun z => z.elim, fun z => z.2.elim⟩
          | some x => exact propext ⟨fun z => ⟨h, z⟩, fun z => z.2⟩
        · rename_i h; exact propext ⟨fun z => z.elim, fun z => h z.1⟩
      | _ => rfl
theorem R_LFl {a d a' d' : Addr} {fs : List (Str × D)} {f : Str} {Q : D → Dv → Prop} {δ : Dv} : LFl (some (.d (.cau a' d' fs))) a d f Q δ = ((a' = a ∧ d' = d) ∧ VQ (fs.lookup f) Q δ) := rfl
theorem R_lk {f : Str} {x : D} {fs : List (Str × D)} : List.lookup f ((f, x) :: fs) = some x := by simp [List.lookup]
theorem R_hush {s : Sl} {δ : Dv} : hush (s :: δ) = hushS s :: hush δ := rfl
theorem R_hush0 : hush [] = [] := rfl
theorem R_hushd {x : D} : hushS (.d x) = .d x := rfl
theorem R_husho {o : Ob} : hushS (.own o) = .no := rfl
theorem R_hushn : hushS .no = .no := rfl
theorem R_hushb {q : Bo} : hushS (bx q) = .no := rfl
theorem R_finr {i : Nat} {z : EV} {δ : Dv} : finO i (.ok (.rt z δ)) = .ok (.rt z (δ.set i .no)) := rfl
theorem R_finn {i : Nat} {δ : Dv} : finO i (.ok (.nx δ)) = .ok (.nx (δ.set i .no)) := rfl
theorem R_finb {i : Nat} {δ : Dv} : finO i (.ok (.bk δ)) = .ok (.bk (δ.set i .no)) := rfl
theorem R_finc {i : Nat} {δ : Dv} : finO i (.ok (.ct δ)) = .ok (.ct (δ.set i .no)) := rfl
/-- each item by itself, whatever the name held -/
theorem KLc_any {i : Nat} {c : BF} {f : XF} {Q : EV → Dv → Prop} {δ : Dv} {l : List D} (p : D → Bool) (h : D → D) (hl : l.length ≤ 100000)
    (hx : ∀ x, x ∈ l → W (c (δ.set i (.d x))) (fun b δ' => b = p x ∧ δ' = δ.set i (.d x)) noE ∧ (p x = true → W (f (δ.set i (.d x))) (fun z δ' => z.toD = h x ∧ δ' = δ.set i (.d x)) noE)) (q : ∀ s, Q (.own (.lst ((l.filter p).map h))) (δ.set i s)) : KLc (gNm i) c f [i] Q l δ := by
  refine KLc_inv (fun l' zs δ' => δ' = δ.set i .no ∧ ∃ pre, pre ++ l' = l ∧ zs = (pre.filter p).map h) hl ⟨rfl, [], rfl, rfl⟩ ?_ ?_
  · rintro x l' zs δ' ⟨rfl, pre, e1, rfl⟩
    refine ⟨_, rfl, ?_⟩
    obtain ⟨h1, h2⟩ := hx x (by rw [← e1]; simp)
    have e2 : (pre ++ [x]) ++ l' = l := by rw [← e1]; simp
    have w : wipeD (δ.set i (.d x)) [i] = δ.set i .no := by
      show (δ.set i (.d x)).set i .no = _
      rw [List.set_set]
    rw [List.set_set]
    refine h1.mono ?_ fun _ _ h => h
    rintro b δ2 ⟨rfl, rfl⟩
    refine KLb_by (fun hb => ?_) fun hb => ?_
    · rw [R_KLbt]
      refine (h2 hb).mono ?_ fun _ _ h => h
      rintro z δ3 ⟨hz, rfl⟩
      rw [R_KLt]
      exact ⟨w, pre ++ [x], e2, by rw [hz]; simp [hb]⟩
    · rw [R_KLbf]
      exact ⟨w, pre ++ [x], e2, by simp [hb]⟩
  · rintro zs δ' ⟨rfl, pre, e1, rfl⟩
    rw [List.append_nil] at e1
    subst e1
    show Q _ ((δ.set i .no).set i _)
    rw [List.set_set]
    exact q _
end FD
end
section
set_option Elab.async false
set_option linter.all false
set_option maxRecDepth 100000
set_option maxHeartbeats 0
namespace FD
open PySem L2
def top (i : Nat) : Stmt := PySem.Challenge.pw_callwide_k01_things_and_plain_numbers.main.body.getD i (.Pass ⟨0, 0, 0, 0⟩)
structure Gls (mg : Str → Option Value) : Prop where
  b_int : mg "int" = none
  b_isinstance : mg "isinstance" = none
  b_bool : mg "bool" = none
  b_str : mg "str" = none
  b_len : mg "len" = none
  b_all : mg "all" = none
  b_set : mg "set" = none
  b_tuple : mg "tuple" = none
  b_max : mg "max" = none
  b_range : mg "range" = none
  b_min : mg "min" = none
  b_ord : mg "ord" = none
  b_list : mg "list" = none
  b_repr : mg "repr" = none
  b_abs : mg "abs" = none
  c_MOST_NAME : ∃ t, mg "MOST_NAME" = some (.int 8 t)
  c_LETTERS : ∃ t, mg "LETTERS" = some (.str "abcdefghijklmnopqrstuvwxyz" t)
  c_MOST_WORD : ∃ t, mg "MOST_WORD" = some (.int 40 t)
  c_MOST_NUMBER : ∃ t, mg "MOST_NUMBER" = some (.int 999999 t)
  c_MOST_NAMES : ∃ t, mg "MOST_NAMES" = some (.int 8 t)
  c_MOST_TEXT : ∃ t, mg "MOST_TEXT" = some (.int 20 t)
  c_FIGURES : ∃ t, mg "FIGURES" = some (.str "0123456789" t)
/-! is_whole -/
abbrev s_is_whole : Stmt := top 12
theorem sc_is_whole : FnScope ["thing", "low", "high"] ["thing", "low", "high"] (defScope s_is_whole) := ⟨rfl, rfl, rfl, by decide +kernel, rfl, by decide +kernel, by decide +kernel⟩
def g_is_whole : SF :=
  (sRet (fX (fAnd (fW vIsi2 (fCons (fVW 0) (fCons (fC (.ty "int")) fNil))) (fAnd (fD (f1 vNot (fW vIsi2 (fCons (fVW 0) (fCons (fC (.ty "bool")) fNil))))) (fChain vLe vLe (fV 1) (fV 0) (fV 2))))))
def fn_is_whole : FnT := runF 3 3 g_is_whole
theorem ok_is_whole {P : Program} {w : World} {K : PySem.W.Frag} {mg : Str → Option Value} {base : Heap} {cls : Str → Addr} (G : Gls mg) (SY : SysOk base) {f : Addr} {fd : FuncData} (F : FunD K "is_whole" "is_whole" (defArgs s_is_whole) (defBody s_is_whole) (defScope s_is_whole) [] [] f fd) (hm : mg "is_whole" = some (.ref f)) :
    Cal P w K mg base cls 1 "is_whole" fn_is_whole :=
  Cal.of F hm (fn_body (k := 0) F sc_is_whole fun cdv A out s H E hr hgu =>
  (st_last (st_ret (px_of (pv_and (pv_fn call_isi2 sm_isi2 rfl G.b_isinstance bt_isi (lw_cons (pk_v (pv 0)) (lw_cons (pk_tyn G.b_int boot_int) lw_nil))) (pv_and (pv_of (pv_not (pv_fn call_isi2 sm_isi2 rfl G.b_isinstance bt_isi (lw_cons (pk_v (pv 0)) (lw_cons (pk_tyn G.b_bool boot_bool) lw_nil))))) (pv_one (pv_chain op_leA sm_ord op_leA sm_ord (pv_v (pv 1)) (pv_v (pv 0)) (pv_v (pv 2)))))))))) fun _ _ _ _ _ _ us hl => match us, hl with | [_, _, _], _ => rfl

/-! is_name -/
abbrev s_is_name : Stmt := top 13
theorem sc_is_name : FnScope ["thing", "sign"] ["thing"] (defScope s_is_name) := ⟨rfl, rfl, rfl, by decide +kernel, rfl, by decide +kernel, by decide +kernel⟩
def g_is_name : SF :=
  (sSeq (sIf (fOrB (fNotB (fBv (fW vIsi2 (fCons (fVW 0) (fCons (fC (.ty "str")) fNil))))) (fNotB (fBv (fChain vLe vLe (fC (.int 1)) (fW vLen (fCons (fVW 0) fNil)) (fC (.int 8))))))
    (sRet (fX (fC (.bl false))))
    sNil)
  (sRet (fX (fW vAll (fCons (fD (fLc (fSigns (fV 0)) (gNm 1) fYes (f2 vIn (fV 1) (fC (.str "abcdefghijklmnopqrstuvwxyz"))) [1])) fNil)))))
def fn_is_name : FnT := runF 1 2 g_is_name
theorem ok_is_name {P : Program} {w : World} {K : PySem.W.Frag} {mg : Str → Option Value} {base : Heap} {cls : Str → Addr} (G : Gls mg) (SY : SysOk base) {f : Addr} {fd : FuncData} (F : FunD K "is_name" "is_name" (defArgs s_is_name) (defBody s_is_name) (defScope s_is_name) [] [] f fd) (hm : mg "is_name" = some (.ref f)) :
    Cal P w K mg base cls 1 "is_name" fn_is_name :=
  Cal.of F hm (fn_body (k := 0) F sc_is_name fun cdv A out s H E hr hgu =>
  (st_cons (st_if (pb_w (pb_or (pb_not (pb_v (pv_fn call_isi2 sm_isi2 rfl G.b_isinstance bt_isi (lw_cons (pk_v (pv 0)) (lw_cons (pk_tyn G.b_str boot_str) lw_nil))))) (pb_or1 (pb_not (pb_chain op_leA sm_ord op_leA sm_ord pv_int (pv_fn call_len sm_len rfl G.b_len PySem.boot_len (lw_cons (pk_v (pv 0)) lw_nil)) (pv_gint G.c_MOST_NAME))))))
    (st_last (st_ret (px_of pv_bl)))
    st_nil)
  (st_last (st_ret (px_of (pv_fn (cr_all rfl) sm_all rfl G.b_all bt_all (lw_cons (pw_of (pv_of (px_lc (m' := ⟨K, fun _ => E0, cls⟩) (own := [("sign", 1)]) rfl sc_is_name.nd (it_str (pv_v (pv 0))) (blkOk_by (by show blkC ["thing", "sign"] (defScope s_is_name) _ _ = true; decide +kernel)) (fun _ _ _ _ _ => (pg_name (i := 1) sc_is_name.nd rfl (Or.inl rfl))) tg_nm (by decide) (fun _ _ _ _ _ => pts_nil) tb_yes (fun _ _ _ _ _ => (px_cmp op_inAll sm_in (pv_v (pv 1)) (pv_gstr G.c_LETTERS) (by with_unfolding_all rfl)))))) lw_nil))))))) fun _ _ _ _ _ _ us hl => match us, hl with | [_], _ => rfl

/-! is_letter -/
abbrev s_is_letter : Stmt := top 14
theorem sc_is_letter : FnScope ["thing"] ["thing"] (defScope s_is_letter) := ⟨rfl, rfl, rfl, by decide +kernel, rfl, by decide +kernel, by decide +kernel⟩
def g_is_letter : SF :=
  (sRet (fX (fAnd (fD (fCall fn_is_name (aCons (fV 0) aNil))) (fD (f2 vEq (fW vLen (fCons (fVW 0) fNil)) (fC (.int 1)))))))
def fn_is_letter : FnT := runF 1 1 g_is_letter
theorem ok_is_letter {P : Program} {w : World} {K : PySem.W.Frag} {mg : Str → Option Value} {base : Heap} {cls : Str → Addr} (G : Gls mg) (SY : SysOk base) {f : Addr} {fd : FuncData} (F : FunD K "is_letter" "is_letter" (defArgs s_is_letter) (defBody s_is_letter) (defScope s_is_letter) [] [] f fd) (hm : mg "is_letter" = some (.ref f)) (c_is_name : Cal P w K mg base cls 1 "is_name" fn_is_name) :
    Cal P w K mg base cls 2 "is_letter" fn_is_letter :=
  Cal.of F hm (fn_body (k := 1) F sc_is_letter fun cdv A out s H E hr hgu =>
  (st_last (st_ret (px_of (pv_and (pv_of (px_c c_is_name hr (by omega) hgu rfl (passB rfl rfl rfl rfl) (ar_cons (pv_v (pv 0)) ar_nil))) (pv_one (pv_of (px_cmp (op_eqAll (un_of hr)) sm_eq (pv_fn call_len sm_len rfl G.b_len PySem.boot_len (lw_cons (pk_v (pv 0)) lw_nil)) pv_int (by with_unfolding_all rfl))))))))) fun _ _ _ _ _ _ us hl => match us, hl with | [_], _ => rfl

/-! is_word -/
abbrev s_is_word : Stmt := top 15
theorem sc_is_word : FnScope ["thing", "sign"] ["thing"] (defScope s_is_word) := ⟨rfl, rfl, rfl, by decide +kernel, rfl, by decide +kernel, by decide +kernel⟩
def g_is_word : SF :=
  (sSeq (sIf (fOrB (fNotB (fBv (fW vIsi2 (fCons (fVW 0) (fCons (fC (.ty "str")) fNil))))) (fB (f2 vGt (fW vLen (fCons (fVW 0) fNil)) (fC (.int 40)))))
    (sRet (fX (fC (.bl false))))
    sNil)
  (sRet (fX (fW vAll (fCons (fD (fLc (fSigns (fV 0)) (gNm 1) fYes (fX (fChain vLe vLe (fC (.str " ")) (fV 1) (fC (.str "~")))) [1])) fNil)))))
def fn_is_word : FnT := runF 1 2 g_is_word
theorem ok_is_word {P : Program} {w : World} {K : PySem.W.Frag} {mg : Str → Option Value} {base : Heap} {cls : Str → Addr} (G : Gls mg) (SY : SysOk base) {f : Addr} {fd : FuncData} (F : FunD K "is_word" "is_word" (defArgs s_is_word) (defBody s_is_word) (defScope s_is_word) [] [] f fd) (hm : mg "is_word" = some (.ref f)) :
    Cal P w K mg base cls 1 "is_word" fn_is_word :=
  Cal.of F hm (fn_body (k := 0) F sc_is_word fun cdv A out s H E hr hgu =>
  (st_cons (st_if (pb_w (pb_or (pb_not (pb_v (pv_fn call_isi2 sm_isi2 rfl G.b_isinstance bt_isi (lw_cons (pk_v (pv 0)) (lw_cons (pk_tyn G.b_str boot_str) lw_nil))))) (pb_or1 (pb_cmp op_gtA sm_ord (pv_fn call_len sm_len rfl G.b_len PySem.boot_len (lw_cons (pk_v (pv 0)) lw_nil)) (pv_gint G.c_MOST_WORD) (by with_unfolding_all rfl)))))
    (st_last (st_ret (px_of pv_bl)))
    st_nil)
  (st_last (st_ret (px_of (pv_fn (cr_all rfl) sm_all rfl G.b_all bt_all (lw_cons (pw_of (pv_of (px_lc (m' := ⟨K, fun _ => E0, cls⟩) (own := [("sign", 1)]) rfl sc_is_word.nd (it_str (pv_v (pv 0))) (blkOk_by (by show blkC ["thing", "sign"] (defScope s_is_word) _ _ = true; decide +kernel)) (fun _ _ _ _ _ => (pg_name (i := 1) sc_is_word.nd rfl (Or.inl rfl))) tg_nm (by decide) (fun _ _ _ _ _ => pts_nil) tb_yes (fun _ _ _ _ _ => (px_of (pv_chain op_leA sm_ord op_leA sm_ord pv_str (pv_v (pv 1)) pv_str)))))) lw_nil))))))) fun _ _ _ _ _ _ us hl => match us, hl with | [_], _ => rfl

/-! are_unlike -/
abbrev s_are_unlike : Stmt := top 16
theorem sc_are_unlike : FnScope ["things"] ["things"] (defScope s_are_unlike) := ⟨rfl, rfl, rfl, by decide +kernel, rfl, by decide +kernel, by decide +kernel⟩
def g_are_unlike : SF :=
  (sRet (f2 vEq (fW vLenSet (fCons (fVW 0) fNil)) (fW vLen (fCons (fVW 0) fNil))))
def fn_are_unlike : FnT := runF 1 1 g_are_unlike
theorem ok_are_unlike {P : Program} {w : World} {K : PySem.W.Frag} {mg : Str → Option Value} {base : Heap} {cls : Str → Addr} (G : Gls mg) (SY : SysOk base) {f : Addr} {fd : FuncData} (F : FunD K "are_unlike" "are_unlike" (defArgs s_are_unlike) (defBody s_are_unlike) (defScope s_are_unlike) [] [] f fd) (hm : mg "are_unlike" = some (.ref f)) :
    Cal P w K mg base cls 1 "are_unlike" fn_are_unlike :=
  Cal.of F hm (fn_body (k := 0) F sc_are_unlike fun cdv A out s H E hr hgu =>
  (st_last (st_ret (px_cmp (op_eqAll (un_of hr)) sm_eq (pv_lenSet rfl rfl G.b_len rfl G.b_set (pk_v (pv 0))) (pv_fn call_len sm_len rfl G.b_len PySem.boot_len (lw_cons (pk_v (pv 0)) lw_nil)) (by with_unfolding_all rfl))))) fun _ _ _ _ _ _ us hl => match us, hl with | [_], _ => rfl

/-! is_kind -/
abbrev s_is_kind : Stmt := top 17
theorem sc_is_kind : FnScope ["thing", "word", "good", "things", "one", "name"] ["thing"] (defScope s_is_kind) := ⟨rfl, rfl, rfl, by decide +kernel, rfl, by decide +kernel, by decide +kernel⟩
def g_is_kind : SF :=
  (sSeq (sIf (fOrB (fNotB (fBv (fW vIsi2 (fCons (fVW 0) (fCons (fC (.ty "tuple")) fNil))))) (fOrB (fB (f2 vEq (fW vLen (fCons (fVW 0) fNil)) (fC (.int 0)))) (fNotB (fBv (fW vIsi2 (fCons (fD (f2 vIx (fV 0) (fC (.int 0)))) (fCons (fC (.ty "str")) fNil)))))))
    (sRet (fX (fC (.bl false))))
    sNil)
  (sSeq (sStar 1 3 (fV 0))
  (sSeq (sIf (fB (f2 vEq (fV 1) (fC (.str "number"))))
    (sSeq (sSet 1 2 (fX (fAnd (fD (f2 vEq (fW vLen (fCons (fVW 3) fNil)) (fC (.int 2)))) (fW vAll (fCons (fD (fLc (fItems (fV 3)) (gNm 4) fYes (fCall fn_is_whole (aCons (fV 4) (aCons (fD (f1 vNeg (fC (.int 999999)))) (aCons (fC (.int 999999)) aNil)))) [4])) fNil)))))
  (sRet (fX (fAnd (fVF 2) (fD (f2 vLe (fD (f2 vIx (fV 3) (fC (.int 0)))) (fD (f2 vIx (fV 3) (fC (.int 1))))))))))
    sNil)
  (sSeq (sIf (fB (f2 vEq (fV 1) (fC (.str "one"))))
    (sSeq (sIf (fOrB (fB (f2 vNe (fW vLen (fCons (fVW 3) fNil)) (fC (.int 1)))) (fOrB (fNotB (fBv (fW vIsi2 (fCons (fD (f2 vIx (fV 3) (fC (.int 0)))) (fCons (fC (.ty "tuple")) fNil))))) (fNotB (fBv (fChain vLe vLe (fC (.int 1)) (fW vLen (fCons (fD (f2 vIx (fV 3) (fC (.int 0)))) fNil)) (fC (.int 8)))))))
    (sRet (fX (fC (.bl false))))
    sNil)
  (sRet (fX (fAnd (fW vAll (fCons (fD (fLc (fItemsT (fD (f2 vIx (fV 3) (fC (.int 0))))) (gNm 5) fYes (fCall fn_is_name (aCons (fV 5) aNil)) [5])) fNil)) (fD (fCall fn_are_unlike (aCons (fD (f2 vIx (fV 3) (fC (.int 0)))) aNil)))))))
    sNil)
  (sSeq (sIf (fB (f2 vEq (fV 1) (fC (.str "text"))))
    (sRet (fX (fAnd (fD (f2 vEq (fW vLen (fCons (fVW 3) fNil)) (fC (.int 1)))) (fD (fCall fn_is_whole (aCons (fD (f2 vIx (fV 3) (fC (.int 0)))) (aCons (fC (.int 1)) (aCons (fC (.int 20)) aNil))))))))
    sNil)
  (sSeq (sIf (fB (f2 vEq (fV 1) (fC (.str "own"))))
    (sRet (fX (fAnd (fD (f2 vEq (fW vLen (fCons (fVW 3) fNil)) (fC (.int 1)))) (fD (fCall fn_is_name (aCons (fD (f2 vIx (fV 3) (fC (.int 0)))) aNil))))))
    sNil)
  (sRet (fX (fAnd (fD (f2 vEq (fV 1) (fC (.str "name")))) (fD (f2 vEq (fV 3) (fD (fN vLst fNil)))))))))))))
def fn_is_kind : FnT := runF 1 6 g_is_kind
theorem ok_is_kind {P : Program} {w : World} {K : PySem.W.Frag} {mg : Str → Option Value} {base : Heap} {cls : Str → Addr} (G : Gls mg) (SY : SysOk base) {f : Addr} {fd : FuncData} (F : FunD K "is_kind" "is_kind" (defArgs s_is_kind) (defBody s_is_kind) (defScope s_is_kind) [] [] f fd) (hm : mg "is_kind" = some (.ref f)) (c_is_whole : Cal P w K mg base cls 1 "is_whole" fn_is_whole) (c_is_name : Cal P w K mg base cls 1 "is_name" fn_is_name) (c_are_unlike : Cal P w K mg base cls 1 "are_unlike" fn_are_unlike) :
    Cal P w K mg base cls 2 "is_kind" fn_is_kind :=
  Cal.of F hm (fn_body (k := 1) F sc_is_kind fun cdv A out s H E hr hgu =>
  (st_cons (st_if (pb_w (pb_or (pb_not (pb_v (pv_fn call_isi2 sm_isi2 rfl G.b_isinstance bt_isi (lw_cons (pk_v (pv 0)) (lw_cons (pk_tyn G.b_tuple boot_tuple) lw_nil))))) (pb_or (pb_cmp (op_eqAll (un_of hr)) sm_eq (pv_fn call_len sm_len rfl G.b_len PySem.boot_len (lw_cons (pk_v (pv 0)) lw_nil)) pv_int (by with_unfolding_all rfl)) (pb_or1 (pb_not (pb_v (pv_fn call_isi2 sm_isi2 rfl G.b_isinstance bt_isi (lw_cons (pw_of (pv_of (px_ix (pv_v (pv 0)) pv_int))) (lw_cons (pk_tyn G.b_str boot_str) lw_nil)))))))))
    (st_last (st_ret (px_of pv_bl)))
    st_nil)
  (st_cons (st_star (i := 1) (k := 3) rfl sc_is_kind.nd rfl rfl (Or.inl rfl) (Or.inl rfl) (pv_v (pv 0)))
  (st_cons (st_if (pb_cmp (op_eqAll (un_of hr)) sm_eq (pv_v (pv 1)) pv_str (by with_unfolding_all rfl))
    (st_cons (st_set (i := 2) sc_is_kind.nd rfl (by first | exact Or.inl rfl | exact Or.inr rfl) (px_of (pv_and (pv_of (px_cmp (op_eqAll (un_of hr)) sm_eq (pv_fn call_len sm_len rfl G.b_len PySem.boot_len (lw_cons (pk_v (pv 3)) lw_nil)) pv_int (by with_unfolding_all rfl))) (pv_one (pv_fn (cr_all rfl) sm_all rfl G.b_all bt_all (lw_cons (pw_of (pv_of (px_lc (m' := ⟨K, fun _ => E0, cls⟩) (own := [("one", 4)]) rfl sc_is_kind.nd (it_list (pv_v (pv 3))) (blkOk_by (by show blkC ["thing", "word", "good", "things", "one", "name"] (defScope s_is_kind) _ _ = true; decide +kernel)) (fun _ _ _ _ _ => (pg_name (i := 4) sc_is_kind.nd rfl (Or.inl rfl))) tg_nm (by decide) (fun _ _ _ _ _ => pts_nil) tb_yes (fun _ _ _ _ _ => (px_c c_is_whole hr (by omega) hgu rfl pass0At (ar_cons (pv_v (pv 4)) (ar_cons (pv_of (px_neg (pv_gint G.c_MOST_NUMBER))) (ar_cons (pv_gint G.c_MOST_NUMBER) ar_nil)))))))) lw_nil))))))
  (st_last (st_ret (px_of (pv_and (pv_vF (pv 2)) (pv_one (pv_of (px_cmp op_leA sm_ord (pv_of (px_ix (pv_v (pv 3)) pv_int)) (pv_of (px_ix (pv_v (pv 3)) pv_int)) (by with_unfolding_all rfl)))))))))
    st_nil)
  (st_cons (st_if (pb_cmp (op_eqAll (un_of hr)) sm_eq (pv_v (pv 1)) pv_str (by with_unfolding_all rfl))
    (st_cons (st_if (pb_w (pb_or (pb_cmp (op_neAll (un_of hr)) sm_ne (pv_fn call_len sm_len rfl G.b_len PySem.boot_len (lw_cons (pk_v (pv 3)) lw_nil)) pv_int (by with_unfolding_all rfl)) (pb_or (pb_not (pb_v (pv_fn call_isi2 sm_isi2 rfl G.b_isinstance bt_isi (lw_cons (pw_of (pv_of (px_ix (pv_v (pv 3)) pv_int))) (lw_cons (pk_tyn G.b_tuple boot_tuple) lw_nil))))) (pb_or1 (pb_not (pb_chain op_leA sm_ord op_leA sm_ord pv_int (pv_fn call_len sm_len rfl G.b_len PySem.boot_len (lw_cons (pw_of (pv_of (px_ix (pv_v (pv 3)) pv_int))) lw_nil)) (pv_gint G.c_MOST_NAMES)))))))
    (st_last (st_ret (px_of pv_bl)))
    st_nil)
  (st_last (st_ret (px_of (pv_and (pv_fn (cr_all rfl) sm_all rfl G.b_all bt_all (lw_cons (pw_of (pv_of (px_lc (m' := ⟨K, fun _ => E0, cls⟩) (own := [("name", 5)]) rfl sc_is_kind.nd (it_tup (pv_of (px_ix (pv_v (pv 3)) pv_int))) (blkOk_by (by show blkC ["thing", "word", "good", "things", "one", "name"] (defScope s_is_kind) _ _ = true; decide +kernel)) (fun _ _ _ _ _ => (pg_name (i := 5) sc_is_kind.nd rfl (Or.inl rfl))) tg_nm (by decide) (fun _ _ _ _ _ => pts_nil) tb_yes (fun _ _ _ _ _ => (px_c c_is_name hr (by omega) hgu rfl pass0At (ar_cons (pv_v (pv 5)) ar_nil)))))) lw_nil)) (pv_one (pv_of (px_c c_are_unlike hr (by omega) hgu rfl (passB rfl rfl rfl rfl) (ar_cons (pv_of (px_ix (pv_v (pv 3)) pv_int)) ar_nil)))))))))
    st_nil)
  (st_cons (st_if (pb_cmp (op_eqAll (un_of hr)) sm_eq (pv_v (pv 1)) pv_str (by with_unfolding_all rfl))
    (st_last (st_ret (px_of (pv_and (pv_of (px_cmp (op_eqAll (un_of hr)) sm_eq (pv_fn call_len sm_len rfl G.b_len PySem.boot_len (lw_cons (pk_v (pv 3)) lw_nil)) pv_int (by with_unfolding_all rfl))) (pv_one (pv_of (px_c c_is_whole hr (by omega) hgu rfl (passB rfl rfl rfl rfl) (ar_cons (pv_of (px_ix (pv_v (pv 3)) pv_int)) (ar_cons pv_int (ar_cons (pv_gint G.c_MOST_TEXT) ar_nil))))))))))
    st_nil)
  (st_cons (st_if (pb_cmp (op_eqAll (un_of hr)) sm_eq (pv_v (pv 1)) pv_str (by with_unfolding_all rfl))
    (st_last (st_ret (px_of (pv_and (pv_of (px_cmp (op_eqAll (un_of hr)) sm_eq (pv_fn call_len sm_len rfl G.b_len PySem.boot_len (lw_cons (pk_v (pv 3)) lw_nil)) pv_int (by with_unfolding_all rfl))) (pv_one (pv_of (px_c c_is_name hr (by omega) hgu rfl (passB rfl rfl rfl rfl) (ar_cons (pv_of (px_ix (pv_v (pv 3)) pv_int)) ar_nil))))))))
    st_nil)
  (st_last (st_ret (px_of (pv_and (pv_of (px_cmp (op_eqAll (un_of hr)) sm_eq (pv_v (pv 1)) pv_str (by with_unfolding_all rfl))) (pv_one (pv_of (px_cmp (op_eqAll (un_of hr)) sm_eq (pv_v (pv 3)) (pv_of (px_lst pl_nil)) (by with_unfolding_all rfl))))))))))))))) fun _ _ _ _ _ _ us hl => match us, hl with | [_], _ => rfl

/-! number_in -/
abbrev s_number_in : Stmt := top 19
theorem sc_number_in : FnScope ["thing", "figures", "sign"] ["thing"] (defScope s_number_in) := ⟨rfl, rfl, rfl, by decide +kernel, rfl, by decide +kernel, by decide +kernel⟩
def g_number_in : SF :=
  (sSeq (sIf (fOrB (fNotB (fBv (fW vIsi2 (fCons (fVW 0) (fCons (fC (.ty "str")) fNil))))) (fB (f2 vEq (fV 0) (fC (.str "")))))
    (sRet (fX (fC .non)))
    sNil)
  (sSeq (sSet 1 1 (fIf (fB (f2 vEq (fD (f2 vIx (fV 0) (fC (.int 0)))) (fC (.str "-")))) (fSl (fV 0) (oSome (fC (.int 1))) oNone) (fX (fV 0))))
  (sSeq (sIf (fOrB (fB (f2 vEq (fVF 1) (fC (.str "")))) (fNotB (fBv (fW vAll (fCons (fD (fLc (fSigns (fVF 1)) (gNm 2) fYes (f2 vIn (fV 2) (fC (.str "0123456789"))) [2])) fNil)))))
    (sRet (fX (fC .non)))
    sNil)
  (sSeq (sIf (fAndB (fB (f2 vEq (fD (f2 vIx (fVF 1) (fC (.int 0)))) (fC (.str "0")))) (fB (f2 vNe (fV 0) (fC (.str "0")))))
    (sRet (fX (fC .non)))
    sNil)
  (sRet (fX (fW vInt (fCons (fVW 0) fNil))))))))
def fn_number_in : FnT := runF 1 3 g_number_in
theorem ok_number_in {P : Program} {w : World} {K : PySem.W.Frag} {mg : Str → Option Value} {base : Heap} {cls : Str → Addr} (G : Gls mg) (SY : SysOk base) {f : Addr} {fd : FuncData} (F : FunD K "number_in" "number_in" (defArgs s_number_in) (defBody s_number_in) (defScope s_number_in) [] [] f fd) (hm : mg "number_in" = some (.ref f)) :
    Cal P w K mg base cls 1 "number_in" fn_number_in :=
  Cal.of F hm (fn_body (k := 0) F sc_number_in fun cdv A out s H E hr hgu =>
  (st_cons (st_if (pb_w (pb_or (pb_not (pb_v (pv_fn call_isi2 sm_isi2 rfl G.b_isinstance bt_isi (lw_cons (pk_v (pv 0)) (lw_cons (pk_tyn G.b_str boot_str) lw_nil))))) (pb_or1 (pb_cmp (op_eqAll (un_of hr)) sm_eq (pv_v (pv 0)) pv_str (by with_unfolding_all rfl)))))
    (st_last (st_ret (px_of pv_non)))
    st_nil)
  (st_cons (st_set (i := 1) sc_number_in.nd rfl (by first | exact Or.inl rfl | exact Or.inr rfl) (px_if (pb_cmp (op_eqAll (un_of hr)) sm_eq (pv_of (px_ix (pv_v (pv 0)) pv_int)) pv_str (by with_unfolding_all rfl)) (px_sl (pv_v (pv 0)) (po_so pv_int) po_no) (px_of (pv_v (pv 0)))))
  (st_cons (st_if (pb_w (pb_or (pb_cmp (op_eqAll (un_of hr)) sm_eq (pv_vF (pv 1)) pv_str (by with_unfolding_all rfl)) (pb_or1 (pb_not (pb_v (pv_fn (cr_all rfl) sm_all rfl G.b_all bt_all (lw_cons (pw_of (pv_of (px_lc (m' := ⟨K, fun _ => E0, cls⟩) (own := [("sign", 2)]) rfl sc_number_in.nd (it_str (pv_vF (pv 1))) (blkOk_by (by show blkC ["thing", "figures", "sign"] (defScope s_number_in) _ _ = true; decide +kernel)) (fun _ _ _ _ _ => (pg_name (i := 2) sc_number_in.nd rfl (Or.inl rfl))) tg_nm (by decide) (fun _ _ _ _ _ => pts_nil) tb_yes (fun _ _ _ _ _ => (px_cmp op_inAll sm_in (pv_v (pv 2)) (pv_gstr G.c_FIGURES) (by with_unfolding_all rfl)))))) lw_nil)))))))
    (st_last (st_ret (px_of pv_non)))
    st_nil)
  (st_cons (st_if (pb_w (pb_and (pb_cmp (op_eqAll (un_of hr)) sm_eq (pv_of (px_ix (pv_vF (pv 1)) pv_int)) pv_str (by with_unfolding_all rfl)) (pb_and1 (pb_cmp (op_neAll (un_of hr)) sm_ne (pv_v (pv 0)) pv_str (by with_unfolding_all rfl)))))
    (st_last (st_ret (px_of pv_non)))
    st_nil)
  (st_last (st_ret (px_of (pv_ty call_intAll sm_int rfl G.b_int boot_int (lw_cons (pk_v (pv 0)) lw_nil)))))))))) fun _ _ _ _ _ _ us hl => match us, hl with | [_], _ => rfl

/-! number_word -/
abbrev s_number_word : Stmt := top 18
theorem sc_number_word : FnScope ["number"] ["number"] (defScope s_number_word) := ⟨rfl, rfl, rfl, by decide +kernel, rfl, by decide +kernel, by decide +kernel⟩
def g_number_word : SF :=
  (sSeq (sIf (fOrB (fNotB (fBv (fW vIsi2 (fCons (fVW 0) (fCons (fC (.ty "int")) fNil))))) (fBv (fW vIsi2 (fCons (fVW 0) (fCons (fC (.ty "bool")) fNil)))))
    (sRz "NoNumber" "found" (fV 0))
    sNil)
  (sRet (fX (fW vStr (fCons (fVW 0) fNil)))))
def fn_number_word : FnT := runF 1 1 g_number_word
theorem ok_number_word {P : Program} {w : World} {K : PySem.W.Frag} {mg : Str → Option Value} {base : Heap} {cls : Str → Addr} (G : Gls mg) (SY : SysOk base) {f : Addr} {fd : FuncData} (F : FunD K "number_word" "number_word" (defArgs s_number_word) (defBody s_number_word) (defScope s_number_word) [] [] f fd) (hm : mg "number_word" = some (.ref f)) (e_NoNumber : ExF P w K mg base cls "NoNumber" "found") :
    Cal P w K mg base cls 3 "number_word" fn_number_word :=
  Cal.of F hm (fn_body (k := 2) F sc_number_word fun cdv A out s H E hr hgu =>
  (st_cons (st_if (pb_w (pb_or (pb_not (pb_v (pv_fn call_isi2 sm_isi2 rfl G.b_isinstance bt_isi (lw_cons (pk_v (pv 0)) (lw_cons (pk_tyn G.b_int boot_int) lw_nil))))) (pb_or1 (pb_v (pv_fn call_isi2 sm_isi2 rfl G.b_isinstance bt_isi (lw_cons (pk_v (pv 0)) (lw_cons (pk_tyn G.b_bool boot_bool) lw_nil)))))))
    (st_last (st_raise (c := "NoNumber") e_NoNumber.ok hr (by omega) rfl (takes_of rfl rfl rfl rfl) (fun _ _ _ _ h => h) rfl rfl (pv_v (pv 0))))
    st_nil)
  (st_last (st_ret (px_of (pv_ty call_strAll sm_str rfl G.b_str boot_str (lw_cons (pk_v (pv 0)) lw_nil))))))) fun _ _ _ _ _ _ us hl => match us, hl with | [_], _ => rfl

/-! _law_cell -/
abbrev s_law_cell : Stmt := top 21
theorem sc_law_cell : FnScope ["script", "k"] ["script", "k"] (defScope s_law_cell) := ⟨rfl, rfl, rfl, by decide +kernel, rfl, by decide +kernel, by decide +kernel⟩
def g_law_cell : SF :=
  (sSeq (sIf (fB (f2 vLt (fV 1) (fW vLen (fCons (fVW 0) fNil))))
    (sRet (f2 vIx (fV 0) (fV 1)))
    sNil)
  (sRet (f2 vAdd (fD (f2 vMul (fC (.int 104729)) (fV 1))) (fC (.int 401)))))
def fn_law_cell : FnT := runF 2 2 g_law_cell
theorem ok_law_cell {P : Program} {w : World} {K : PySem.W.Frag} {mg : Str → Option Value} {base : Heap} {cls : Str → Addr} (G : Gls mg) (SY : SysOk base) {f : Addr} {fd : FuncData} (F : FunD K "_law_cell" "_law_cell" (defArgs s_law_cell) (defBody s_law_cell) (defScope s_law_cell) [] [] f fd) (hm : mg "_law_cell" = some (.ref f)) :
    Cal P w K mg base cls 1 "_law_cell" fn_law_cell :=
  Cal.of F hm (fn_body (k := 0) F sc_law_cell fun cdv A out s H E hr hgu =>
  (st_cons (st_if (pb_cmp op_ltA sm_ord (pv_v (pv 1)) (pv_fn call_len sm_len rfl G.b_len PySem.boot_len (lw_cons (pk_v (pv 0)) lw_nil)) (by with_unfolding_all rfl))
    (st_last (st_ret (px_ix (pv_v (pv 0)) (pv_v (pv 1)))))
    st_nil)
  (st_last (st_ret (px_op op_addAll sm_add (pv_of (px_op op_mulAll sm_mul pv_int (pv_v (pv 1)))) pv_int))))) fun _ _ _ _ _ _ us hl => match us, hl with | [_, _], _ => rfl

/-! _law_box -/
abbrev s_law_box : Stmt := top 22
theorem sc_law_box : FnScope ["cell"] ["cell"] (defScope s_law_box) := ⟨rfl, rfl, rfl, by decide +kernel, rfl, by decide +kernel, by decide +kernel⟩
def g_law_box : SF :=
  (sRet (fN vLst (fCons (fW vMax2 (fCons (fC (.int 0)) (fCons (fD (f2 vSub (fV 0) (fD (f2 vPow (fC (.int 10)) (fC (.int 18)))))) fNil))) (fCons (fD (f2 vMod (fV 0) (fC (.int 2147483629)))) (fCons (fC (.int 0)) fNil)))))
def fn_law_box : FnT := runF 1 1 g_law_box
theorem ok_law_box {P : Program} {w : World} {K : PySem.W.Frag} {mg : Str → Option Value} {base : Heap} {cls : Str → Addr} (G : Gls mg) (SY : SysOk base) {f : Addr} {fd : FuncData} (F : FunD K "_law_box" "_law_box" (defArgs s_law_box) (defBody s_law_box) (defScope s_law_box) [] [] f fd) (hm : mg "_law_box" = some (.ref f)) :
    Cal P w K mg base cls 1 "_law_box" fn_law_box :=
  Cal.of F hm (fn_body (k := 0) F sc_law_box fun cdv A out s H E hr hgu =>
  (st_last (st_ret (px_lst (pl_cons (pv_fn (call_max2 rfl) sm_max2 rfl G.b_max bt_max (lw_cons (pw_of pv_int) (lw_cons (pw_of (pv_of (px_op op_sub sm_sub (pv_v (pv 0)) (pv_of (px_op op_pow sm_pow pv_int pv_int))))) lw_nil))) (pl_cons (pv_of (px_op op_mod sm_mod (pv_v (pv 0)) pv_int)) (pl_cons pv_int pl_nil))))))) fun _ _ _ _ _ _ us hl => match us, hl with | [_], _ => rfl

/-! _law_take -/
abbrev s_law_take : Stmt := top 23
theorem sc_law_take : FnScope ["box", "many", "number", "digit"] ["box", "many"] (defScope s_law_take) := ⟨rfl, rfl, rfl, by decide +kernel, rfl, by decide +kernel, by decide +kernel⟩
def g_law_take : SF :=
  (sSeq (sIf (fB (f2 vGt (fIxN 0 (fC (.int 0))) (fC (.int 0))))
    (sSeq (sSet 2 3 (f2 vMod (fIxN 0 (fC (.int 0))) (fV 1)))
  (sSeq (sSetIx 0 (fD (f2 vDiv (fIxN 0 (fC (.int 0))) (fV 1))) (fC (.int 0)))
  (sRet (fX (fVF 3)))))
    sNil)
  (sSeq (sSetIx 0 (fD (f2 vAdd (fIxN 0 (fC (.int 2))) (fC (.int 1)))) (fC (.int 2)))
  (sSeq (sSet 2 2 (f2 vMod (fD (f2 vPow (fD (f2 vAdd (fD (f2 vAdd (fIxN 0 (fC (.int 1))) (fD (f2 vMul (fC (.int 130363)) (fIxN 0 (fC (.int 2))))))) (fC (.int 401)))) (fC (.int 5)))) (fC (.int 2147483647))))
  (sSeq (sSet 2 2 (f2 vMod (fD (f2 vPow (fD (f2 vAdd (fD (f2 vDiv (fVF 2) (fC (.int 8)))) (fD (f2 vMul (fC (.int 104729)) (fIxN 0 (fC (.int 2))))))) (fC (.int 3)))) (fC (.int 2147483587))))
  (sRet (f2 vMod (fD (f2 vDiv (fVF 2) (fC (.int 16)))) (fV 1)))))))
def fn_law_take : FnT := runF 2 4 g_law_take
theorem ok_law_take {P : Program} {w : World} {K : PySem.W.Frag} {mg : Str → Option Value} {base : Heap} {cls : Str → Addr} (G : Gls mg) (SY : SysOk base) {f : Addr} {fd : FuncData} (F : FunD K "_law_take" "_law_take" (defArgs s_law_take) (defBody s_law_take) (defScope s_law_take) [] [] f fd) (hm : mg "_law_take" = some (.ref f)) :
    Cal P w K mg base cls 1 "_law_take" fn_law_take :=
  Cal.of F hm (fn_body (k := 0) F sc_law_take fun cdv A out s H E hr hgu =>
  (st_cons (st_if (pb_cmp op_gtA sm_ord (pv_ixN (pv 0) pv_int) pv_int (by with_unfolding_all rfl))
    (st_cons (st_set (i := 3) sc_law_take.nd rfl (by first | exact Or.inl rfl | exact Or.inr rfl) (px_op op_mod sm_mod (pv_ixN (pv 0) pv_int) (pv_v (pv 1))))
  (st_cons (st_setIx (i := 0) (pv_of (px_op op_fdivW sm_div (pv_ixN (pv 0) pv_int) (pv_v (pv 1)))) (pv 0) pv_int)
  (st_last (st_ret (px_of (pv_vF (pv 3)))))))
    st_nil)
  (st_cons (st_setIx (i := 0) (pv_of (px_op op_addAll sm_add (pv_ixN (pv 0) pv_int) pv_int)) (pv 0) pv_int)
  (st_cons (st_set (i := 2) sc_law_take.nd rfl (by first | exact Or.inl rfl | exact Or.inr rfl) (px_op op_mod sm_mod (pv_of (px_op op_pow sm_pow (pv_of (px_op op_addAll sm_add (pv_of (px_op op_addAll sm_add (pv_ixN (pv 0) pv_int) (pv_of (px_op op_mulAll sm_mul pv_int (pv_ixN (pv 0) pv_int))))) pv_int)) pv_int)) pv_int))
  (st_cons (st_set (i := 2) sc_law_take.nd rfl (by first | exact Or.inl rfl | exact Or.inr rfl) (px_op op_mod sm_mod (pv_of (px_op op_pow sm_pow (pv_of (px_op op_addAll sm_add (pv_of (px_op op_fdivW sm_div (pv_vF (pv 2)) pv_int)) (pv_of (px_op op_mulAll sm_mul pv_int (pv_ixN (pv 0) pv_int))))) pv_int)) pv_int))
  (st_last (st_ret (px_op op_mod sm_mod (pv_of (px_op op_fdivW sm_div (pv_vF (pv 2)) pv_int)) (pv_v (pv 1)))))))))) fun _ _ _ _ _ _ us hl => match us, hl with | [_, _], _ => rfl

/-! _law_name -/
abbrev s_law_name : Stmt := top 24
theorem sc_law_name : FnScope ["box", "letters", "k"] ["box"] (defScope s_law_name) := ⟨rfl, rfl, rfl, by decide +kernel, rfl, by decide +kernel, by decide +kernel⟩
def g_law_name : SF :=
  (sSeq (sSet 1 1 (fX (fC (.str "abcdefghijklmnopqrstuvwxyz"))))
  (sRet (fX (fM1 vJoin (fC (.str "")) (fD (fLc (fRng1 (fCons (fD (f2 vAdd (fC (.int 1)) (fD (fCall fn_law_take (aBor 0 (aCons (fC (.int 8)) aNil)))))) fNil)) (gNm 2) fYes (f2 vIx (fVF 1) (fD (fCall fn_law_take (aBor 0 (aCons (fC (.int 26)) aNil))))) [2]))))))
def fn_law_name : FnT := runF 1 3 g_law_name
theorem ok_law_name {P : Program} {w : World} {K : PySem.W.Frag} {mg : Str → Option Value} {base : Heap} {cls : Str → Addr} (G : Gls mg) (SY : SysOk base) {f : Addr} {fd : FuncData} (F : FunD K "_law_name" "_law_name" (defArgs s_law_name) (defBody s_law_name) (defScope s_law_name) [] [] f fd) (hm : mg "_law_name" = some (.ref f)) (c__law_take : Cal P w K mg base cls 1 "_law_take" fn_law_take) :
    Cal P w K mg base cls 2 "_law_name" fn_law_name :=
  Cal.of F hm (fn_body (k := 1) F sc_law_name fun cdv A out s H E hr hgu =>
  (st_cons (st_set (i := 1) sc_law_name.nd rfl (by first | exact Or.inl rfl | exact Or.inr rfl) (px_of pv_str))
  (st_last (st_ret (px_of (pv_m1 PySem.F.slot_str_join PySem.F.type_str_join mt_join sm_join pv_str (pw_of (pv_of (px_lc (m' := ⟨K, fun _ => E0, cls⟩) (own := [("k", 2)]) rfl sc_law_name.nd (it_rng1 rfl G.b_range (pl_cons (pv_of (px_op op_addAll sm_add pv_int (pv_of (px_c c__law_take hr (by omega) hgu rfl (passB rfl rfl rfl rfl) (ar_bor (pv 0) (ar_cons pv_int ar_nil)))))) pl_nil)) (blkOk_by (by show blkC ["box", "letters", "k"] (defScope s_law_name) _ _ = true; decide +kernel)) (fun _ _ _ _ _ => (pg_name (i := 2) sc_law_name.nd rfl (Or.inl rfl))) tg_nm (by decide) (fun _ _ _ _ _ => pts_nil) tb_yes (fun _ _ _ _ _ => (px_ix (pv_vF (pv 1)) (pv_of (px_c c__law_take hr (by omega) hgu rfl pass0At (ar_bor (pv 0) (ar_cons pv_int ar_nil))))))))))))))) fun _ _ _ _ _ _ us hl => match us, hl with | [_], _ => rfl

/-! _law_names -/
abbrev s_law_names : Stmt := top 25
theorem sc_law_names : FnScope ["box", "many", "letters", "first", "some", "stem", "way", "k"] ["box", "many"] (defScope s_law_names) := ⟨rfl, rfl, rfl, by decide +kernel, rfl, by decide +kernel, by decide +kernel⟩
def g_law_names : SF :=
  (sSeq (sSet 2 2 (fX (fC (.str "abcdefghijklmnopqrstuvwxyz"))))
  (sSeq (sAsg (fD (fN vTup (fCons (fD (fSl (fD (fCall fn_law_name (aBor 0 aNil))) oNone (oSome (fC (.int 6))))) (fCons (fD (fCall fn_law_take (aBor 0 (aCons (fC (.int 3)) aNil)))) fNil)))) (gTp [5, 6]))
  (sSeq (sSet 2 3 (fCall fn_law_take (aBor 0 (aCons (fC (.int 26)) aNil))))
  (sSeq (sSet 2 4 (fLc (fRng1 (fCons (fV 1) fNil)) (gNm 7) fYes (f2 vAdd (fVF 5) (fD (f2 vIx (fVF 2) (fD (f2 vMod (fD (f2 vAdd (fVF 3) (fD (f2 vMul (fC (.int 3)) (fV 7))))) (fC (.int 26))))))) [7]))
  (sSeq (sIf (fB (f2 vEq (fVF 6) (fC (.int 0))))
    (sSet 2 4 (fSl (fD (fLc (fRng1 (fCons (fC (.int 8)) fNil)) (gNm 7) fYes (fSl (fD (f2 vAdd (fVF 5) (fVF 2))) oNone (oSome (fD (f2 vAdd (fC (.int 1)) (fV 7))))) [7])) oNone (oSome (fV 1))))
    sNil)
  (sRet (fX (fVF 4))))))))
def fn_law_names : FnT := runF 2 8 g_law_names
theorem ok_law_names {P : Program} {w : World} {K : PySem.W.Frag} {mg : Str → Option Value} {base : Heap} {cls : Str → Addr} (G : Gls mg) (SY : SysOk base) {f : Addr} {fd : FuncData} (F : FunD K "_law_names" "_law_names" (defArgs s_law_names) (defBody s_law_names) (defScope s_law_names) [] [] f fd) (hm : mg "_law_names" = some (.ref f)) (c__law_name : Cal P w K mg base cls 2 "_law_name" fn_law_name) (c__law_take : Cal P w K mg base cls 1 "_law_take" fn_law_take) :
    Cal P w K mg base cls 3 "_law_names" fn_law_names :=
  Cal.of F hm (fn_body (k := 2) F sc_law_names fun cdv A out s H E hr hgu =>
  (st_cons (st_set (i := 2) sc_law_names.nd rfl (by first | exact Or.inl rfl | exact Or.inr rfl) (px_of pv_str))
  (st_cons (st_asg (pv_of (px_tup (pl_cons (pv_of (px_sl (pv_of (px_c c__law_name hr (by omega) hgu rfl (passB rfl rfl rfl rfl) (ar_bor (pv 0) ar_nil))) po_no (po_so pv_int))) (pl_cons (pv_of (px_c c__law_take hr (by omega) hgu rfl (passB rfl rfl rfl rfl) (ar_bor (pv 0) (ar_cons pv_int ar_nil)))) pl_nil)))) (pg_tup rfl (pgs_cons (pg_name (i := 5) sc_law_names.nd rfl (by first | exact Or.inl rfl | exact Or.inr rfl)) (pgs_cons (pg_name (i := 6) sc_law_names.nd rfl (by first | exact Or.inl rfl | exact Or.inr rfl)) pgs_nil))) (tg_tp (is := [5, 6])))
  (st_cons (st_set (i := 3) sc_law_names.nd rfl (by first | exact Or.inl rfl | exact Or.inr rfl) (px_c c__law_take hr (by omega) hgu rfl (passB rfl rfl rfl rfl) (ar_bor (pv 0) (ar_cons pv_int ar_nil))))
  (st_cons (st_setLc (i := 4) (m' := ⟨K, fun _ => E0, cls⟩) (own := [("k", 7)]) rfl sc_law_names.nd rfl rfl (it_rng1 rfl G.b_range (pl_cons (pv_v (pv 1)) pl_nil)) (blkOk_by (by show blkC ["box", "many", "letters", "first", "some", "stem", "way", "k"] (defScope s_law_names) _ _ = true; decide +kernel)) (fun _ _ _ _ _ => (pg_name (i := 7) sc_law_names.nd rfl (Or.inl rfl))) tg_nm (by decide) (fun _ _ _ _ _ => pts_nil) tb_yes (fun _ _ _ _ _ => (px_op op_addAll sm_add (pv_vF (pv 5)) (pv_of (px_ix (pv_vF (pv 2)) (pv_of (px_op op_mod sm_mod (pv_of (px_op op_addAll sm_add (pv_vF (pv 3)) (pv_of (px_op op_mulAll sm_mul pv_int (pv_v (pv 7)))))) pv_int)))))))
  (st_cons (st_if (pb_cmp (op_eqAll (un_of hr)) sm_eq (pv_vF (pv 6)) pv_int (by with_unfolding_all rfl))
    (st_last (st_set (i := 4) sc_law_names.nd rfl (by first | exact Or.inl rfl | exact Or.inr rfl) (px_sl (pv_of (px_lc (m' := ⟨K, fun _ => E0, cls⟩) (own := [("k", 7)]) rfl sc_law_names.nd (it_rng1 rfl G.b_range (pl_cons pv_int pl_nil)) (blkOk_by (by show blkC ["box", "many", "letters", "first", "some", "stem", "way", "k"] (defScope s_law_names) _ _ = true; decide +kernel)) (fun _ _ _ _ _ => (pg_name (i := 7) sc_law_names.nd rfl (Or.inl rfl))) tg_nm (by decide) (fun _ _ _ _ _ => pts_nil) tb_yes (fun _ _ _ _ _ => (px_sl (pv_of (px_op op_addAll sm_add (pv_vF (pv 5)) (pv_vF (pv 2)))) po_no (po_so (pv_of (px_op op_addAll sm_add pv_int (pv_v (pv 7))))))))) po_no (po_so (pv_v (pv 1))))))
    st_nil)
  (st_last (st_ret (px_of (pv_vF (pv 4))))))))))) fun _ _ _ _ _ _ us hl => match us, hl with | [_, _], _ => rfl

/-! _law_kind -/
abbrev s_law_kind : Stmt := top 26
theorem sc_law_kind : FnScope ["box", "way", "low"] ["box"] (defScope s_law_kind) := ⟨rfl, rfl, rfl, by decide +kernel, rfl, by decide +kernel, by decide +kernel⟩
def g_law_kind : SF :=
  (sSeq (sSet 1 1 (fCall fn_law_take (aBor 0 (aCons (fC (.int 7)) aNil))))
  (sSeq (sIf (fB (f2 vLt (fVF 1) (fC (.int 2))))
    (sSeq (sSet 1 2 (f2 vIx (fD (fN vLst (fCons (fC (.int 0)) (fCons (fC (.int 1)) (fCons (fD (f1 vNeg (fC (.int 3)))) (fCons (fD (f1 vNeg (fC (.int 120)))) (fCons (fC (.int 95)) (fCons (fC (.int 999999)) (fCons (fD (f1 vNeg (fC (.int 999999)))) (fCons (fD (f2 vSub (fC (.int 10)) (fD (fCall fn_law_take (aBor 0 (aCons (fC (.int 40)) aNil)))))) fNil)))))))))) (fD (fCall fn_law_take (aBor 0 (aCons (fC (.int 8)) aNil))))))
  (sRet (fN vTup (fCons (fC (.str "number")) (fCons (fVF 2) (fCons (fD (fN (fun ds => (vMin2 ds).map EV.d) (fCons (fC (.int 999999)) (fCons (fD (f2 vAdd (fVF 2) (fD (f2 vIx (fD (fN vLst (fCons (fC (.int 0)) (fCons (fC (.int 1)) (fCons (fC (.int 9)) (fCons (fC (.int 30)) (fCons (fC (.int 250)) (fCons (fC (.int 1999998)) fNil)))))))) (fD (fCall fn_law_take (aBor 0 (aCons (fC (.int 6)) aNil)))))))) fNil)))) fNil))))))
    sNil)
  (sSeq (sIf (fB (f2 vEq (fVF 1) (fC (.int 2))))
    (sRet (fN vTup (fCons (fC (.str "one")) (fCons (fD (fN vTuple (fCons (fD (fCall fn_law_names (aBor 0 (aCons (fD (f2 vAdd (fC (.int 1)) (fD (fCall fn_law_take (aBor 0 (aCons (fC (.int 8)) aNil)))))) aNil)))) fNil))) fNil))))
    sNil)
  (sSeq (sIf (fB (f2 vEq (fVF 1) (fC (.int 3))))
    (sRet (fN vTup (fCons (fC (.str "name")) fNil)))
    sNil)
  (sRet (f2 vIx (fD (fN vLst (fCons (fD (fN vTup (fCons (fC (.str "text")) (fCons (fD (f2 vIx (fD (fN vLst (fCons (fC (.int 1)) (fCons (fC (.int 20)) (fCons (fD (f2 vAdd (fC (.int 1)) (fD (fCall fn_law_take (aBor 0 (aCons (fC (.int 20)) aNil)))))) fNil))))) (fD (fCall fn_law_take (aBor 0 (aCons (fC (.int 3)) aNil)))))) fNil)))) (fCons (fD (fN vTup (fCons (fC (.str "own")) (fCons (fD (fCall fn_law_name (aBor 0 aNil))) fNil)))) fNil)))) (fD (f2 vMod (fVF 1) (fC (.int 2))))))))))
def fn_law_kind : FnT := runF 1 3 g_law_kind
theorem ok_law_kind {P : Program} {w : World} {K : PySem.W.Frag} {mg : Str → Option Value} {base : Heap} {cls : Str → Addr} (G : Gls mg) (SY : SysOk base) {f : Addr} {fd : FuncData} (F : FunD K "_law_kind" "_law_kind" (defArgs s_law_kind) (defBody s_law_kind) (defScope s_law_kind) [] [] f fd) (hm : mg "_law_kind" = some (.ref f)) (c__law_take : Cal P w K mg base cls 1 "_law_take" fn_law_take) (c__law_names : Cal P w K mg base cls 3 "_law_names" fn_law_names) (c__law_name : Cal P w K mg base cls 2 "_law_name" fn_law_name) :
    Cal P w K mg base cls 4 "_law_kind" fn_law_kind :=
  Cal.of F hm (fn_body (k := 3) F sc_law_kind fun cdv A out s H E hr hgu =>
  (st_cons (st_set (i := 1) sc_law_kind.nd rfl (by first | exact Or.inl rfl | exact Or.inr rfl) (px_c c__law_take hr (by omega) hgu rfl (passB rfl rfl rfl rfl) (ar_bor (pv 0) (ar_cons pv_int ar_nil))))
  (st_cons (st_if (pb_cmp op_ltA sm_ord (pv_vF (pv 1)) pv_int (by with_unfolding_all rfl))
    (st_cons (st_set (i := 2) sc_law_kind.nd rfl (by first | exact Or.inl rfl | exact Or.inr rfl) (px_ix (pv_of (px_lst (pl_cons pv_int (pl_cons pv_int (pl_cons (pv_of (px_neg pv_int)) (pl_cons (pv_of (px_neg pv_int)) (pl_cons pv_int (pl_cons pv_int (pl_cons (pv_of (px_neg pv_int)) (pl_cons (pv_of (px_op op_sub sm_sub pv_int (pv_of (px_c c__law_take hr (by omega) hgu rfl (passB rfl rfl rfl rfl) (ar_bor (pv 0) (ar_cons pv_int ar_nil)))))) pl_nil)))))))))) (pv_of (px_c c__law_take hr (by omega) hgu rfl (passB rfl rfl rfl rfl) (ar_bor (pv 0) (ar_cons pv_int ar_nil))))))
  (st_last (st_ret (px_tup (pl_cons pv_str (pl_cons (pv_vF (pv 2)) (pl_cons (pv_of (px_fn (call_min2 rfl) (sm_wn sm_min2) rfl G.b_min bt_min (pl_cons pv_int (pl_cons (pv_of (px_op op_addAll sm_add (pv_vF (pv 2)) (pv_of (px_ix (pv_of (px_lst (pl_cons pv_int (pl_cons pv_int (pl_cons pv_int (pl_cons pv_int (pl_cons pv_int (pl_cons pv_int pl_nil)))))))) (pv_of (px_c c__law_take hr (by omega) hgu rfl (passB rfl rfl rfl rfl) (ar_bor (pv 0) (ar_cons pv_int ar_nil)))))))) pl_nil)))) pl_nil)))))))
    st_nil)
  (st_cons (st_if (pb_cmp (op_eqAll (un_of hr)) sm_eq (pv_vF (pv 1)) pv_int (by with_unfolding_all rfl))
    (st_last (st_ret (px_tup (pl_cons pv_str (pl_cons (pv_of (px_ty call_tuple_of sm_tuple rfl G.b_tuple boot_tuple (pl_cons (pv_of (px_c c__law_names hr (by omega) hgu rfl (passB rfl rfl rfl rfl) (ar_bor (pv 0) (ar_cons (pv_of (px_op op_addAll sm_add pv_int (pv_of (px_c c__law_take hr (by omega) hgu rfl (passB rfl rfl rfl rfl) (ar_bor (pv 0) (ar_cons pv_int ar_nil)))))) ar_nil)))) pl_nil))) pl_nil)))))
    st_nil)
  (st_cons (st_if (pb_cmp (op_eqAll (un_of hr)) sm_eq (pv_vF (pv 1)) pv_int (by with_unfolding_all rfl))
    (st_last (st_ret (px_tup (pl_cons pv_str pl_nil))))
    st_nil)
  (st_last (st_ret (px_ix (pv_of (px_lst (pl_cons (pv_of (px_tup (pl_cons pv_str (pl_cons (pv_of (px_ix (pv_of (px_lst (pl_cons pv_int (pl_cons pv_int (pl_cons (pv_of (px_op op_addAll sm_add pv_int (pv_of (px_c c__law_take hr (by omega) hgu rfl (passB rfl rfl rfl rfl) (ar_bor (pv 0) (ar_cons pv_int ar_nil)))))) pl_nil))))) (pv_of (px_c c__law_take hr (by omega) hgu rfl (passB rfl rfl rfl rfl) (ar_bor (pv 0) (ar_cons pv_int ar_nil)))))) pl_nil)))) (pl_cons (pv_of (px_tup (pl_cons pv_str (pl_cons (pv_of (px_c c__law_name hr (by omega) hgu rfl (passB rfl rfl rfl rfl) (ar_bor (pv 0) ar_nil))) pl_nil)))) pl_nil)))) (pv_of (px_op op_mod sm_mod (pv_vF (pv 1)) pv_int)))))))))) fun _ _ _ _ _ _ us hl => match us, hl with | [_], _ => rfl

/-! _law_word -/
abbrev s_law_word : Stmt := top 27
theorem sc_law_word : FnScope ["box", "top_one", "signs", "k"] ["box", "top_one"] (defScope s_law_word) := ⟨rfl, rfl, rfl, by decide +kernel, rfl, by decide +kernel, by decide +kernel⟩
def g_law_word : SF :=
  (sSeq (sSet 2 2 (f2 vAdd (fD (f2 vAdd (fD (f2 vAdd (fC (.str " !#$&()*+,-./0123456789:;<=>?@AZ[]^_az{|}~'")) (fC (.str "\"")))) (fC (.str "\\")))) (fC (.str "`"))))
  (sRet (fX (fM1 vJoin (fC (.str "")) (fD (fLc (fRng1 (fCons (fD (fCall fn_law_take (aBor 0 (aCons (fD (f2 vAdd (fV 1) (fC (.int 1)))) aNil)))) fNil)) (gNm 3) fYes (f2 vIx (fVF 2) (fD (fCall fn_law_take (aBor 0 (aCons (fW vLen (fCons (fVW 2) fNil)) aNil))))) [3]))))))
def fn_law_word : FnT := runF 2 4 g_law_word
theorem ok_law_word {P : Program} {w : World} {K : PySem.W.Frag} {mg : Str → Option Value} {base : Heap} {cls : Str → Addr} (G : Gls mg) (SY : SysOk base) {f : Addr} {fd : FuncData} (F : FunD K "_law_word" "_law_word" (defArgs s_law_word) (defBody s_law_word) (defScope s_law_word) [] [] f fd) (hm : mg "_law_word" = some (.ref f)) (c__law_take : Cal P w K mg base cls 1 "_law_take" fn_law_take) :
    Cal P w K mg base cls 2 "_law_word" fn_law_word :=
  Cal.of F hm (fn_body (k := 1) F sc_law_word fun cdv A out s H E hr hgu =>
  (st_cons (st_set (i := 2) sc_law_word.nd rfl (by first | exact Or.inl rfl | exact Or.inr rfl) (px_op op_addAll sm_add (pv_of (px_op op_addAll sm_add (pv_of (px_op op_addAll sm_add pv_str pv_str)) pv_str)) pv_str))
  (st_last (st_ret (px_of (pv_m1 PySem.F.slot_str_join PySem.F.type_str_join mt_join sm_join pv_str (pw_of (pv_of (px_lc (m' := ⟨K, fun _ => E0, cls⟩) (own := [("k", 3)]) rfl sc_law_word.nd (it_rng1 rfl G.b_range (pl_cons (pv_of (px_c c__law_take hr (by omega) hgu rfl (passB rfl rfl rfl rfl) (ar_bor (pv 0) (ar_cons (pv_of (px_op op_addAll sm_add (pv_v (pv 1)) pv_int)) ar_nil)))) pl_nil)) (blkOk_by (by show blkC ["box", "top_one", "signs", "k"] (defScope s_law_word) _ _ = true; decide +kernel)) (fun _ _ _ _ _ => (pg_name (i := 3) sc_law_word.nd rfl (Or.inl rfl))) tg_nm (by decide) (fun _ _ _ _ _ => pts_nil) tb_yes (fun _ _ _ _ _ => (px_ix (pv_vF (pv 2)) (pv_of (px_c c__law_take hr (by omega) hgu rfl pass0At (ar_bor (pv 0) (ar_cons (pv_fn call_len sm_len rfl G.b_len PySem.boot_len (lw_cons (pk_v (pv 2)) lw_nil)) ar_nil))))))))))))))) fun _ _ _ _ _ _ us hl => match us, hl with | [_, _], _ => rfl

/-! _law_is_whole -/
abbrev s_law_is_whole : Stmt := top 28
theorem sc_law_is_whole : FnScope ["thing", "low", "high"] ["thing", "low", "high"] (defScope s_law_is_whole) := ⟨rfl, rfl, rfl, by decide +kernel, rfl, by decide +kernel, by decide +kernel⟩
def g_law_is_whole : SF :=
  (sRet (fX (fAnd (fW vIsi2 (fCons (fVW 0) (fCons (fC (.ty "int")) fNil))) (fAnd (fD (f1 vNot (fW vIsi2 (fCons (fVW 0) (fCons (fC (.ty "bool")) fNil))))) (fChain vLe vLe (fV 1) (fV 0) (fV 2))))))
def fn_law_is_whole : FnT := runF 3 3 g_law_is_whole
theorem ok_law_is_whole {P : Program} {w : World} {K : PySem.W.Frag} {mg : Str → Option Value} {base : Heap} {cls : Str → Addr} (G : Gls mg) (SY : SysOk base) {f : Addr} {fd : FuncData} (F : FunD K "_law_is_whole" "_law_is_whole" (defArgs s_law_is_whole) (defBody s_law_is_whole) (defScope s_law_is_whole) [] [] f fd) (hm : mg "_law_is_whole" = some (.ref f)) :
    Cal P w K mg base cls 1 "_law_is_whole" fn_law_is_whole :=
  Cal.of F hm (fn_body (k := 0) F sc_law_is_whole fun cdv A out s H E hr hgu =>
  (st_last (st_ret (px_of (pv_and (pv_fn call_isi2 sm_isi2 rfl G.b_isinstance bt_isi (lw_cons (pk_v (pv 0)) (lw_cons (pk_tyn G.b_int boot_int) lw_nil))) (pv_and (pv_of (pv_not (pv_fn call_isi2 sm_isi2 rfl G.b_isinstance bt_isi (lw_cons (pk_v (pv 0)) (lw_cons (pk_tyn G.b_bool boot_bool) lw_nil))))) (pv_one (pv_chain op_leA sm_ord op_leA sm_ord (pv_v (pv 1)) (pv_v (pv 0)) (pv_v (pv 2)))))))))) fun _ _ _ _ _ _ us hl => match us, hl with | [_, _, _], _ => rfl

/-! _law_is_name -/
abbrev s_law_is_name : Stmt := top 29
theorem sc_law_is_name : FnScope ["thing", "sign"] ["thing"] (defScope s_law_is_name) := ⟨rfl, rfl, rfl, by decide +kernel, rfl, by decide +kernel, by decide +kernel⟩
def g_law_is_name : SF :=
  (sSeq (sIf (fOrB (fNotB (fBv (fW vIsi2 (fCons (fVW 0) (fCons (fC (.ty "str")) fNil))))) (fNotB (fBv (fChain vLt vLt (fC (.int 0)) (fW vLen (fCons (fVW 0) fNil)) (fC (.int 9))))))
    (sRet (fX (fC (.bl false))))
    sNil)
  (sRet (f2 vEq (fD (fLc (fSigns (fV 0)) (gNm 1) (fNotB (fBv (fChain vLe vLe (fC (.str "a")) (fV 1) (fC (.str "z"))))) (fX (fV 1)) [1])) (fD (fN vLst fNil)))))
def fn_law_is_name : FnT := runF 1 2 g_law_is_name
theorem ok_law_is_name {P : Program} {w : World} {K : PySem.W.Frag} {mg : Str → Option Value} {base : Heap} {cls : Str → Addr} (G : Gls mg) (SY : SysOk base) {f : Addr} {fd : FuncData} (F : FunD K "_law_is_name" "_law_is_name" (defArgs s_law_is_name) (defBody s_law_is_name) (defScope s_law_is_name) [] [] f fd) (hm : mg "_law_is_name" = some (.ref f)) :
    Cal P w K mg base cls 1 "_law_is_name" fn_law_is_name :=
  Cal.of F hm (fn_body (k := 0) F sc_law_is_name fun cdv A out s H E hr hgu =>
  (st_cons (st_if (pb_w (pb_or (pb_not (pb_v (pv_fn call_isi2 sm_isi2 rfl G.b_isinstance bt_isi (lw_cons (pk_v (pv 0)) (lw_cons (pk_tyn G.b_str boot_str) lw_nil))))) (pb_or1 (pb_not (pb_chain op_ltA sm_ord op_ltA sm_ord pv_int (pv_fn call_len sm_len rfl G.b_len PySem.boot_len (lw_cons (pk_v (pv 0)) lw_nil)) pv_int)))))
    (st_last (st_ret (px_of pv_bl)))
    st_nil)
  (st_last (st_ret (px_cmp (op_eqAll (un_of hr)) sm_eq (pv_of (px_lc (m' := ⟨K, fun _ => E0, cls⟩) (own := [("sign", 1)]) rfl sc_law_is_name.nd (it_str (pv_v (pv 0))) (blkOk_by (by show blkC ["thing", "sign"] (defScope s_law_is_name) _ _ = true; decide +kernel)) (fun _ _ _ _ _ => (pg_name (i := 1) sc_law_is_name.nd rfl (Or.inl rfl))) tg_nm (by decide) (fun _ _ _ _ _ => (pts_one (show PB _ (⟨K, fun _ => E0, cls⟩ : Pm) _ _ _ from (pb_not (pb_chain op_leA sm_ord op_leA sm_ord pv_str (pv_v (pv 1)) pv_str))))) (fun _ _ _ z => z) (fun _ _ _ _ _ => (px_of (pv_v (pv 1)))))) (pv_of (px_lst pl_nil)) (by with_unfolding_all rfl)))))) fun _ _ _ _ _ _ us hl => match us, hl with | [_], _ => rfl

/-! _law_is_word -/
abbrev s_law_is_word : Stmt := top 30
theorem sc_law_is_word : FnScope ["thing", "sign"] ["thing"] (defScope s_law_is_word) := ⟨rfl, rfl, rfl, by decide +kernel, rfl, by decide +kernel, by decide +kernel⟩
def g_law_is_word : SF :=
  (sSeq (sIf (fOrB (fNotB (fBv (fW vIsi2 (fCons (fVW 0) (fCons (fC (.ty "str")) fNil))))) (fB (f2 vGt (fW vLen (fCons (fVW 0) fNil)) (fC (.int 40)))))
    (sRet (fX (fC (.bl false))))
    sNil)
  (sRet (f2 vEq (fD (fLc (fSigns (fV 0)) (gNm 1) (fNotB (fBv (fChain vLe vLe (fC (.int 32)) (fW vOrd (fCons (fVW 1) fNil)) (fC (.int 126))))) (fX (fV 1)) [1])) (fD (fN vLst fNil)))))
def fn_law_is_word : FnT := runF 1 2 g_law_is_word
theorem ok_law_is_word {P : Program} {w : World} {K : PySem.W.Frag} {mg : Str → Option Value} {base : Heap} {cls : Str → Addr} (G : Gls mg) (SY : SysOk base) {f : Addr} {fd : FuncData} (F : FunD K "_law_is_word" "_law_is_word" (defArgs s_law_is_word) (defBody s_law_is_word) (defScope s_law_is_word) [] [] f fd) (hm : mg "_law_is_word" = some (.ref f)) :
    Cal P w K mg base cls 1 "_law_is_word" fn_law_is_word :=
  Cal.of F hm (fn_body (k := 0) F sc_law_is_word fun cdv A out s H E hr hgu =>
  (st_cons (st_if (pb_w (pb_or (pb_not (pb_v (pv_fn call_isi2 sm_isi2 rfl G.b_isinstance bt_isi (lw_cons (pk_v (pv 0)) (lw_cons (pk_tyn G.b_str boot_str) lw_nil))))) (pb_or1 (pb_cmp op_gtA sm_ord (pv_fn call_len sm_len rfl G.b_len PySem.boot_len (lw_cons (pk_v (pv 0)) lw_nil)) pv_int (by with_unfolding_all rfl)))))
    (st_last (st_ret (px_of pv_bl)))
    st_nil)
  (st_last (st_ret (px_cmp (op_eqAll (un_of hr)) sm_eq (pv_of (px_lc (m' := ⟨K, fun _ => E0, cls⟩) (own := [("sign", 1)]) rfl sc_law_is_word.nd (it_str (pv_v (pv 0))) (blkOk_by (by show blkC ["thing", "sign"] (defScope s_law_is_word) _ _ = true; decide +kernel)) (fun _ _ _ _ _ => (pg_name (i := 1) sc_law_is_word.nd rfl (Or.inl rfl))) tg_nm (by decide) (fun _ _ _ _ _ => (pts_one (show PB _ (⟨K, fun _ => E0, cls⟩ : Pm) _ _ _ from (pb_not (pb_chain op_leA sm_ord op_leA sm_ord pv_int (pv_fn call_ord sm_ordc rfl G.b_ord bt_ord (lw_cons (pk_v (pv 1)) lw_nil)) pv_int))))) (fun _ _ _ z => z) (fun _ _ _ _ _ => (px_of (pv_v (pv 1)))))) (pv_of (px_lst pl_nil)) (by with_unfolding_all rfl)))))) fun _ _ _ _ _ _ us hl => match us, hl with | [_], _ => rfl

/-! _law_is_kind -/
abbrev s_law_is_kind : Stmt := top 31
theorem sc_law_is_kind : FnScope ["thing", "word", "size", "good", "names", "one"] ["thing"] (defScope s_law_is_kind) := ⟨rfl, rfl, rfl, by decide +kernel, rfl, by decide +kernel, by decide +kernel⟩
def g_law_is_kind : SF :=
  (sSeq (sIf (fOrB (fNotB (fBv (fW vIsi2 (fCons (fVW 0) (fCons (fC (.ty "tuple")) fNil))))) (fB (f2 vEq (fV 0) (fD (fN vTup fNil)))))
    (sRet (fX (fC (.bl false))))
    sNil)
  (sSeq (sPar 1 2 (f2 vIx (fV 0) (fC (.int 0))) (fX (fW vLen (fCons (fVW 0) fNil))))
  (sSeq (sIf (fNotB (fBv (fW vIsi2 (fCons (fVW 1) (fCons (fC (.ty "str")) fNil)))))
    (sRet (fX (fC (.bl false))))
    sNil)
  (sSeq (sIf (fB (f2 vEq (fVF 1) (fC (.str "number"))))
    (sSeq (sSet 1 3 (fX (fAnd (fD (f2 vEq (fVF 2) (fC (.int 3)))) (fD (f2 vEq (fD (fLc (fItemsT (fD (fSl (fV 0) (oSome (fC (.int 1))) oNone))) (gNm 5) (fNotB (fB (fCall fn_law_is_whole (aCons (fV 5) (aCons (fD (f1 vNeg (fC (.int 999999)))) (aCons (fC (.int 999999)) aNil)))))) (fX (fV 5)) [5])) (fD (fN vLst fNil)))))))
  (sRet (fX (fAnd (fVF 3) (fD (f2 vLe (fD (f2 vIx (fV 0) (fC (.int 1)))) (fD (f2 vIx (fV 0) (fC (.int 2))))))))))
    sNil)
  (sSeq (sIf (fB (f2 vEq (fVF 1) (fC (.str "one"))))
    (sSeq (sIf (fOrB (fB (f2 vNe (fVF 2) (fC (.int 2)))) (fOrB (fNotB (fBv (fW vIsi2 (fCons (fD (f2 vIx (fV 0) (fC (.int 1)))) (fCons (fC (.ty "tuple")) fNil))))) (fNotB (fBv (fChain vLe vLe (fC (.int 1)) (fW vLen (fCons (fD (f2 vIx (fV 0) (fC (.int 1)))) fNil)) (fC (.int 8)))))))
    (sRet (fX (fC (.bl false))))
    sNil)
  (sSeq (sSet 1 4 (fLc (fItemsT (fD (f2 vIx (fV 0) (fC (.int 1))))) (gNm 5) (fB (fCall fn_law_is_name (aCons (fV 5) aNil))) (fX (fV 5)) [5]))
  (sRet (fX (fChain vEq vEq (fW vLen (fCons (fVW 4) fNil)) (fW vLen (fCons (fD (f2 vIx (fV 0) (fC (.int 1)))) fNil)) (fW vLenSet (fCons (fVW 4) fNil)))))))
    sNil)
  (sSeq (sIf (fB (f2 vEq (fVF 1) (fC (.str "text"))))
    (sRet (fX (fAnd (fD (f2 vEq (fVF 2) (fC (.int 2)))) (fD (fCall fn_law_is_whole (aCons (fD (f2 vIx (fV 0) (fC (.int 1)))) (aCons (fC (.int 1)) (aCons (fC (.int 20)) aNil))))))))
    sNil)
  (sSeq (sIf (fB (f2 vEq (fVF 1) (fC (.str "own"))))
    (sRet (fX (fAnd (fD (f2 vEq (fVF 2) (fC (.int 2)))) (fD (fCall fn_law_is_name (aCons (fD (f2 vIx (fV 0) (fC (.int 1)))) aNil))))))
    sNil)
  (sRet (f2 vEq (fV 0) (fD (fN vTup (fCons (fC (.str "name")) fNil))))))))))))
def fn_law_is_kind : FnT := runF 1 6 g_law_is_kind
theorem ok_law_is_kind {P : Program} {w : World} {K : PySem.W.Frag} {mg : Str → Option Value} {base : Heap} {cls : Str → Addr} (G : Gls mg) (SY : SysOk base) {f : Addr} {fd : FuncData} (F : FunD K "_law_is_kind" "_law_is_kind" (defArgs s_law_is_kind) (defBody s_law_is_kind) (defScope s_law_is_kind) [] [] f fd) (hm : mg "_law_is_kind" = some (.ref f)) (c__law_is_whole : Cal P w K mg base cls 1 "_law_is_whole" fn_law_is_whole) (c__law_is_name : Cal P w K mg base cls 1 "_law_is_name" fn_law_is_name) :
    Cal P w K mg base cls 2 "_law_is_kind" fn_law_is_kind :=
  Cal.of F hm (fn_body (k := 1) F sc_law_is_kind fun cdv A out s H E hr hgu =>
  (st_cons (st_if (pb_w (pb_or (pb_not (pb_v (pv_fn call_isi2 sm_isi2 rfl G.b_isinstance bt_isi (lw_cons (pk_v (pv 0)) (lw_cons (pk_tyn G.b_tuple boot_tuple) lw_nil))))) (pb_or1 (pb_cmp (op_eqAll (un_of hr)) sm_eq (pv_v (pv 0)) (pv_of (px_tup pl_nil)) (by with_unfolding_all rfl)))))
    (st_last (st_ret (px_of pv_bl)))
    st_nil)
  (st_cons (st_par (i := 1) (j := 2) rfl sc_law_is_kind.nd rfl rfl (by decide) (by decide) (by decide) rfl rfl (px_ix (pv_v (pv 0)) pv_int) (px_of (pv_fn call_len sm_len rfl G.b_len PySem.boot_len (lw_cons (pk_v (pv 0)) lw_nil))) rfl)
  (st_cons (st_if (pb_not (pb_v (pv_fn call_isi2 sm_isi2 rfl G.b_isinstance bt_isi (lw_cons (pk_v (pv 1)) (lw_cons (pk_tyn G.b_str boot_str) lw_nil)))))
    (st_last (st_ret (px_of pv_bl)))
    st_nil)
  (st_cons (st_if (pb_cmp (op_eqAll (un_of hr)) sm_eq (pv_vF (pv 1)) pv_str (by with_unfolding_all rfl))
    (st_cons (st_set (i := 3) sc_law_is_kind.nd rfl (by first | exact Or.inl rfl | exact Or.inr rfl) (px_of (pv_and (pv_of (px_cmp (op_eqAll (un_of hr)) sm_eq (pv_vF (pv 2)) pv_int (by with_unfolding_all rfl))) (pv_one (pv_of (px_cmp (op_eqAll (un_of hr)) sm_eq (pv_of (px_lc (m' := ⟨K, fun _ => E0, cls⟩) (own := [("one", 5)]) rfl sc_law_is_kind.nd (it_tup (pv_of (px_sl (pv_v (pv 0)) (po_so pv_int) po_no))) (blkOk_by (by show blkC ["thing", "word", "size", "good", "names", "one"] (defScope s_law_is_kind) _ _ = true; decide +kernel)) (fun _ _ _ _ _ => (pg_name (i := 5) sc_law_is_kind.nd rfl (Or.inl rfl))) tg_nm (by decide) (fun _ _ _ _ _ => (pts_one (show PB _ (⟨K, fun _ => E0, cls⟩ : Pm) _ _ _ from (pb_not (pb_val (px_c c__law_is_whole hr (by omega) hgu rfl pass0At (ar_cons (pv_v (pv 5)) (ar_cons (pv_of (px_neg pv_int)) (ar_cons pv_int ar_nil))))))))) (fun _ _ _ z => z) (fun _ _ _ _ _ => (px_of (pv_v (pv 5)))))) (pv_of (px_lst pl_nil)) (by with_unfolding_all rfl)))))))
  (st_last (st_ret (px_of (pv_and (pv_vF (pv 3)) (pv_one (pv_of (px_cmp op_leA sm_ord (pv_of (px_ix (pv_v (pv 0)) pv_int)) (pv_of (px_ix (pv_v (pv 0)) pv_int)) (by with_unfolding_all rfl)))))))))
    st_nil)
  (st_cons (st_if (pb_cmp (op_eqAll (un_of hr)) sm_eq (pv_vF (pv 1)) pv_str (by with_unfolding_all rfl))
    (st_cons (st_if (pb_w (pb_or (pb_cmp (op_neAll (un_of hr)) sm_ne (pv_vF (pv 2)) pv_int (by with_unfolding_all rfl)) (pb_or (pb_not (pb_v (pv_fn call_isi2 sm_isi2 rfl G.b_isinstance bt_isi (lw_cons (pw_of (pv_of (px_ix (pv_v (pv 0)) pv_int))) (lw_cons (pk_tyn G.b_tuple boot_tuple) lw_nil))))) (pb_or1 (pb_not (pb_chain op_leA sm_ord op_leA sm_ord pv_int (pv_fn call_len sm_len rfl G.b_len PySem.boot_len (lw_cons (pw_of (pv_of (px_ix (pv_v (pv 0)) pv_int))) lw_nil)) pv_int))))))
    (st_last (st_ret (px_of pv_bl)))
    st_nil)
  (st_cons (st_setLc (i := 4) (m' := ⟨K, fun _ => E0, cls⟩) (own := [("one", 5)]) rfl sc_law_is_kind.nd rfl rfl (it_tup (pv_of (px_ix (pv_v (pv 0)) pv_int))) (blkOk_by (by show blkC ["thing", "word", "size", "good", "names", "one"] (defScope s_law_is_kind) _ _ = true; decide +kernel)) (fun _ _ _ _ _ => (pg_name (i := 5) sc_law_is_kind.nd rfl (Or.inl rfl))) tg_nm (by decide) (fun _ _ _ _ _ => (pts_one (show PB _ (⟨K, fun _ => E0, cls⟩ : Pm) _ _ _ from (pb_val (px_c c__law_is_name hr (by omega) hgu rfl pass0At (ar_cons (pv_v (pv 5)) ar_nil)))))) (fun _ _ _ z => z) (fun _ _ _ _ _ => (px_of (pv_v (pv 5)))))
  (st_last (st_ret (px_of (pv_chain (op_eqAll (un_of hr)) sm_eq (op_eqAll (un_of hr)) sm_eq (pv_fn call_len sm_len rfl G.b_len PySem.boot_len (lw_cons (pk_v (pv 4)) lw_nil)) (pv_fn call_len sm_len rfl G.b_len PySem.boot_len (lw_cons (pw_of (pv_of (px_ix (pv_v (pv 0)) pv_int))) lw_nil)) (pv_lenSet rfl rfl G.b_len rfl G.b_set (pk_v (pv 4)))))))))
    st_nil)
  (st_cons (st_if (pb_cmp (op_eqAll (un_of hr)) sm_eq (pv_vF (pv 1)) pv_str (by with_unfolding_all rfl))
    (st_last (st_ret (px_of (pv_and (pv_of (px_cmp (op_eqAll (un_of hr)) sm_eq (pv_vF (pv 2)) pv_int (by with_unfolding_all rfl))) (pv_one (pv_of (px_c c__law_is_whole hr (by omega) hgu rfl (passB rfl rfl rfl rfl) (ar_cons (pv_of (px_ix (pv_v (pv 0)) pv_int)) (ar_cons pv_int (ar_cons pv_int ar_nil))))))))))
    st_nil)
  (st_cons (st_if (pb_cmp (op_eqAll (un_of hr)) sm_eq (pv_vF (pv 1)) pv_str (by with_unfolding_all rfl))
    (st_last (st_ret (px_of (pv_and (pv_of (px_cmp (op_eqAll (un_of hr)) sm_eq (pv_vF (pv 2)) pv_int (by with_unfolding_all rfl))) (pv_one (pv_of (px_c c__law_is_name hr (by omega) hgu rfl (passB rfl rfl rfl rfl) (ar_cons (pv_of (px_ix (pv_v (pv 0)) pv_int)) ar_nil))))))))
    st_nil)
  (st_last (st_ret (px_cmp (op_eqAll (un_of hr)) sm_eq (pv_v (pv 0)) (pv_of (px_tup (pl_cons pv_str pl_nil))) (by with_unfolding_all rfl)))))))))))) fun _ _ _ _ _ _ us hl => match us, hl with | [_], _ => rfl

/-! _law_bent -/
abbrev s_law_bent : Stmt := top 32
theorem sc_law_bent : FnScope ["box", "thing", "odd", "at", "way", "sign", "other"] ["box", "thing"] (defScope s_law_bent) := ⟨rfl, rfl, rfl, by decide +kernel, rfl, by decide +kernel, by decide +kernel⟩
def g_law_bent (rec : FnT) : SF :=
  (sSeq (sSet 2 2 (fN vLst (fCons (fC .non) (fCons (fC (.bl true)) (fCons (fC (.str "")) (fCons (fC (.str "Ab")) (fCons (fC (.str "ninechars")) (fCons (fC (.str "a b")) (fCons (fD (f1 vNeg (fC (.int 1)))) (fCons (fC (.int 0)) (fCons (fC (.int 21)) (fCons (fC (.int 1000000)) (fCons (fD (f1 vNeg (fC (.int 1000000)))) (fCons (fD (fN vLst fNil)) (fCons (fD fDct0) (fCons (fD (fN vTup fNil)) (fCons (fD (fN vTup (fCons (fC (.str "a")) fNil))) (fCons (fD (fN vTup (fCons (fC (.str "a")) (fCons (fC (.str "a")) fNil)))) fNil))))))))))))))))))
  (sSeq (sSet 2 2 (f2 vAdd (fVF 2) (fD (fN vLst (fCons (fD (fN vLst (fCons (fC (.str "a")) fNil))) (fCons (fC (.str "number")) (fCons (fC (.int 8)) fNil)))))))
  (sSeq (sIf (fAndB (fBv (fW vIsi2 (fCons (fVW 1) (fCons (fC (.ty "str")) fNil)))) (fB (f2 vNe (fV 1) (fC (.str "")))))
    (sSeq (sSet 2 3 (fCall fn_law_take (aBor 0 (aCons (fW vLen (fCons (fVW 1) fNil)) aNil))))
  (sSeq (sSet 2 5 (f2 vAdd (fD (f2 vAdd (fC (.str "aZ1 -")) (fC (.str "\n\t~")))) (fC (.str "_"))))
  (sSeq (sSet 2 6 (f2 vAdd (fD (f2 vAdd (fD (fSl (fV 1) oNone (oSome (fVF 3)))) (fD (f2 vIx (fVF 5) (fD (fCall fn_law_take (aBor 0 (aCons (fC (.int 9)) aNil)))))))) (fD (fSl (fV 1) (oSome (fD (f2 vAdd (fVF 3) (fC (.int 1))))) oNone))))
  (sRet (f2 vIx (fD (fN vLst (fCons (fVF 6) (fCons (fD (f2 vAdd (fV 1) (fC (.str "a")))) (fCons (fD (fSl (fD (f2 vMul (fV 1) (fC (.int 8)))) oNone (oSome (fC (.int 200))))) (fCons (fD (fN vLst (fCons (fV 1) fNil))) fNil)))))) (fD (fCall fn_law_take (aBor 0 (aCons (fC (.int 4)) aNil)))))))))
    sNil)
  (sSeq (sIf (fOrB (fNotB (fBv (fW vIsi2 (fCons (fVW 1) (fCons (fC (.ty "tuple")) fNil))))) (fB (f2 vEq (fV 1) (fD (fN vTup fNil)))))
    (sRet (f2 vIx (fVF 2) (fD (fCall fn_law_take (aBor 0 (aCons (fC (.int 18)) aNil))))))
    sNil)
  (sSeq (sSet 2 3 (fCall fn_law_take (aBor 0 (aCons (fW vLen (fCons (fVW 1) fNil)) aNil))))
  (sSeq (sSet 2 4 (fCall fn_law_take (aBor 0 (aCons (fC (.int 6)) aNil))))
  (sSeq (sIf (fB (f2 vEq (fVF 4) (fC (.int 0))))
    (sRet (f2 vAdd (fD (fSl (fV 1) oNone (oSome (fVF 3)))) (fD (fSl (fV 1) (oSome (fD (f2 vAdd (fVF 3) (fC (.int 1))))) oNone))))
    sNil)
  (sSeq (sIf (fB (f2 vEq (fVF 4) (fC (.int 1))))
    (sRet (f2 vAdd (fV 1) (fD (fN vTup (fCons (fD (f2 vIx (fVF 2) (fD (fCall fn_law_take (aBor 0 (aCons (fC (.int 18)) aNil)))))) fNil)))))
    sNil)
  (sSeq (sIf (fB (f2 vEq (fVF 4) (fC (.int 2))))
    (sRet (f2 vIx (fD (fN vLst (fCons (fD (fN vList (fCons (fV 1) fNil))) (fCons (fD (f1 vRevT (fV 1))) (fCons (fD (fN vTup (fCons (fV 1) fNil))) (fCons (fD (f2 vAdd (fV 1) (fD (fSl (fV 1) (oSome (fC (.int 1))) oNone)))) fNil)))))) (fD (fCall fn_law_take (aBor 0 (aCons (fC (.int 4)) aNil))))))
    sNil)
  (sSeq (sIf (fAndB (fB (f2 vEq (fVF 4) (fC (.int 3)))) (fB (f2 vGt (fVF 3) (fC (.int 0)))))
    (sRet (f2 vAdd (fD (f2 vAdd (fD (fSl (fV 1) oNone (oSome (fVF 3)))) (fD (fN vTup (fCons (fD (fCall rec (aBor 0 (aCons (fD (f2 vIx (fV 1) (fVF 3))) aNil)))) fNil))))) (fD (fSl (fV 1) (oSome (fD (f2 vAdd (fVF 3) (fC (.int 1))))) oNone))))
    sNil)
  (sRet (f2 vAdd (fD (f2 vAdd (fD (fSl (fV 1) oNone (oSome (fVF 3)))) (fD (fN vTup (fCons (fD (f2 vIx (fVF 2) (fD (fCall fn_law_take (aBor 0 (aCons (fC (.int 18)) aNil)))))) fNil))))) (fD (fSl (fV 1) (oSome (fD (f2 vAdd (fVF 3) (fC (.int 1))))) oNone))))))))))))))
def fn_law_bent : Nat → FnT
  | 0 => fun _ => .no
  | n + 1 => runF 2 7 (g_law_bent (fn_law_bent n))
theorem ok_law_bent {P : Program} {w : World} {K : PySem.W.Frag} {mg : Str → Option Value} {base : Heap} {cls : Str → Addr} (G : Gls mg) (SY : SysOk base) {f : Addr} {fd : FuncData} (F : FunD K "_law_bent" "_law_bent" (defArgs s_law_bent) (defBody s_law_bent) (defScope s_law_bent) [] [] f fd) (hm : mg "_law_bent" = some (.ref f)) (c__law_take : Cal P w K mg base cls 1 "_law_take" fn_law_take) :
    ∀ n : Nat, Cal P w K mg base cls (1 + n) "_law_bent" (fn_law_bent n)
  | 0 => Cal.of (ps := ["box", "thing"]) F hm FnG.no fun _ _ _ _ _ _ us hl => match us, hl with | [_, _], _ => rfl
  | n + 1 => by
    have c__law_bent : Cal P w K mg base cls (1 + n) "_law_bent" (fn_law_bent n) := ok_law_bent G SY F hm c__law_take n
    exact Cal.of F hm (fn_body (k := 1 + n) F sc_law_bent fun cdv A out s H E hr hgu =>
  (st_cons (st_set (i := 2) sc_law_bent.nd rfl (by first | exact Or.inl rfl | exact Or.inr rfl) (px_lst (pl_cons pv_non (pl_cons pv_bl (pl_cons pv_str (pl_cons pv_str (pl_cons pv_str (pl_cons pv_str (pl_cons (pv_of (px_neg pv_int)) (pl_cons pv_int (pl_cons pv_int (pl_cons pv_int (pl_cons (pv_of (px_neg pv_int)) (pl_cons (pv_of (px_lst pl_nil)) (pl_cons (pv_of px_dct0) (pl_cons (pv_of (px_tup pl_nil)) (pl_cons (pv_of (px_tup (pl_cons pv_str pl_nil))) (pl_cons (pv_of (px_tup (pl_cons pv_str (pl_cons pv_str pl_nil)))) pl_nil))))))))))))))))))
  (st_cons (st_set (i := 2) sc_law_bent.nd rfl (by first | exact Or.inl rfl | exact Or.inr rfl) (px_op op_addAll sm_add (pv_vF (pv 2)) (pv_of (px_lst (pl_cons (pv_of (px_lst (pl_cons pv_str pl_nil))) (pl_cons pv_str (pl_cons pv_int pl_nil)))))))
  (st_cons (st_if (pb_w (pb_and (pb_v (pv_fn call_isi2 sm_isi2 rfl G.b_isinstance bt_isi (lw_cons (pk_v (pv 1)) (lw_cons (pk_tyn G.b_str boot_str) lw_nil)))) (pb_and1 (pb_cmp (op_neAll (un_of hr)) sm_ne (pv_v (pv 1)) pv_str (by with_unfolding_all rfl)))))
    (st_cons (st_set (i := 3) sc_law_bent.nd rfl (by first | exact Or.inl rfl | exact Or.inr rfl) (px_c c__law_take hr (by omega) hgu rfl (passB rfl rfl rfl rfl) (ar_bor (pv 0) (ar_cons (pv_fn call_len sm_len rfl G.b_len PySem.boot_len (lw_cons (pk_v (pv 1)) lw_nil)) ar_nil))))
  (st_cons (st_set (i := 5) sc_law_bent.nd rfl (by first | exact Or.inl rfl | exact Or.inr rfl) (px_op op_addAll sm_add (pv_of (px_op op_addAll sm_add pv_str pv_str)) pv_str))
  (st_cons (st_set (i := 6) sc_law_bent.nd rfl (by first | exact Or.inl rfl | exact Or.inr rfl) (px_op op_addAll sm_add (pv_of (px_op op_addAll sm_add (pv_of (px_sl (pv_v (pv 1)) po_no (po_so (pv_vF (pv 3))))) (pv_of (px_ix (pv_vF (pv 5)) (pv_of (px_c c__law_take hr (by omega) hgu rfl (passB rfl rfl rfl rfl) (ar_bor (pv 0) (ar_cons pv_int ar_nil)))))))) (pv_of (px_sl (pv_v (pv 1)) (po_so (pv_of (px_op op_addAll sm_add (pv_vF (pv 3)) pv_int))) po_no))))
  (st_last (st_ret (px_ix (pv_of (px_lst (pl_cons (pv_vF (pv 6)) (pl_cons (pv_of (px_op op_addAll sm_add (pv_v (pv 1)) pv_str)) (pl_cons (pv_of (px_sl (pv_of (px_op op_mulAll sm_mul (pv_v (pv 1)) pv_int)) po_no (po_so pv_int))) (pl_cons (pv_of (px_lst (pl_cons (pv_v (pv 1)) pl_nil))) pl_nil)))))) (pv_of (px_c c__law_take hr (by omega) hgu rfl (passB rfl rfl rfl rfl) (ar_bor (pv 0) (ar_cons pv_int ar_nil))))))))))
    st_nil)
  (st_cons (st_if (pb_w (pb_or (pb_not (pb_v (pv_fn call_isi2 sm_isi2 rfl G.b_isinstance bt_isi (lw_cons (pk_v (pv 1)) (lw_cons (pk_tyn G.b_tuple boot_tuple) lw_nil))))) (pb_or1 (pb_cmp (op_eqAll (un_of hr)) sm_eq (pv_v (pv 1)) (pv_of (px_tup pl_nil)) (by with_unfolding_all rfl)))))
    (st_last (st_ret (px_ix (pv_vF (pv 2)) (pv_of (px_c c__law_take hr (by omega) hgu rfl (passB rfl rfl rfl rfl) (ar_bor (pv 0) (ar_cons pv_int ar_nil)))))))
    st_nil)
  (st_cons (st_set (i := 3) sc_law_bent.nd rfl (by first | exact Or.inl rfl | exact Or.inr rfl) (px_c c__law_take hr (by omega) hgu rfl (passB rfl rfl rfl rfl) (ar_bor (pv 0) (ar_cons (pv_fn call_len sm_len rfl G.b_len PySem.boot_len (lw_cons (pk_v (pv 1)) lw_nil)) ar_nil))))
  (st_cons (st_set (i := 4) sc_law_bent.nd rfl (by first | exact Or.inl rfl | exact Or.inr rfl) (px_c c__law_take hr (by omega) hgu rfl (passB rfl rfl rfl rfl) (ar_bor (pv 0) (ar_cons pv_int ar_nil))))
  (st_cons (st_if (pb_cmp (op_eqAll (un_of hr)) sm_eq (pv_vF (pv 4)) pv_int (by with_unfolding_all rfl))
    (st_last (st_ret (px_op op_addAll sm_add (pv_of (px_sl (pv_v (pv 1)) po_no (po_so (pv_vF (pv 3))))) (pv_of (px_sl (pv_v (pv 1)) (po_so (pv_of (px_op op_addAll sm_add (pv_vF (pv 3)) pv_int))) po_no)))))
    st_nil)
  (st_cons (st_if (pb_cmp (op_eqAll (un_of hr)) sm_eq (pv_vF (pv 4)) pv_int (by with_unfolding_all rfl))
    (st_last (st_ret (px_op op_addAll sm_add (pv_v (pv 1)) (pv_of (px_tup (pl_cons (pv_of (px_ix (pv_vF (pv 2)) (pv_of (px_c c__law_take hr (by omega) hgu rfl (passB rfl rfl rfl rfl) (ar_bor (pv 0) (ar_cons pv_int ar_nil)))))) pl_nil))))))
    st_nil)
  (st_cons (st_if (pb_cmp (op_eqAll (un_of hr)) sm_eq (pv_vF (pv 4)) pv_int (by with_unfolding_all rfl))
    (st_last (st_ret (px_ix (pv_of (px_lst (pl_cons (pv_of (px_ty call_list_of sm_list rfl G.b_list boot_list (pl_cons (pv_v (pv 1)) pl_nil))) (pl_cons (pv_of (px_revT (pv_v (pv 1)))) (pl_cons (pv_of (px_tup (pl_cons (pv_v (pv 1)) pl_nil))) (pl_cons (pv_of (px_op op_addAll sm_add (pv_v (pv 1)) (pv_of (px_sl (pv_v (pv 1)) (po_so pv_int) po_no)))) pl_nil)))))) (pv_of (px_c c__law_take hr (by omega) hgu rfl (passB rfl rfl rfl rfl) (ar_bor (pv 0) (ar_cons pv_int ar_nil)))))))
    st_nil)
  (st_cons (st_if (pb_w (pb_and (pb_cmp (op_eqAll (un_of hr)) sm_eq (pv_vF (pv 4)) pv_int (by with_unfolding_all rfl)) (pb_and1 (pb_cmp op_gtA sm_ord (pv_vF (pv 3)) pv_int (by with_unfolding_all rfl)))))
    (st_last (st_ret (px_op op_addAll sm_add (pv_of (px_op op_addAll sm_add (pv_of (px_sl (pv_v (pv 1)) po_no (po_so (pv_vF (pv 3))))) (pv_of (px_tup (pl_cons (pv_of (px_c c__law_bent hr (by omega) hgu rfl (passB rfl rfl rfl rfl) (ar_bor (pv 0) (ar_cons (pv_of (px_ix (pv_v (pv 1)) (pv_vF (pv 3)))) ar_nil)))) pl_nil))))) (pv_of (px_sl (pv_v (pv 1)) (po_so (pv_of (px_op op_addAll sm_add (pv_vF (pv 3)) pv_int))) po_no)))))
    st_nil)
  (st_last (st_ret (px_op op_addAll sm_add (pv_of (px_op op_addAll sm_add (pv_of (px_sl (pv_v (pv 1)) po_no (po_so (pv_vF (pv 3))))) (pv_of (px_tup (pl_cons (pv_of (px_ix (pv_vF (pv 2)) (pv_of (px_c c__law_take hr (by omega) hgu rfl (passB rfl rfl rfl rfl) (ar_bor (pv 0) (ar_cons pv_int ar_nil)))))) pl_nil))))) (pv_of (px_sl (pv_v (pv 1)) (po_so (pv_of (px_op op_addAll sm_add (pv_vF (pv 3)) pv_int))) po_no)))))))))))))))) fun _ _ _ _ _ _ us hl => match us, hl with | [_, _], _ => rfl

/-! _law_right -/
abbrev s_law_right : Stmt := top 33
theorem sc_law_right : FnScope ["thing", "low", "high", "kept", "due", "turn", "found"] ["thing", "low", "high"] (defScope s_law_right) := ⟨rfl, rfl, rfl, by decide +kernel, rfl, by decide +kernel, by decide +kernel⟩
def g_law_right : SF :=
  (sSeq (sSet 3 3 (fX (fW vRepr (fCons (fVW 0) fNil))))
  (sSeq (sSet 3 4 (fN vLst (fCons (fD (fCall fn_law_is_name (aCons (fV 0) aNil))) (fCons (fAnd (fD (fCall fn_law_is_name (aCons (fV 0) aNil))) (fD (f2 vEq (fW vLen (fCons (fVW 0) fNil)) (fC (.int 1))))) (fCons (fD (fCall fn_law_is_word (aCons (fV 0) aNil))) (fCons (fD (fCall fn_law_is_kind (aCons (fV 0) aNil))) fNil))))))
  (sSeq (sExpr (fX (fMt 4 vAppend (fCons (fD (fCall fn_law_is_whole (aCons (fV 0) (aCons (fV 1) (aCons (fV 2) aNil))))) fNil))))
  (sSeq (sFor (fRng1 (fCons (fC (.int 2)) fNil)) (gNm 5)
    (sSeq (sSet 3 6 (fN vLst (fCons (fD (fCall fn_is_name (aCons (fV 0) aNil))) (fCons (fD (fCall fn_is_letter (aCons (fV 0) aNil))) (fCons (fD (fCall fn_is_word (aCons (fV 0) aNil))) (fCons (fD (fCall fn_is_kind (aCons (fV 0) aNil))) (fCons (fD (fCall fn_is_whole (aCons (fV 0) (aCons (fV 1) (aCons (fV 2) aNil))))) fNil)))))))
  (sIf (fB (f2 vNe (fW vRepr (fCons (fVW 6) fNil)) (fW vRepr (fCons (fVW 4) fNil))))
    (sRet (fX (fC (.bl false))))
    sNil)))
  (sRet (fX (fAnd (fD (f2 vEq (fW vRepr (fCons (fVW 0) fNil)) (fVF 3))) (fD (f2 vEq (fW vRepr (fCons (fD (fCall fn_is_whole (aCons (fV 0) (aCons (fV 2) (aCons (fV 1) aNil))))) fNil)) (fW vRepr (fCons (fD (fCall fn_law_is_whole (aCons (fV 0) (aCons (fV 2) (aCons (fV 1) aNil))))) fNil)))))))))))
def fn_law_right : FnT := runF 3 7 g_law_right
theorem ok_law_right {P : Program} {w : World} {K : PySem.W.Frag} {mg : Str → Option Value} {base : Heap} {cls : Str → Addr} (G : Gls mg) (SY : SysOk base) {f : Addr} {fd : FuncData} (F : FunD K "_law_right" "_law_right" (defArgs s_law_right) (defBody s_law_right) (defScope s_law_right) [] [] f fd) (hm : mg "_law_right" = some (.ref f)) (c__law_is_name : Cal P w K mg base cls 1 "_law_is_name" fn_law_is_name) (c__law_is_word : Cal P w K mg base cls 1 "_law_is_word" fn_law_is_word) (c__law_is_kind : Cal P w K mg base cls 2 "_law_is_kind" fn_law_is_kind) (c__law_is_whole : Cal P w K mg base cls 1 "_law_is_whole" fn_law_is_whole) (c_is_name : Cal P w K mg base cls 1 "is_name" fn_is_name) (c_is_letter : Cal P w K mg base cls 2 "is_letter" fn_is_letter) (c_is_word : Cal P w K mg base cls 1 "is_word" fn_is_word) (c_is_kind : Cal P w K mg base cls 2 "is_kind" fn_is_kind) (c_is_whole : Cal P w K mg base cls 1 "is_whole" fn_is_whole) :
    Cal P w K mg base cls 3 "_law_right" fn_law_right :=
  Cal.of F hm (fn_body (k := 2) F sc_law_right fun cdv A out s H E hr hgu =>
  (st_cons (st_set (i := 3) sc_law_right.nd rfl (by first | exact Or.inl rfl | exact Or.inr rfl) (px_of (pv_fn (call_rep hgu (un_of hr) SY) sm_rep rfl G.b_repr bt_repr (lw_cons (pk_v (pv 0)) lw_nil))))
  (st_cons (st_set (i := 4) sc_law_right.nd rfl (by first | exact Or.inl rfl | exact Or.inr rfl) (px_lst (pl_cons (pv_of (px_c c__law_is_name hr (by omega) hgu rfl (passB rfl rfl rfl rfl) (ar_cons (pv_v (pv 0)) ar_nil))) (pl_cons (pv_and (pv_of (px_c c__law_is_name hr (by omega) hgu rfl (passB rfl rfl rfl rfl) (ar_cons (pv_v (pv 0)) ar_nil))) (pv_one (pv_of (px_cmp (op_eqAll (un_of hr)) sm_eq (pv_fn call_len sm_len rfl G.b_len PySem.boot_len (lw_cons (pk_v (pv 0)) lw_nil)) pv_int (by with_unfolding_all rfl))))) (pl_cons (pv_of (px_c c__law_is_word hr (by omega) hgu rfl (passB rfl rfl rfl rfl) (ar_cons (pv_v (pv 0)) ar_nil))) (pl_cons (pv_of (px_c c__law_is_kind hr (by omega) hgu rfl (passB rfl rfl rfl rfl) (ar_cons (pv_v (pv 0)) ar_nil))) pl_nil))))))
  (st_cons (st_expr (px_of (pv_mt (i := 4) PySem.F.slot_list_append PySem.F.type_list_append mt_append so_append (pv 4) (pl_cons (pv_of (px_c c__law_is_whole hr (by omega) hgu rfl (passB rfl rfl rfl rfl) (ar_cons (pv_v (pv 0)) (ar_cons (pv_v (pv 1)) (ar_cons (pv_v (pv 2)) ar_nil))))) pl_nil))))
  (st_cons (st_for (passes_of rfl) rfl (it_rng1 rfl G.b_range (pl_cons pv_int pl_nil)) (pg_name (i := 5) sc_law_right.nd rfl (Or.inl rfl)) tg_nm
    (st_cons (st_set (i := 6) sc_law_right.nd rfl (by first | exact Or.inl rfl | exact Or.inr rfl) (px_lst (pl_cons (pv_of (px_c c_is_name hr (by omega) hgu rfl (passB rfl rfl rfl rfl) (ar_cons (pv_v (pv 0)) ar_nil))) (pl_cons (pv_of (px_c c_is_letter hr (by omega) hgu rfl (passB rfl rfl rfl rfl) (ar_cons (pv_v (pv 0)) ar_nil))) (pl_cons (pv_of (px_c c_is_word hr (by omega) hgu rfl (passB rfl rfl rfl rfl) (ar_cons (pv_v (pv 0)) ar_nil))) (pl_cons (pv_of (px_c c_is_kind hr (by omega) hgu rfl (passB rfl rfl rfl rfl) (ar_cons (pv_v (pv 0)) ar_nil))) (pl_cons (pv_of (px_c c_is_whole hr (by omega) hgu rfl (passB rfl rfl rfl rfl) (ar_cons (pv_v (pv 0)) (ar_cons (pv_v (pv 1)) (ar_cons (pv_v (pv 2)) ar_nil))))) pl_nil)))))))
  (st_last (st_if (pb_cmp (op_neAll (un_of hr)) sm_ne (pv_fn (call_rep hgu (un_of hr) SY) sm_rep rfl G.b_repr bt_repr (lw_cons (pk_v (pv 6)) lw_nil)) (pv_fn (call_rep hgu (un_of hr) SY) sm_rep rfl G.b_repr bt_repr (lw_cons (pk_v (pv 4)) lw_nil)) (by with_unfolding_all rfl))
    (st_last (st_ret (px_of pv_bl)))
    st_nil))))
  (st_last (st_ret (px_of (pv_and (pv_of (px_cmp (op_eqAll (un_of hr)) sm_eq (pv_fn (call_rep hgu (un_of hr) SY) sm_rep rfl G.b_repr bt_repr (lw_cons (pk_v (pv 0)) lw_nil)) (pv_vF (pv 3)) (by with_unfolding_all rfl))) (pv_one (pv_of (px_cmp (op_eqAll (un_of hr)) sm_eq (pv_fn (call_rep hgu (un_of hr) SY) sm_rep rfl G.b_repr bt_repr (lw_cons (pw_of (pv_of (px_c c_is_whole hr (by omega) hgu rfl (passB rfl rfl rfl rfl) (ar_cons (pv_v (pv 0)) (ar_cons (pv_v (pv 2)) (ar_cons (pv_v (pv 1)) ar_nil)))))) lw_nil)) (pv_fn (call_rep hgu (un_of hr) SY) sm_rep rfl G.b_repr bt_repr (lw_cons (pw_of (pv_of (px_c c__law_is_whole hr (by omega) hgu rfl (passB rfl rfl rfl rfl) (ar_cons (pv_v (pv 0)) (ar_cons (pv_v (pv 2)) (ar_cons (pv_v (pv 1)) ar_nil)))))) lw_nil)) (by with_unfolding_all rfl))))))))))))) fun _ _ _ _ _ _ us hl => match us, hl with | [_, _, _], _ => rfl

/-! _law_first -/
abbrev s_law_first : Stmt := top 34
theorem sc_law_first : FnScope ["script", "k", "box", "some", "thing", "low", "high", "bent"] ["script"] (defScope s_law_first) := ⟨rfl, rfl, rfl, by decide +kernel, rfl, by decide +kernel, by decide +kernel⟩
def g_law_first : SF :=
  (sSeq (sFor (fRng1 (fCons (fW vMax2 (fCons (fC (.int 3)) (fCons (fW vMin2 (fCons (fC (.int 12)) (fCons (fW vLen (fCons (fVW 0) fNil)) fNil))) fNil))) fNil)) (gNm 1)
    (sSeq (sSet 1 2 (fCall fn_law_box (aCons (fD (fCall fn_law_cell (aCons (fV 0) (aCons (fV 1) aNil)))) aNil)))
  (sSeq (sPar 5 6 (f2 vSub (fD (fCall fn_law_take (aBor 2 (aCons (fC (.int 20)) aNil)))) (fC (.int 10))) (f2 vIx (fD (fN vLst (fCons (fD (f2 vSub (fD (fCall fn_law_take (aBor 2 (aCons (fC (.int 20)) aNil)))) (fC (.int 10)))) (fCons (fD (f2 vPow (fC (.int 10)) (fC (.int 29)))) fNil)))) (fD (fCall fn_law_take (aBor 2 (aCons (fC (.int 2)) aNil))))))
  (sSeq (sSet 1 3 (fN vLst (fCons (fD (fCall fn_law_kind (aBor 2 aNil))) (fCons (fD (fCall fn_law_name (aBor 2 aNil))) (fCons (fD (fCall fn_law_word (aBor 2 (aCons (fC (.int 40)) aNil)))) (fCons (fD (fCall fn_law_names (aBor 2 (aCons (fC (.int 8)) aNil)))) (fCons (fD (f2 vMul (fC (.str "~")) (fC (.int 40)))) (fCons (fD (f2 vMul (fC (.str "~")) (fC (.int 41)))) (fCons (fVF 5) (fCons (fVF 6) fNil))))))))))
  (sSeq (sSet 1 3 (f2 vAdd (fVF 3) (fD (fN vLst (fCons (fD (f2 vSub (fVF 5) (fC (.int 1)))) (fCons (fD (f2 vAdd (fVF 6) (fC (.int 1)))) (fCons (fC (.bl true)) (fCons (fC (.bl false)) (fCons (fC .non) (fCons (fD (fN vTup fNil)) (fCons (fD fDct0) (fCons (fD (fN vLst (fCons (fD (fCall fn_law_kind (aBor 2 aNil))) fNil))) (fCons (fD (fN (vMkv "NoKind") (fCons (fC (.int 1)) fNil))) fNil)))))))))))))
  (sSeq (sSet 1 3 (f2 vAdd (fVF 3) (fD (fN vLst (fCons (fD (fN vTup (fCons (fC (.str "name")) (fCons (fC (.str "name")) fNil)))) (fCons (fC (.str "abcdefgh")) fNil))))))
  (sFor (fItems (fVF 3)) (gNm 4)
    (sSeq (sIf (fNotB (fB (fCall fn_law_right (aCons (fV 4) (aCons (fVF 5) (aCons (fVF 6) aNil))))))
    (sRet (fX (fC (.bl false))))
    sNil)
  (sIf (fBv (fIsT2 ["str", "tuple"] (fVW 4)))
    (sSeq (sSet 1 7 (fCall (fn_law_bent 8) (aBor 2 (aCons (fV 4) aNil))))
  (sIf (fOrB (fNotB (fB (fCall fn_law_right (aCons (fVF 7) (aCons (fVF 5) (aCons (fVF 6) aNil)))))) (fNotB (fB (fCall fn_law_right (aCons (fD (fCall (fn_law_bent 8) (aBor 2 (aCons (fVF 7) aNil)))) (aCons (fVF 5) (aCons (fVF 6) aNil)))))))
    (sRet (fX (fC (.bl false))))
    sNil))
    sNil)))))))))
  (sRet (fX (fC (.bl true)))))
def fn_law_first : FnT := runF 1 8 g_law_first
theorem ok_law_first {P : Program} {w : World} {K : PySem.W.Frag} {mg : Str → Option Value} {base : Heap} {cls : Str → Addr} (G : Gls mg) (SY : SysOk base) {f : Addr} {fd : FuncData} (F : FunD K "_law_first" "_law_first" (defArgs s_law_first) (defBody s_law_first) (defScope s_law_first) [] [] f fd) (hm : mg "_law_first" = some (.ref f)) (c__law_cell : Cal P w K mg base cls 1 "_law_cell" fn_law_cell) (c__law_box : Cal P w K mg base cls 1 "_law_box" fn_law_box) (c__law_take : Cal P w K mg base cls 1 "_law_take" fn_law_take) (c__law_kind : Cal P w K mg base cls 4 "_law_kind" fn_law_kind) (c__law_name : Cal P w K mg base cls 2 "_law_name" fn_law_name) (c__law_word : Cal P w K mg base cls 2 "_law_word" fn_law_word) (c__law_names : Cal P w K mg base cls 3 "_law_names" fn_law_names) (c__law_right : Cal P w K mg base cls 3 "_law_right" fn_law_right) (c__law_bent : Cal P w K mg base cls 9 "_law_bent" (fn_law_bent 8)) (e_NoKind : ExF P w K mg base cls "NoKind" "found") (k_NoKind : ExK K (cls "NoKind") "NoKind") :
    Cal P w K mg base cls 10 "_law_first" fn_law_first :=
  Cal.of F hm (fn_body (k := 9) F sc_law_first fun cdv A out s H E hr hgu =>
  (st_cons (st_for (passes_of rfl) rfl (it_rng1 rfl G.b_range (pl_cons (pv_fn (call_max2 rfl) sm_max2 rfl G.b_max bt_max (lw_cons (pw_of pv_int) (lw_cons (pw_of (pv_fn (call_min2 rfl) sm_min2 rfl G.b_min bt_min (lw_cons (pw_of pv_int) (lw_cons (pw_of (pv_fn call_len sm_len rfl G.b_len PySem.boot_len (lw_cons (pk_v (pv 0)) lw_nil))) lw_nil)))) lw_nil))) pl_nil)) (pg_name (i := 1) sc_law_first.nd rfl (Or.inl rfl)) tg_nm
    (st_cons (st_set (i := 2) sc_law_first.nd rfl (by first | exact Or.inl rfl | exact Or.inr rfl) (px_c c__law_box hr (by omega) hgu rfl (passB rfl rfl rfl rfl) (ar_cons (pv_of (px_c c__law_cell hr (by omega) hgu rfl (passB rfl rfl rfl rfl) (ar_cons (pv_v (pv 0)) (ar_cons (pv_v (pv 1)) ar_nil)))) ar_nil)))
  (st_cons (st_par (i := 5) (j := 6) rfl sc_law_first.nd rfl rfl (by decide) (by decide) (by decide) rfl rfl (px_op op_sub sm_sub (pv_of (px_c c__law_take hr (by omega) hgu rfl (passB rfl rfl rfl rfl) (ar_bor (pv 2) (ar_cons pv_int ar_nil)))) pv_int) (px_ix (pv_of (px_lst (pl_cons (pv_of (px_op op_sub sm_sub (pv_of (px_c c__law_take hr (by omega) hgu rfl (passB rfl rfl rfl rfl) (ar_bor (pv 2) (ar_cons pv_int ar_nil)))) pv_int)) (pl_cons (pv_of (px_op op_pow sm_pow pv_int pv_int)) pl_nil)))) (pv_of (px_c c__law_take hr (by omega) hgu rfl (passB rfl rfl rfl rfl) (ar_bor (pv 2) (ar_cons pv_int ar_nil))))) rfl)
  (st_cons (st_set (i := 3) sc_law_first.nd rfl (by first | exact Or.inl rfl | exact Or.inr rfl) (px_lst (pl_cons (pv_of (px_c c__law_kind hr (by omega) hgu rfl (passB rfl rfl rfl rfl) (ar_bor (pv 2) ar_nil))) (pl_cons (pv_of (px_c c__law_name hr (by omega) hgu rfl (passB rfl rfl rfl rfl) (ar_bor (pv 2) ar_nil))) (pl_cons (pv_of (px_c c__law_word hr (by omega) hgu rfl (passB rfl rfl rfl rfl) (ar_bor (pv 2) (ar_cons pv_int ar_nil)))) (pl_cons (pv_of (px_c c__law_names hr (by omega) hgu rfl (passB rfl rfl rfl rfl) (ar_bor (pv 2) (ar_cons pv_int ar_nil)))) (pl_cons (pv_of (px_op op_mulAll sm_mul pv_str pv_int)) (pl_cons (pv_of (px_op op_mulAll sm_mul pv_str pv_int)) (pl_cons (pv_vF (pv 5)) (pl_cons (pv_vF (pv 6)) pl_nil))))))))))
  (st_cons (st_set (i := 3) sc_law_first.nd rfl (by first | exact Or.inl rfl | exact Or.inr rfl) (px_op op_addAll sm_add (pv_vF (pv 3)) (pv_of (px_lst (pl_cons (pv_of (px_op op_sub sm_sub (pv_vF (pv 5)) pv_int)) (pl_cons (pv_of (px_op op_addAll sm_add (pv_vF (pv 6)) pv_int)) (pl_cons pv_bl (pl_cons pv_bl (pl_cons pv_non (pl_cons (pv_of (px_tup pl_nil)) (pl_cons (pv_of px_dct0) (pl_cons (pv_of (px_lst (pl_cons (pv_of (px_c c__law_kind hr (by omega) hgu rfl (passB rfl rfl rfl rfl) (ar_bor (pv 2) ar_nil))) pl_nil))) (pl_cons (pv_of (px_mk e_NoKind.ok k_NoKind hr (by omega) rfl (pl_cons pv_int pl_nil))) pl_nil)))))))))))))
  (st_cons (st_set (i := 3) sc_law_first.nd rfl (by first | exact Or.inl rfl | exact Or.inr rfl) (px_op op_addAll sm_add (pv_vF (pv 3)) (pv_of (px_lst (pl_cons (pv_of (px_tup (pl_cons pv_str (pl_cons pv_str pl_nil)))) (pl_cons pv_str pl_nil))))))
  (st_last (st_for (passes_of rfl) rfl (it_list (pv_vF (pv 3))) (pg_name (i := 4) sc_law_first.nd rfl (Or.inl rfl)) tg_nm
    (st_cons (st_if (pb_not (pb_val (px_c c__law_right hr (by omega) hgu rfl (passB rfl rfl rfl rfl) (ar_cons (pv_v (pv 4)) (ar_cons (pv_vF (pv 5)) (ar_cons (pv_vF (pv 6)) ar_nil))))))
    (st_last (st_ret (px_of pv_bl)))
    st_nil)
  (st_last (st_if (pb_v (pv_isT2 rfl G.b_isinstance (pk_v (pv 4)) (tys_cons (pe_tyn G.b_str boot_str) (tys_cons (pe_tyn G.b_tuple boot_tuple) tys_nil))))
    (st_cons (st_set (i := 7) sc_law_first.nd rfl (by first | exact Or.inl rfl | exact Or.inr rfl) (px_c c__law_bent hr (by omega) hgu rfl (passB rfl rfl rfl rfl) (ar_bor (pv 2) (ar_cons (pv_v (pv 4)) ar_nil))))
  (st_last (st_if (pb_w (pb_or (pb_not (pb_val (px_c c__law_right hr (by omega) hgu rfl (passB rfl rfl rfl rfl) (ar_cons (pv_vF (pv 7)) (ar_cons (pv_vF (pv 5)) (ar_cons (pv_vF (pv 6)) ar_nil)))))) (pb_or1 (pb_not (pb_val (px_c c__law_right hr (by omega) hgu rfl (passB rfl rfl rfl rfl) (ar_cons (pv_of (px_c c__law_bent hr (by omega) hgu rfl (passB rfl rfl rfl rfl) (ar_bor (pv 2) (ar_cons (pv_vF (pv 7)) ar_nil)))) (ar_cons (pv_vF (pv 5)) (ar_cons (pv_vF (pv 6)) ar_nil)))))))))
    (st_last (st_ret (px_of pv_bl)))
    st_nil)))
    st_nil)))))))))))
  (st_last (st_ret (px_of pv_bl))))) fun _ _ _ _ _ _ us hl => match us, hl with | [_], _ => rfl

/-! _law_cell_two -/
abbrev s_law_cell_two : Stmt := top 35
theorem sc_law_cell_two : FnScope ["script", "k"] ["script", "k"] (defScope s_law_cell_two) := ⟨rfl, rfl, rfl, by decide +kernel, rfl, by decide +kernel, by decide +kernel⟩
def g_law_cell_two : SF :=
  (sSeq (sIf (fB (f2 vLt (fV 1) (fW vLen (fCons (fVW 0) fNil))))
    (sRet (f2 vIx (fV 0) (fV 1)))
    sNil)
  (sRet (f2 vAdd (fD (f2 vMul (fC (.int 86028121)) (fV 1))) (fC (.int 403)))))
def fn_law_cell_two : FnT := runF 2 2 g_law_cell_two
theorem ok_law_cell_two {P : Program} {w : World} {K : PySem.W.Frag} {mg : Str → Option Value} {base : Heap} {cls : Str → Addr} (G : Gls mg) (SY : SysOk base) {f : Addr} {fd : FuncData} (F : FunD K "_law_cell_two" "_law_cell_two" (defArgs s_law_cell_two) (defBody s_law_cell_two) (defScope s_law_cell_two) [] [] f fd) (hm : mg "_law_cell_two" = some (.ref f)) :
    Cal P w K mg base cls 1 "_law_cell_two" fn_law_cell_two :=
  Cal.of F hm (fn_body (k := 0) F sc_law_cell_two fun cdv A out s H E hr hgu =>
  (st_cons (st_if (pb_cmp op_ltA sm_ord (pv_v (pv 1)) (pv_fn call_len sm_len rfl G.b_len PySem.boot_len (lw_cons (pk_v (pv 0)) lw_nil)) (by with_unfolding_all rfl))
    (st_last (st_ret (px_ix (pv_v (pv 0)) (pv_v (pv 1)))))
    st_nil)
  (st_last (st_ret (px_op op_addAll sm_add (pv_of (px_op op_mulAll sm_mul pv_int (pv_v (pv 1)))) pv_int))))) fun _ _ _ _ _ _ us hl => match us, hl with | [_, _], _ => rfl

/-! _law_take_two -/
abbrev s_law_take_two : Stmt := top 36
theorem sc_law_take_two : FnScope ["box", "many", "number", "digit"] ["box", "many"] (defScope s_law_take_two) := ⟨rfl, rfl, rfl, by decide +kernel, rfl, by decide +kernel, by decide +kernel⟩
def g_law_take_two : SF :=
  (sSeq (sIf (fB (f2 vGt (fIxN 0 (fC (.int 0))) (fC (.int 0))))
    (sSeq (sSet 2 3 (f2 vMod (fIxN 0 (fC (.int 0))) (fV 1)))
  (sSeq (sSetIx 0 (fD (f2 vDiv (fIxN 0 (fC (.int 0))) (fV 1))) (fC (.int 0)))
  (sRet (fX (fVF 3)))))
    sNil)
  (sSeq (sSetIx 0 (fD (f2 vAdd (fIxN 0 (fC (.int 2))) (fC (.int 1)))) (fC (.int 2)))
  (sSeq (sSet 2 2 (f2 vMod (fD (f2 vPow (fD (f2 vAdd (fD (f2 vAdd (fIxN 0 (fC (.int 1))) (fD (f2 vMul (fC (.int 130363)) (fIxN 0 (fC (.int 2))))))) (fC (.int 403)))) (fC (.int 5)))) (fC (.int 2147483647))))
  (sSeq (sSet 2 2 (f2 vMod (fD (f2 vPow (fD (f2 vAdd (fD (f2 vDiv (fVF 2) (fC (.int 8)))) (fD (f2 vMul (fC (.int 86028121)) (fIxN 0 (fC (.int 2))))))) (fC (.int 3)))) (fC (.int 2147483587))))
  (sRet (f2 vMod (fD (f2 vDiv (fVF 2) (fC (.int 16)))) (fV 1)))))))
def fn_law_take_two : FnT := runF 2 4 g_law_take_two
theorem ok_law_take_two {P : Program} {w : World} {K : PySem.W.Frag} {mg : Str → Option Value} {base : Heap} {cls : Str → Addr} (G : Gls mg) (SY : SysOk base) {f : Addr} {fd : FuncData} (F : FunD K "_law_take_two" "_law_take_two" (defArgs s_law_take_two) (defBody s_law_take_two) (defScope s_law_take_two) [] [] f fd) (hm : mg "_law_take_two" = some (.ref f)) :
    Cal P w K mg base cls 1 "_law_take_two" fn_law_take_two :=
  Cal.of F hm (fn_body (k := 0) F sc_law_take_two fun cdv A out s H E hr hgu =>
  (st_cons (st_if (pb_cmp op_gtA sm_ord (pv_ixN (pv 0) pv_int) pv_int (by with_unfolding_all rfl))
    (st_cons (st_set (i := 3) sc_law_take_two.nd rfl (by first | exact Or.inl rfl | exact Or.inr rfl) (px_op op_mod sm_mod (pv_ixN (pv 0) pv_int) (pv_v (pv 1))))
  (st_cons (st_setIx (i := 0) (pv_of (px_op op_fdivW sm_div (pv_ixN (pv 0) pv_int) (pv_v (pv 1)))) (pv 0) pv_int)
  (st_last (st_ret (px_of (pv_vF (pv 3)))))))
    st_nil)
  (st_cons (st_setIx (i := 0) (pv_of (px_op op_addAll sm_add (pv_ixN (pv 0) pv_int) pv_int)) (pv 0) pv_int)
  (st_cons (st_set (i := 2) sc_law_take_two.nd rfl (by first | exact Or.inl rfl | exact Or.inr rfl) (px_op op_mod sm_mod (pv_of (px_op op_pow sm_pow (pv_of (px_op op_addAll sm_add (pv_of (px_op op_addAll sm_add (pv_ixN (pv 0) pv_int) (pv_of (px_op op_mulAll sm_mul pv_int (pv_ixN (pv 0) pv_int))))) pv_int)) pv_int)) pv_int))
  (st_cons (st_set (i := 2) sc_law_take_two.nd rfl (by first | exact Or.inl rfl | exact Or.inr rfl) (px_op op_mod sm_mod (pv_of (px_op op_pow sm_pow (pv_of (px_op op_addAll sm_add (pv_of (px_op op_fdivW sm_div (pv_vF (pv 2)) pv_int)) (pv_of (px_op op_mulAll sm_mul pv_int (pv_ixN (pv 0) pv_int))))) pv_int)) pv_int))
  (st_last (st_ret (px_op op_mod sm_mod (pv_of (px_op op_fdivW sm_div (pv_vF (pv 2)) pv_int)) (pv_v (pv 1)))))))))) fun _ _ _ _ _ _ us hl => match us, hl with | [_, _], _ => rfl

/-! _law_figures -/
abbrev s_law_figures : Stmt := top 37
theorem sc_law_figures : FnScope ["number", "found", "left", "k"] ["number"] (defScope s_law_figures) := ⟨rfl, rfl, rfl, by decide +kernel, rfl, by decide +kernel, by decide +kernel⟩
def g_law_figures : SF :=
  (sSeq (sSet 1 1 (fX (fC (.str ""))))
  (sSeq (sSet 1 2 (fX (fW vAbs (fCons (fVW 0) fNil))))
  (sSeq (sFor (fRng1 (fCons (fC (.int 31)) fNil)) (gNm 3)
    (sIf (fOrB (fB (f2 vGt (fVF 2) (fC (.int 0)))) (fB (f2 vEq (fV 3) (fC (.int 0)))))
    (sSeq (sSet 1 1 (f2 vAdd (fD (f2 vIx (fC (.str "0123456789")) (fD (f2 vMod (fVF 2) (fC (.int 10)))))) (fVF 1)))
  (sSet 1 2 (f2 vDiv (fVF 2) (fC (.int 10)))))
    sNil))
  (sRet (f2 vAdd (fD (f2 vMul (fC (.str "-")) (fW vInt (fCons (fD (f2 vLt (fV 0) (fC (.int 0)))) fNil)))) (fVF 1))))))
def fn_law_figures : FnT := runF 1 4 g_law_figures
theorem ok_law_figures {P : Program} {w : World} {K : PySem.W.Frag} {mg : Str → Option Value} {base : Heap} {cls : Str → Addr} (G : Gls mg) (SY : SysOk base) {f : Addr} {fd : FuncData} (F : FunD K "_law_figures" "_law_figures" (defArgs s_law_figures) (defBody s_law_figures) (defScope s_law_figures) [] [] f fd) (hm : mg "_law_figures" = some (.ref f)) :
    Cal P w K mg base cls 1 "_law_figures" fn_law_figures :=
  Cal.of F hm (fn_body (k := 0) F sc_law_figures fun cdv A out s H E hr hgu =>
  (st_cons (st_set (i := 1) sc_law_figures.nd rfl (by first | exact Or.inl rfl | exact Or.inr rfl) (px_of pv_str))
  (st_cons (st_set (i := 2) sc_law_figures.nd rfl (by first | exact Or.inl rfl | exact Or.inr rfl) (px_of (pv_fn call_abs sm_abs rfl G.b_abs bt_abs (lw_cons (pk_v (pv 0)) lw_nil))))
  (st_cons (st_for (passes_of rfl) rfl (it_rng1 rfl G.b_range (pl_cons pv_int pl_nil)) (pg_name (i := 3) sc_law_figures.nd rfl (Or.inl rfl)) tg_nm
    (st_last (st_if (pb_w (pb_or (pb_cmp op_gtA sm_ord (pv_vF (pv 2)) pv_int (by with_unfolding_all rfl)) (pb_or1 (pb_cmp (op_eqAll (un_of hr)) sm_eq (pv_v (pv 3)) pv_int (by with_unfolding_all rfl)))))
    (st_cons (st_set (i := 1) sc_law_figures.nd rfl (by first | exact Or.inl rfl | exact Or.inr rfl) (px_op op_addAll sm_add (pv_of (px_ix pv_str (pv_of (px_op op_mod sm_mod (pv_vF (pv 2)) pv_int)))) (pv_vF (pv 1))))
  (st_last (st_set (i := 2) sc_law_figures.nd rfl (by first | exact Or.inl rfl | exact Or.inr rfl) (px_op op_fdivW sm_div (pv_vF (pv 2)) pv_int))))
    st_nil)))
  (st_last (st_ret (px_op op_addAll sm_add (pv_of (px_op op_mulAll sm_mul pv_str (pv_ty call_intAll sm_int rfl G.b_int boot_int (lw_cons (pw_of (pv_of (px_cmp op_ltA sm_ord (pv_v (pv 0)) pv_int (by with_unfolding_all rfl)))) lw_nil)))) (pv_vF (pv 1))))))))) fun _ _ _ _ _ _ us hl => match us, hl with | [_], _ => rfl

/-! _law_number -/
abbrev s_law_number : Stmt := top 38
theorem sc_law_number : FnScope ["box", "many", "top", "k", "number"] ["box"] (defScope s_law_number) := ⟨rfl, rfl, rfl, by decide +kernel, rfl, by decide +kernel, by decide +kernel⟩
def g_law_number : SF :=
  (sSeq (sSet 1 1 (f2 vIx (fD (fN vLst (fCons (fC (.int 1)) (fCons (fC (.int 2)) (fCons (fC (.int 3)) (fCons (fC (.int 6)) (fCons (fC (.int 7)) (fCons (fC (.int 30)) fNil)))))))) (fD (fCall fn_law_take_two (aBor 0 (aCons (fC (.int 6)) aNil))))))
  (sSeq (sSet 1 2 (fX (fC (.int 1))))
  (sSeq (sFor (fRng1 (fCons (fD (f2 vSub (fVF 1) (fC (.int 1)))) fNil)) (gNm 3)
    (sSet 1 2 (f2 vMul (fVF 2) (fC (.int 10)))))
  (sSeq (sSet 1 4 (f2 vIx (fD (fN vLst (fCons (fC (.int 0)) (fCons (fD (f2 vMul (fC (.int 9)) (fVF 2))) (fCons (fVF 2) (fCons (fD (f2 vSub (fVF 2) (fC (.int 1)))) (fCons (fD (f2 vAdd (fVF 2) (fD (fCall fn_law_take_two (aBor 0 (aCons (fD (f2 vMul (fC (.int 9)) (fVF 2))) aNil)))))) fNil))))))) (fD (fCall fn_law_take_two (aBor 0 (aCons (fC (.int 5)) aNil))))))
  (sRet (f2 vIx (fD (fN vLst (fCons (fVF 4) (fCons (fD (f2 vSub (fC (.int 0)) (fVF 4))) fNil)))) (fD (fCall fn_law_take_two (aBor 0 (aCons (fC (.int 2)) aNil))))))))))
def fn_law_number : FnT := runF 1 5 g_law_number
theorem ok_law_number {P : Program} {w : World} {K : PySem.W.Frag} {mg : Str → Option Value} {base : Heap} {cls : Str → Addr} (G : Gls mg) (SY : SysOk base) {f : Addr} {fd : FuncData} (F : FunD K "_law_number" "_law_number" (defArgs s_law_number) (defBody s_law_number) (defScope s_law_number) [] [] f fd) (hm : mg "_law_number" = some (.ref f)) (c__law_take_two : Cal P w K mg base cls 1 "_law_take_two" fn_law_take_two) :
    Cal P w K mg base cls 2 "_law_number" fn_law_number :=
  Cal.of F hm (fn_body (k := 1) F sc_law_number fun cdv A out s H E hr hgu =>
  (st_cons (st_set (i := 1) sc_law_number.nd rfl (by first | exact Or.inl rfl | exact Or.inr rfl) (px_ix (pv_of (px_lst (pl_cons pv_int (pl_cons pv_int (pl_cons pv_int (pl_cons pv_int (pl_cons pv_int (pl_cons pv_int pl_nil)))))))) (pv_of (px_c c__law_take_two hr (by omega) hgu rfl (passB rfl rfl rfl rfl) (ar_bor (pv 0) (ar_cons pv_int ar_nil))))))
  (st_cons (st_set (i := 2) sc_law_number.nd rfl (by first | exact Or.inl rfl | exact Or.inr rfl) (px_of pv_int))
  (st_cons (st_for (passes_of rfl) rfl (it_rng1 rfl G.b_range (pl_cons (pv_of (px_op op_sub sm_sub (pv_vF (pv 1)) pv_int)) pl_nil)) (pg_name (i := 3) sc_law_number.nd rfl (Or.inl rfl)) tg_nm
    (st_last (st_set (i := 2) sc_law_number.nd rfl (by first | exact Or.inl rfl | exact Or.inr rfl) (px_op op_mulAll sm_mul (pv_vF (pv 2)) pv_int))))
  (st_cons (st_set (i := 4) sc_law_number.nd rfl (by first | exact Or.inl rfl | exact Or.inr rfl) (px_ix (pv_of (px_lst (pl_cons pv_int (pl_cons (pv_of (px_op op_mulAll sm_mul pv_int (pv_vF (pv 2)))) (pl_cons (pv_vF (pv 2)) (pl_cons (pv_of (px_op op_sub sm_sub (pv_vF (pv 2)) pv_int)) (pl_cons (pv_of (px_op op_addAll sm_add (pv_vF (pv 2)) (pv_of (px_c c__law_take_two hr (by omega) hgu rfl (passB rfl rfl rfl rfl) (ar_bor (pv 0) (ar_cons (pv_of (px_op op_mulAll sm_mul pv_int (pv_vF (pv 2)))) ar_nil)))))) pl_nil))))))) (pv_of (px_c c__law_take_two hr (by omega) hgu rfl (passB rfl rfl rfl rfl) (ar_bor (pv 0) (ar_cons pv_int ar_nil))))))
  (st_last (st_ret (px_ix (pv_of (px_lst (pl_cons (pv_vF (pv 4)) (pl_cons (pv_of (px_op op_sub sm_sub pv_int (pv_vF (pv 4)))) pl_nil)))) (pv_of (px_c c__law_take_two hr (by omega) hgu rfl (passB rfl rfl rfl rfl) (ar_bor (pv 0) (ar_cons pv_int ar_nil)))))))))))) fun _ _ _ _ _ _ us hl => match us, hl with | [_], _ => rfl

/-! _law_writes -/
abbrev s_law_writes : Stmt := top 39
theorem sc_law_writes : FnScope ["text", "figures", "total", "sign"] ["text"] (defScope s_law_writes) := ⟨rfl, rfl, rfl, by decide +kernel, rfl, by decide +kernel, by decide +kernel⟩
def g_law_writes : SF :=
  (sSeq (sSet 1 1 (fSl (fV 0) (oSome (fW vInt (fCons (fD (f2 vEq (fD (fSl (fV 0) oNone (oSome (fC (.int 1))))) (fC (.str "-")))) fNil))) oNone))
  (sSeq (sIf (fOrB (fB (f2 vEq (fVF 1) (fC (.str "")))) (fB (f2 vNe (fD (fLc (fSigns (fVF 1)) (gNm 3) (fB (f2 vNin (fV 3) (fC (.str "0123456789")))) (fX (fV 3)) [3])) (fD (fN vLst fNil)))))
    (sRet (fX (fC .non)))
    sNil)
  (sSeq (sIf (fAndB (fB (f2 vEq (fD (f2 vIx (fVF 1) (fC (.int 0)))) (fC (.str "0")))) (fB (f2 vNe (fV 0) (fC (.str "0")))))
    (sRet (fX (fC .non)))
    sNil)
  (sSeq (sSet 1 2 (fX (fC (.int 0))))
  (sSeq (sFor (fSigns (fVF 1)) (gNm 3)
    (sSet 1 2 (f2 vAdd (fD (f2 vMul (fC (.int 10)) (fVF 2))) (fM1 vIndex (fC (.str "0123456789")) (fVW 3)))))
  (sRet (fIf (fB (f2 vEq (fD (f2 vIx (fV 0) (fC (.int 0)))) (fC (.str "-")))) (f2 vSub (fC (.int 0)) (fVF 2)) (fX (fVF 2)))))))))
def fn_law_writes : FnT := runF 1 4 g_law_writes
theorem ok_law_writes {P : Program} {w : World} {K : PySem.W.Frag} {mg : Str → Option Value} {base : Heap} {cls : Str → Addr} (G : Gls mg) (SY : SysOk base) {f : Addr} {fd : FuncData} (F : FunD K "_law_writes" "_law_writes" (defArgs s_law_writes) (defBody s_law_writes) (defScope s_law_writes) [] [] f fd) (hm : mg "_law_writes" = some (.ref f)) :
    Cal P w K mg base cls 1 "_law_writes" fn_law_writes :=
  Cal.of F hm (fn_body (k := 0) F sc_law_writes fun cdv A out s H E hr hgu =>
  (st_cons (st_set (i := 1) sc_law_writes.nd rfl (by first | exact Or.inl rfl | exact Or.inr rfl) (px_sl (pv_v (pv 0)) (po_so (pv_ty call_intAll sm_int rfl G.b_int boot_int (lw_cons (pw_of (pv_of (px_cmp (op_eqAll (un_of hr)) sm_eq (pv_of (px_sl (pv_v (pv 0)) po_no (po_so pv_int))) pv_str (by with_unfolding_all rfl)))) lw_nil))) po_no))
  (st_cons (st_if (pb_w (pb_or (pb_cmp (op_eqAll (un_of hr)) sm_eq (pv_vF (pv 1)) pv_str (by with_unfolding_all rfl)) (pb_or1 (pb_cmp (op_neAll (un_of hr)) sm_ne (pv_of (px_lc (m' := ⟨K, fun _ => E0, cls⟩) (own := [("sign", 3)]) rfl sc_law_writes.nd (it_str (pv_vF (pv 1))) (blkOk_by (by show blkC ["text", "figures", "total", "sign"] (defScope s_law_writes) _ _ = true; decide +kernel)) (fun _ _ _ _ _ => (pg_name (i := 3) sc_law_writes.nd rfl (Or.inl rfl))) tg_nm (by decide) (fun _ _ _ _ _ => (pts_one (show PB _ (⟨K, fun _ => E0, cls⟩ : Pm) _ _ _ from (pb_cmp op_ninAll sm_nin (pv_v (pv 3)) pv_str (by with_unfolding_all rfl))))) (fun _ _ _ z => z) (fun _ _ _ _ _ => (px_of (pv_v (pv 3)))))) (pv_of (px_lst pl_nil)) (by with_unfolding_all rfl)))))
    (st_last (st_ret (px_of pv_non)))
    st_nil)
  (st_cons (st_if (pb_w (pb_and (pb_cmp (op_eqAll (un_of hr)) sm_eq (pv_of (px_ix (pv_vF (pv 1)) pv_int)) pv_str (by with_unfolding_all rfl)) (pb_and1 (pb_cmp (op_neAll (un_of hr)) sm_ne (pv_v (pv 0)) pv_str (by with_unfolding_all rfl)))))
    (st_last (st_ret (px_of pv_non)))
    st_nil)
  (st_cons (st_set (i := 2) sc_law_writes.nd rfl (by first | exact Or.inl rfl | exact Or.inr rfl) (px_of pv_int))
  (st_cons (st_for (passes_of rfl) rfl (it_str (pv_vF (pv 1))) (pg_name (i := 3) sc_law_writes.nd rfl (Or.inl rfl)) tg_nm
    (st_last (st_set (i := 2) sc_law_writes.nd rfl (by first | exact Or.inl rfl | exact Or.inr rfl) (px_op op_addAll sm_add (pv_of (px_op op_mulAll sm_mul pv_int (pv_vF (pv 2)))) (pv_m1 PySem.F.slot_str_index PySem.F.type_str_index mt_sindex sm_index pv_str (pk_v (pv 3)))))))
  (st_last (st_ret (px_if (pb_cmp (op_eqAll (un_of hr)) sm_eq (pv_of (px_ix (pv_v (pv 0)) pv_int)) pv_str (by with_unfolding_all rfl)) (px_op op_sub sm_sub pv_int (pv_vF (pv 2))) (px_of (pv_vF (pv 2)))))))))))) fun _ _ _ _ _ _ us hl => match us, hl with | [_], _ => rfl

/-! _law_bent_two -/
abbrev s_law_bent_two : Stmt := top 40
theorem sc_law_bent_two : FnScope ["box", "text", "at", "sign"] ["box", "text"] (defScope s_law_bent_two) := ⟨rfl, rfl, rfl, by decide +kernel, rfl, by decide +kernel, by decide +kernel⟩
def g_law_bent_two : SF :=
  (sSeq (sSet 2 2 (fCall fn_law_take_two (aBor 0 (aCons (fD (f2 vAdd (fW vLen (fCons (fVW 1) fNil)) (fC (.int 1)))) aNil))))
  (sSeq (sSet 2 3 (f2 vIx (fD (fN vLst (fCons (fC (.str "0")) (fCons (fC (.str "-")) (fCons (fC (.str "+")) (fCons (fC (.str " ")) (fCons (fC (.str "_")) (fCons (fC (.str ".")) (fCons (fC (.str "7")) (fCons (fC (.str "a")) (fCons (fC (.str "00")) (fCons (fC (.str "e")) (fCons (fC (.str "--")) fNil))))))))))))) (fD (fCall fn_law_take_two (aBor 0 (aCons (fC (.int 11)) aNil))))))
  (sRet (f2 vIx (fD (fN vLst (fCons (fD (f2 vAdd (fD (f2 vAdd (fD (fSl (fV 1) oNone (oSome (fVF 2)))) (fVF 3))) (fD (fSl (fV 1) (oSome (fVF 2)) oNone)))) (fCons (fD (f2 vAdd (fD (fSl (fV 1) oNone (oSome (fVF 2)))) (fD (fSl (fV 1) (oSome (fD (f2 vAdd (fVF 2) (fC (.int 1))))) oNone)))) (fCons (fD (f2 vAdd (fVF 3) (fV 1))) (fCons (fD (f2 vAdd (fV 1) (fVF 3))) fNil)))))) (fD (fCall fn_law_take_two (aBor 0 (aCons (fC (.int 4)) aNil))))))))
def fn_law_bent_two : FnT := runF 2 4 g_law_bent_two
theorem ok_law_bent_two {P : Program} {w : World} {K : PySem.W.Frag} {mg : Str → Option Value} {base : Heap} {cls : Str → Addr} (G : Gls mg) (SY : SysOk base) {f : Addr} {fd : FuncData} (F : FunD K "_law_bent_two" "_law_bent_two" (defArgs s_law_bent_two) (defBody s_law_bent_two) (defScope s_law_bent_two) [] [] f fd) (hm : mg "_law_bent_two" = some (.ref f)) (c__law_take_two : Cal P w K mg base cls 1 "_law_take_two" fn_law_take_two) :
    Cal P w K mg base cls 2 "_law_bent_two" fn_law_bent_two :=
  Cal.of F hm (fn_body (k := 1) F sc_law_bent_two fun cdv A out s H E hr hgu =>
  (st_cons (st_set (i := 2) sc_law_bent_two.nd rfl (by first | exact Or.inl rfl | exact Or.inr rfl) (px_c c__law_take_two hr (by omega) hgu rfl (passB rfl rfl rfl rfl) (ar_bor (pv 0) (ar_cons (pv_of (px_op op_addAll sm_add (pv_fn call_len sm_len rfl G.b_len PySem.boot_len (lw_cons (pk_v (pv 1)) lw_nil)) pv_int)) ar_nil))))
  (st_cons (st_set (i := 3) sc_law_bent_two.nd rfl (by first | exact Or.inl rfl | exact Or.inr rfl) (px_ix (pv_of (px_lst (pl_cons pv_str (pl_cons pv_str (pl_cons pv_str (pl_cons pv_str (pl_cons pv_str (pl_cons pv_str (pl_cons pv_str (pl_cons pv_str (pl_cons pv_str (pl_cons pv_str (pl_cons pv_str pl_nil))))))))))))) (pv_of (px_c c__law_take_two hr (by omega) hgu rfl (passB rfl rfl rfl rfl) (ar_bor (pv 0) (ar_cons pv_int ar_nil))))))
  (st_last (st_ret (px_ix (pv_of (px_lst (pl_cons (pv_of (px_op op_addAll sm_add (pv_of (px_op op_addAll sm_add (pv_of (px_sl (pv_v (pv 1)) po_no (po_so (pv_vF (pv 2))))) (pv_vF (pv 3)))) (pv_of (px_sl (pv_v (pv 1)) (po_so (pv_vF (pv 2))) po_no)))) (pl_cons (pv_of (px_op op_addAll sm_add (pv_of (px_sl (pv_v (pv 1)) po_no (po_so (pv_vF (pv 2))))) (pv_of (px_sl (pv_v (pv 1)) (po_so (pv_of (px_op op_addAll sm_add (pv_vF (pv 2)) pv_int))) po_no)))) (pl_cons (pv_of (px_op op_addAll sm_add (pv_vF (pv 3)) (pv_v (pv 1)))) (pl_cons (pv_of (px_op op_addAll sm_add (pv_v (pv 1)) (pv_vF (pv 3)))) pl_nil)))))) (pv_of (px_c c__law_take_two hr (by omega) hgu rfl (passB rfl rfl rfl rfl) (ar_bor (pv 0) (ar_cons pv_int ar_nil)))))))))) fun _ _ _ _ _ _ us hl => match us, hl with | [_, _], _ => rfl

/-! _law_refused -/
abbrev s_law_refused : Stmt := top 41
theorem sc_law_refused : FnScope ["thing", "e"] ["thing"] (defScope s_law_refused) := ⟨rfl, rfl, rfl, by decide +kernel, rfl, by decide +kernel, by decide +kernel⟩
noncomputable def g_law_refused : SF :=
  (sSeq (sTry (sExpr (fCall fn_number_word (aCons (fV 0) aNil))) [⟨["NoNumber"], [], 1, fun a d => (sRet (f2 vEq (fW vRepr (fCons (fFld 1 a d "found") fNil)) (fW vRepr (fCons (fVW 0) fNil))))⟩])
  (sRet (fX (fC (.bl false)))))
noncomputable def fn_law_refused : FnT := runF 1 2 g_law_refused
theorem ok_law_refused {P : Program} {w : World} {K : PySem.W.Frag} {mg : Str → Option Value} {base : Heap} {cls : Str → Addr} (G : Gls mg) (SY : SysOk base) {f : Addr} {fd : FuncData} (F : FunD K "_law_refused" "_law_refused" (defArgs s_law_refused) (defBody s_law_refused) (defScope s_law_refused) [] [] f fd) (hm : mg "_law_refused" = some (.ref f)) (c_number_word : Cal P w K mg base cls 3 "number_word" fn_number_word) (e_NoNumber : ExF P w K mg base cls "NoNumber" "found") (x_NoNumber_NoNumber : PySem.W.exmOne K (.ref (cls "NoNumber")) (.ref (cls "NoNumber")) = some true) :
    Cal P w K mg base cls 4 "_law_refused" fn_law_refused :=
  Cal.of F hm (fn_body (k := 3) F sc_law_refused fun cdv A out s H E hr hgu =>
  (st_cons (st_try rfl rfl sc_law_refused.nd (fun W pn xe tk _ => (st_last (st_expr (px_c c_number_word hr (by omega) hgu rfl (passT tk) (ar_cons (pv_v (pv 0)) ar_nil))))) (ClsOk.cons (c := ⟨["NoNumber"], [], 1, fun a d => (sRet (f2 vEq (fW vRepr (fCons (fFld 1 a d "found") fNil)) (fW vRepr (fCons (fVW 0) fNil))))⟩) ⟨rfl, by decide, .inl e_NoNumber.ok.hm⟩ rfl rfl (fun x hx => by obtain rfl := List.mem_singleton.mp hx; exact x_NoNumber_NoNumber) (fun x hx => by simp at hx) (fun a oe x d pn hx hz hf => by obtain rfl := List.mem_singleton.mp hx; exact (st_last (st_ret (px_cmp (op_eqAll (by have hz2 := un_of hr; exact hz2)) sm_eq (pv_fn (call_rep hgu (by have hz2 := un_of hr; exact hz2) SY) sm_rep rfl G.b_repr bt_repr (lw_cons (pw_of (pv_fld e_NoNumber.xf e_NoNumber.no hz hf (pv 1))) lw_nil)) (pv_fn (call_rep hgu (by have hz2 := un_of hr; exact hz2) SY) sm_rep rfl G.b_repr bt_repr (lw_cons (pk_v (pv 0)) lw_nil)) (by with_unfolding_all rfl))))) (.done _)))
  (st_last (st_ret (px_of pv_bl))))) fun _ _ _ _ _ _ us hl => match us, hl with | [_], _ => rfl

/-! _law_second -/
abbrev s_law_second : Stmt := top 42
theorem sc_law_second : FnScope ["script", "k", "box", "turn", "long", "odd", "number", "text", "lap", "thing"] ["script"] (defScope s_law_second) := ⟨rfl, rfl, rfl, by decide +kernel, rfl, by decide +kernel, by decide +kernel⟩
noncomputable def g_law_second : SF :=
  (sSeq (sFor (fRng1 (fCons (fW vMax2 (fCons (fC (.int 3)) (fCons (fW vMin2 (fCons (fC (.int 12)) (fCons (fW vLen (fCons (fVW 0) fNil)) fNil))) fNil))) fNil)) (gNm 1)
    (sSeq (sSet 1 2 (fCall fn_law_box (aCons (fD (fCall fn_law_cell_two (aCons (fV 0) (aCons (fV 1) aNil)))) aNil)))
  (sSeq (sFor (fRng1 (fCons (fC (.int 4)) fNil)) (gNm 3)
    (sSeq (sSet 1 6 (fCall fn_law_number (aBor 2 aNil)))
  (sSeq (sSet 1 7 (fCall fn_law_figures (aCons (fVF 6) aNil)))
  (sSeq (sIf (fOrB (fB (f2 vNe (fW vRepr (fCons (fD (fCall fn_number_word (aCons (fVF 6) aNil))) fNil)) (fW vRepr (fCons (fVW 7) fNil)))) (fB (f2 vNe (fW vRepr (fCons (fD (fCall fn_number_in (aCons (fV 7) aNil))) fNil)) (fW vRepr (fCons (fVW 6) fNil)))))
    (sRet (fX (fC (.bl false))))
    sNil)
  (sFor (fRng1 (fCons (fC (.int 3)) fNil)) (gNm 8)
    (sSeq (sSet 1 7 (fSl (fD (fCall fn_law_bent_two (aBor 2 (aCons (fV 7) aNil)))) oNone (oSome (fC (.int 30)))))
  (sIf (fB (f2 vNe (fW vRepr (fCons (fD (fCall fn_number_in (aCons (fV 7) aNil))) fNil)) (fW vRepr (fCons (fD (fCall fn_law_writes (aCons (fV 7) aNil))) fNil))))
    (sRet (fX (fC (.bl false))))
    sNil)))))))
  (sSeq (sSet 1 4 (f2 vMul (fD (f2 vIx (fC (.str "123456789")) (fD (fCall fn_law_take_two (aBor 2 (aCons (fC (.int 9)) aNil)))))) (fD (f2 vAdd (fC (.int 31)) (fD (fCall fn_law_take_two (aBor 2 (aCons (fC (.int 30)) aNil))))))))
  (sSeq (sIf (fOrB (fB (f2 vNe (fD (fCall fn_number_in (aCons (fVF 4) aNil))) (fW vInt (fCons (fVW 4) fNil)))) (fOrB (fB (f2 vNe (fD (fCall fn_number_in (aCons (fD (f2 vAdd (fC (.str "-")) (fVF 4))) aNil))) (fD (f2 vSub (fC (.int 0)) (fW vInt (fCons (fVW 4) fNil)))))) (fBv (fNotN (fD (fCall fn_number_in (aCons (fD (f2 vAdd (fC (.str "0")) (fVF 4))) aNil)))))))
    (sRet (fX (fC (.bl false))))
    sNil)
  (sSeq (sSet 1 5 (f2 vIx (fD (fN vLst (fCons (fC .non) (fCons (fC (.bl true)) (fCons (fC (.bl false)) (fCons (fC (.str "7")) (fCons (fC (.str "")) (fCons (fD (fN vLst (fCons (fC (.int 7)) fNil))) (fCons (fD (fN vTup (fCons (fC (.int 7)) fNil))) (fCons (fD fDct0) (fCons (fD (fN (vMkv "NoNumber") (fCons (fC (.int 7)) fNil))) fNil))))))))))) (fD (fCall fn_law_take_two (aBor 2 (aCons (fC (.int 9)) aNil))))))
  (sSeq (sIf (fOrB (fNotB (fB (fCall fn_law_refused (aCons (fVF 5) aNil)))) (fB (f2 vNe (fD (fLc (fItems (fD (fN vLst (fCons (fC (.int 7)) (fCons (fC .non) (fCons (fD (fN vLst (fCons (fC (.str "7")) fNil))) fNil)))))) (gNm 9) (fBv (fNotN (fD (fCall fn_number_in (aCons (fV 9) aNil))))) (fX (fV 9)) [9])) (fD (fN vLst fNil)))))
    (sRet (fX (fC (.bl false))))
    sNil)
  (sIf (fB (f2 vNe (fD (fLc (fItems (fD (fN vLst (fCons (fC (.str "")) (fCons (fC (.str "-")) (fCons (fC (.str "-0")) (fCons (fC (.str "00")) (fCons (fC (.str " 1")) (fCons (fC (.str "1 ")) (fCons (fC (.str "+1")) fNil)))))))))) (gNm 7) (fBv (fNotN (fD (fCall fn_number_in (aCons (fV 7) aNil))))) (fX (fV 7)) [7])) (fD (fN vLst fNil))))
    (sRet (fX (fC (.bl false))))
    sNil))))))))
  (sRet (fX (fC (.bl true)))))
noncomputable def fn_law_second : FnT := runF 1 10 g_law_second
theorem ok_law_second {P : Program} {w : World} {K : PySem.W.Frag} {mg : Str → Option Value} {base : Heap} {cls : Str → Addr} (G : Gls mg) (SY : SysOk base) {f : Addr} {fd : FuncData} (F : FunD K "_law_second" "_law_second" (defArgs s_law_second) (defBody s_law_second) (defScope s_law_second) [] [] f fd) (hm : mg "_law_second" = some (.ref f)) (c__law_cell_two : Cal P w K mg base cls 1 "_law_cell_two" fn_law_cell_two) (c__law_box : Cal P w K mg base cls 1 "_law_box" fn_law_box) (c__law_number : Cal P w K mg base cls 2 "_law_number" fn_law_number) (c__law_figures : Cal P w K mg base cls 1 "_law_figures" fn_law_figures) (c_number_word : Cal P w K mg base cls 3 "number_word" fn_number_word) (c_number_in : Cal P w K mg base cls 1 "number_in" fn_number_in) (c__law_bent_two : Cal P w K mg base cls 2 "_law_bent_two" fn_law_bent_two) (c__law_writes : Cal P w K mg base cls 1 "_law_writes" fn_law_writes) (c__law_take_two : Cal P w K mg base cls 1 "_law_take_two" fn_law_take_two) (c__law_refused : Cal P w K mg base cls 4 "_law_refused" fn_law_refused) (e_NoNumber : ExF P w K mg base cls "NoNumber" "found") (k_NoNumber : ExK K (cls "NoNumber") "NoNumber") :
    Cal P w K mg base cls 5 "_law_second" fn_law_second :=
  Cal.of F hm (fn_body (k := 4) F sc_law_second fun cdv A out s H E hr hgu =>
  (st_cons (st_for (passes_of rfl) rfl (it_rng1 rfl G.b_range (pl_cons (pv_fn (call_max2 rfl) sm_max2 rfl G.b_max bt_max (lw_cons (pw_of pv_int) (lw_cons (pw_of (pv_fn (call_min2 rfl) sm_min2 rfl G.b_min bt_min (lw_cons (pw_of pv_int) (lw_cons (pw_of (pv_fn call_len sm_len rfl G.b_len PySem.boot_len (lw_cons (pk_v (pv 0)) lw_nil))) lw_nil)))) lw_nil))) pl_nil)) (pg_name (i := 1) sc_law_second.nd rfl (Or.inl rfl)) tg_nm
    (st_cons (st_set (i := 2) sc_law_second.nd rfl (by first | exact Or.inl rfl | exact Or.inr rfl) (px_c c__law_box hr (by omega) hgu rfl (passB rfl rfl rfl rfl) (ar_cons (pv_of (px_c c__law_cell_two hr (by omega) hgu rfl (passB rfl rfl rfl rfl) (ar_cons (pv_v (pv 0)) (ar_cons (pv_v (pv 1)) ar_nil)))) ar_nil)))
  (st_cons (st_for (passes_of rfl) rfl (it_rng1 rfl G.b_range (pl_cons pv_int pl_nil)) (pg_name (i := 3) sc_law_second.nd rfl (Or.inl rfl)) tg_nm
    (st_cons (st_set (i := 6) sc_law_second.nd rfl (by first | exact Or.inl rfl | exact Or.inr rfl) (px_c c__law_number hr (by omega) hgu rfl (passB rfl rfl rfl rfl) (ar_bor (pv 2) ar_nil)))
  (st_cons (st_set (i := 7) sc_law_second.nd rfl (by first | exact Or.inl rfl | exact Or.inr rfl) (px_c c__law_figures hr (by omega) hgu rfl (passB rfl rfl rfl rfl) (ar_cons (pv_vF (pv 6)) ar_nil)))
  (st_cons (st_if (pb_w (pb_or (pb_cmp (op_neAll (un_of hr)) sm_ne (pv_fn (call_rep hgu (un_of hr) SY) sm_rep rfl G.b_repr bt_repr (lw_cons (pw_of (pv_of (px_c c_number_word hr (by omega) hgu rfl (passB rfl rfl rfl rfl) (ar_cons (pv_vF (pv 6)) ar_nil)))) lw_nil)) (pv_fn (call_rep hgu (un_of hr) SY) sm_rep rfl G.b_repr bt_repr (lw_cons (pk_v (pv 7)) lw_nil)) (by with_unfolding_all rfl)) (pb_or1 (pb_cmp (op_neAll (un_of hr)) sm_ne (pv_fn (call_rep hgu (un_of hr) SY) sm_rep rfl G.b_repr bt_repr (lw_cons (pw_of (pv_of (px_c c_number_in hr (by omega) hgu rfl (passB rfl rfl rfl rfl) (ar_cons (pv_v (pv 7)) ar_nil)))) lw_nil)) (pv_fn (call_rep hgu (un_of hr) SY) sm_rep rfl G.b_repr bt_repr (lw_cons (pk_v (pv 6)) lw_nil)) (by with_unfolding_all rfl)))))
    (st_last (st_ret (px_of pv_bl)))
    st_nil)
  (st_last (st_for (passes_of rfl) rfl (it_rng1 rfl G.b_range (pl_cons pv_int pl_nil)) (pg_name (i := 8) sc_law_second.nd rfl (Or.inl rfl)) tg_nm
    (st_cons (st_set (i := 7) sc_law_second.nd rfl (by first | exact Or.inl rfl | exact Or.inr rfl) (px_sl (pv_of (px_c c__law_bent_two hr (by omega) hgu rfl (passB rfl rfl rfl rfl) (ar_bor (pv 2) (ar_cons (pv_v (pv 7)) ar_nil)))) po_no (po_so pv_int)))
  (st_last (st_if (pb_cmp (op_neAll (un_of hr)) sm_ne (pv_fn (call_rep hgu (un_of hr) SY) sm_rep rfl G.b_repr bt_repr (lw_cons (pw_of (pv_of (px_c c_number_in hr (by omega) hgu rfl (passB rfl rfl rfl rfl) (ar_cons (pv_v (pv 7)) ar_nil)))) lw_nil)) (pv_fn (call_rep hgu (un_of hr) SY) sm_rep rfl G.b_repr bt_repr (lw_cons (pw_of (pv_of (px_c c__law_writes hr (by omega) hgu rfl (passB rfl rfl rfl rfl) (ar_cons (pv_v (pv 7)) ar_nil)))) lw_nil)) (by with_unfolding_all rfl))
    (st_last (st_ret (px_of pv_bl)))
    st_nil)))))))))
  (st_cons (st_set (i := 4) sc_law_second.nd rfl (by first | exact Or.inl rfl | exact Or.inr rfl) (px_op op_mulAll sm_mul (pv_of (px_ix pv_str (pv_of (px_c c__law_take_two hr (by omega) hgu rfl (passB rfl rfl rfl rfl) (ar_bor (pv 2) (ar_cons pv_int ar_nil)))))) (pv_of (px_op op_addAll sm_add pv_int (pv_of (px_c c__law_take_two hr (by omega) hgu rfl (passB rfl rfl rfl rfl) (ar_bor (pv 2) (ar_cons pv_int ar_nil))))))))
  (st_cons (st_if (pb_w (pb_or (pb_cmp (op_neAll (un_of hr)) sm_ne (pv_of (px_c c_number_in hr (by omega) hgu rfl (passB rfl rfl rfl rfl) (ar_cons (pv_vF (pv 4)) ar_nil))) (pv_ty call_intAll sm_int rfl G.b_int boot_int (lw_cons (pk_v (pv 4)) lw_nil)) (by with_unfolding_all rfl)) (pb_or (pb_cmp (op_neAll (un_of hr)) sm_ne (pv_of (px_c c_number_in hr (by omega) hgu rfl (passB rfl rfl rfl rfl) (ar_cons (pv_of (px_op op_addAll sm_add pv_str (pv_vF (pv 4)))) ar_nil))) (pv_of (px_op op_sub sm_sub pv_int (pv_ty call_intAll sm_int rfl G.b_int boot_int (lw_cons (pk_v (pv 4)) lw_nil)))) (by with_unfolding_all rfl)) (pb_or1 (pb_notN (pw_of (pv_of (px_c c_number_in hr (by omega) hgu rfl (passB rfl rfl rfl rfl) (ar_cons (pv_of (px_op op_addAll sm_add pv_str (pv_vF (pv 4)))) ar_nil)))))))))
    (st_last (st_ret (px_of pv_bl)))
    st_nil)
  (st_cons (st_set (i := 5) sc_law_second.nd rfl (by first | exact Or.inl rfl | exact Or.inr rfl) (px_ix (pv_of (px_lst (pl_cons pv_non (pl_cons pv_bl (pl_cons pv_bl (pl_cons pv_str (pl_cons pv_str (pl_cons (pv_of (px_lst (pl_cons pv_int pl_nil))) (pl_cons (pv_of (px_tup (pl_cons pv_int pl_nil))) (pl_cons (pv_of px_dct0) (pl_cons (pv_of (px_mk e_NoNumber.ok k_NoNumber hr (by omega) rfl (pl_cons pv_int pl_nil))) pl_nil))))))))))) (pv_of (px_c c__law_take_two hr (by omega) hgu rfl (passB rfl rfl rfl rfl) (ar_bor (pv 2) (ar_cons pv_int ar_nil))))))
  (st_cons (st_if (pb_w (pb_or (pb_not (pb_val (px_c c__law_refused hr (by omega) hgu rfl (passB rfl rfl rfl rfl) (ar_cons (pv_vF (pv 5)) ar_nil)))) (pb_or1 (pb_cmp (op_neAll (un_of hr)) sm_ne (pv_of (px_lc (m' := ⟨K, fun _ => E0, cls⟩) (own := [("thing", 9)]) rfl sc_law_second.nd (it_list (pv_of (px_lst (pl_cons pv_int (pl_cons pv_non (pl_cons (pv_of (px_lst (pl_cons pv_str pl_nil))) pl_nil)))))) (blkOk_by (by show blkC ["script", "k", "box", "turn", "long", "odd", "number", "text", "lap", "thing"] (defScope s_law_second) _ _ = true; decide +kernel)) (fun _ _ _ _ _ => (pg_name (i := 9) sc_law_second.nd rfl (Or.inl rfl))) tg_nm (by decide) (fun _ _ _ _ _ => (pts_one (show PB _ (⟨K, fun _ => E0, cls⟩ : Pm) _ _ _ from (pb_notN (pw_of (pv_of (px_c c_number_in hr (by omega) hgu rfl pass0At (ar_cons (pv_v (pv 9)) ar_nil)))))))) (fun _ _ _ z => z) (fun _ _ _ _ _ => (px_of (pv_v (pv 9)))))) (pv_of (px_lst pl_nil)) (by with_unfolding_all rfl)))))
    (st_last (st_ret (px_of pv_bl)))
    st_nil)
  (st_last (st_if (pb_cmp (op_neAll (un_of hr)) sm_ne (pv_of (px_lc (m' := ⟨K, fun _ => E0, cls⟩) (own := [("text", 7)]) rfl sc_law_second.nd (it_list (pv_of (px_lst (pl_cons pv_str (pl_cons pv_str (pl_cons pv_str (pl_cons pv_str (pl_cons pv_str (pl_cons pv_str (pl_cons pv_str pl_nil)))))))))) (blkOk_by (by show blkC ["script", "k", "box", "turn", "long", "odd", "number", "text", "lap", "thing"] (defScope s_law_second) _ _ = true; decide +kernel)) (fun _ _ _ _ _ => (pg_name (i := 7) sc_law_second.nd rfl (Or.inl rfl))) tg_nm (by decide) (fun _ _ _ _ _ => (pts_one (show PB _ (⟨K, fun _ => E0, cls⟩ : Pm) _ _ _ from (pb_notN (pw_of (pv_of (px_c c_number_in hr (by omega) hgu rfl pass0At (ar_cons (pv_v (pv 7)) ar_nil)))))))) (fun _ _ _ z => z) (fun _ _ _ _ _ => (px_of (pv_v (pv 7)))))) (pv_of (px_lst pl_nil)) (by with_unfolding_all rfl))
    (st_last (st_ret (px_of pv_bl)))
    st_nil)))))))))
  (st_last (st_ret (px_of pv_bl))))) fun _ _ _ _ _ _ us hl => match us, hl with | [_], _ => rfl

/-! law -/
abbrev s_law : Stmt := top 43
theorem sc_law : FnScope ["script"] ["script"] (defScope s_law) := ⟨rfl, rfl, rfl, by decide +kernel, rfl, by decide +kernel, by decide +kernel⟩
noncomputable def g_law : SF :=
  (sRet (fX (fAnd (fD (fCall fn_law_first (aCons (fV 0) aNil))) (fD (fCall fn_law_second (aCons (fV 0) aNil))))))
noncomputable def fn_law : FnT := runF 1 1 g_law
theorem ok_law {P : Program} {w : World} {K : PySem.W.Frag} {mg : Str → Option Value} {base : Heap} {cls : Str → Addr} (G : Gls mg) (SY : SysOk base) {f : Addr} {fd : FuncData} (F : FunD K "law" "law" (defArgs s_law) (defBody s_law) (defScope s_law) [] [] f fd) (hm : mg "law" = some (.ref f)) (c__law_first : Cal P w K mg base cls 10 "_law_first" fn_law_first) (c__law_second : Cal P w K mg base cls 5 "_law_second" fn_law_second) :
    Cal P w K mg base cls 11 "law" fn_law :=
  Cal.of F hm (fn_body (k := 10) F sc_law fun cdv A out s H E hr hgu =>
  (st_last (st_ret (px_of (pv_and (pv_of (px_c c__law_first hr (by omega) hgu rfl (passB rfl rfl rfl rfl) (ar_cons (pv_v (pv 0)) ar_nil))) (pv_one (pv_of (px_c c__law_second hr (by omega) hgu rfl (passB rfl rfl rfl rfl) (ar_cons (pv_v (pv 0)) ar_nil))))))))) fun _ _ _ _ _ _ us hl => match us, hl with | [_], _ => rfl
theorem fng_law {P : Program} {w : World} {K : PySem.W.Frag} {mg : Str → Option Value} {base : Heap} {cls : Str → Addr} (G : Gls mg) (SY : SysOk base) {f : Addr} {fd : FuncData} (F : FunD K "law" "law" (defArgs s_law) (defBody s_law) (defScope s_law) [] [] f fd) (hm : mg "law" = some (.ref f)) (c__law_first : Cal P w K mg base cls 10 "_law_first" fn_law_first) (c__law_second : Cal P w K mg base cls 5 "_law_second" fn_law_second) :
    FnG P w K mg base 11 f fd ["script"] (spG K cls fn_law) :=
  fn_body (k := 10) F sc_law fun cdv A out s H E hr hgu =>
  (st_last (st_ret (px_of (pv_and (pv_of (px_c c__law_first hr (by omega) hgu rfl (passB rfl rfl rfl rfl) (ar_cons (pv_v (pv 0)) ar_nil))) (pv_one (pv_of (px_c c__law_second hr (by omega) hgu rfl (passB rfl rfl rfl rfl) (ar_cons (pv_v (pv 0)) ar_nil))))))))

end FD
end
section
set_option Elab.async false
set_option linter.all false
set_option maxRecDepth 100000
set_option maxHeartbeats 1000000
namespace FD
open PySem L2

/-- a box of the law's drawing: at most n draws -/
def Box (n : Nat) (s : Sl) : Prop := ∃ a b c : Int, s = .own (.lst [.int a, .int b, .int c]) ∧ 0 ≤ a ∧ 0 ≤ b ∧ b ≤ 2147483648 ∧ 0 ≤ c ∧ c ≤ n
theorem Box.mono {n m : Nat} {s : Sl} (h : Box n s) (k : n ≤ m) : Box m s := by
  obtain ⟨a, b, c, h1, h2, h3, h4, h5, h6⟩ := h
  exact ⟨a, b, c, h1, h2, h3, h4, h5, by omega⟩
@[simp] theorem atI0 {α : Type} (a b c : α) : atI [a, b, c] 0 = some a := rfl
@[simp] theorem atI1 {α : Type} (a b c : α) : atI [a, b, c] 1 = some b := rfl
@[simp] theorem atI2 {α : Type} (a b c : α) : atI [a, b, c] 2 = some c := rfl
@[simp] theorem ix30 : ixN 3 0 = some 0 := rfl
@[simp] theorem ix32 : ixN 3 2 = some 2 := rfl
theorem take_ok {n : Nat} {s : Sl} (h : Box n s) (hn : n ≤ 1000000) {m : Int} (hm : 0 < m) (hm2 : m < 1000000000000000000000000000000000000000) :
    ∃ r s', fn_law_take [s, .d (.int m)] = .ok (.d (.int r), [s', .d (.int m)]) ∧ 0 ≤ r ∧ r < m ∧ Box (n + 1) s' := by
  obtain ⟨a, b, c, rfl, h2, h3, h4, h5, h6⟩ := h
  by_cases ha : 0 < a
  · refine ⟨a % m, .own (.lst [.int (a / m), .int b, .int c]), ?_, Int.emod_nonneg _ (by omega), Int.emod_lt_of_pos _ hm, a / m, b, c, rfl, Int.ediv_nonneg h2 (by omega), h3, h4, h5, by omega⟩
    simp [fn_law_take, runF, g_law_take, sSeq, sIf, fB, f2, fD, fX, fIxN, fC, fV, fVF, vGt, ordV, vIx, vMod, vDiv, sSet, sSetIx, sRet, slOf, EV.sl, EV.toD, hm, hm2, ha]
  · have ha0 : a = 0 := by omega
    subst ha0
    generalize hx : (b + 130363 * (c + 1) + 401 : Int) = x
    have x1 : -b64 < x ∧ x < b64 := by unfold b64; omega
    generalize hy : x ^ 5 % (2147483647 : Int) = y
    have y1 : 0 ≤ y ∧ y < 2147483647 := by rw [← hy]; exact ⟨Int.emod_nonneg _ (by omega), Int.emod_lt_of_pos _ (by omega)⟩
    generalize hz : (y / 8 + 104729 * (c + 1) : Int) = z
    have z1 : -b64 < z ∧ z < b64 := by unfold b64; omega
    generalize hw : z ^ 3 % (2147483587 : Int) = w
    have w1 : 0 ≤ w ∧ w < 2147483587 := by rw [← hw]; exact ⟨Int.emod_nonneg _ (by omega), Int.emod_lt_of_pos _ (by omega)⟩
    have c1 : -b64 < (130363 : Int) ∧ (130363 : Int) < b64 := by unfold b64; omega
    have c2 : -b64 < (104729 : Int) ∧ (104729 : Int) < b64 := by unfold b64; omega
    refine ⟨w / 16 % m, .own (.lst [.int 0, .int b, .int (c + 1)]), ?_, Int.emod_nonneg _ (by omega), Int.emod_lt_of_pos _ hm, 0, b, c + 1, rfl, by omega, h3, h4, by omega, by omega⟩
    simp [fn_law_take, runF, g_law_take, sSeq, sIf, fB, f2, fD, fX, fIxN, fC, fV, fVF, vGt, ordV, vIx, vMod, vDiv, vAdd, vMul, vPow, sSet, sSetIx, sRet, sNil, slOf, EV.sl, EV.toD, hm, hm2, hx, x1, c1, hy, hz, z1, c2, hw]
end FD
end
section
set_option Elab.async false
set_option linter.all false
set_option maxRecDepth 100000
set_option maxHeartbeats 1000000
namespace FD
open PySem L2

theorem take_two_ok {n : Nat} {s : Sl} (h : Box n s) (hn : n ≤ 1000000) {m : Int} (hm : 0 < m) (hm2 : m < 1000000000000000000000000000000000000000) :
    ∃ r s', fn_law_take_two [s, .d (.int m)] = .ok (.d (.int r), [s', .d (.int m)]) ∧ 0 ≤ r ∧ r < m ∧ Box (n + 1) s' := by
  obtain ⟨a, b, c, rfl, h2, h3, h4, h5, h6⟩ := h
  by_cases ha : 0 < a
  · refine ⟨a % m, .own (.lst [.int (a / m), .int b, .int c]), ?_, Int.emod_nonneg _ (by omega), Int.emod_lt_of_pos _ hm, a / m, b, c, rfl, Int.ediv_nonneg h2 (by omega), h3, h4, h5, by omega⟩
    simp [fn_law_take_two, runF, g_law_take_two, sSeq, sIf, fB, f2, fD, fX, fIxN, fC, fV, fVF, vGt, ordV, vIx, vMod, vDiv, sSet, sSetIx, sRet, slOf, EV.sl, EV.toD, hm, hm2, ha]
  · have ha0 : a = 0 := by omega
    subst ha0
    generalize hx : (b + 130363 * (c + 1) + 403 : Int) = x
    have x1 : -b64 < x ∧ x < b64 := by unfold b64; omega
    generalize hy : x ^ 5 % (2147483647 : Int) = y
    have y1 : 0 ≤ y ∧ y < 2147483647 := by rw [← hy]; exact ⟨Int.emod_nonneg _ (by omega), Int.emod_lt_of_pos _ (by omega)⟩
    generalize hz : (y / 8 + 86028121 * (c + 1) : Int) = z
    have z1 : -b64 < z ∧ z < b64 := by unfold b64; omega
    generalize hw : z ^ 3 % (2147483587 : Int) = w
    have w1 : 0 ≤ w ∧ w < 2147483587 := by rw [← hw]; exact ⟨Int.emod_nonneg _ (by omega), Int.emod_lt_of_pos _ (by omega)⟩
    have c1 : -b64 < (130363 : Int) ∧ (130363 : Int) < b64 := by unfold b64; omega
    have c2 : -b64 < (86028121 : Int) ∧ (86028121 : Int) < b64 := by unfold b64; omega
    refine ⟨w / 16 % m, .own (.lst [.int 0, .int b, .int (c + 1)]), ?_, Int.emod_nonneg _ (by omega), Int.emod_lt_of_pos _ hm, 0, b, c + 1, rfl, by omega, h3, h4, by omega, by omega⟩
    simp [fn_law_take_two, runF, g_law_take_two, sSeq, sIf, fB, f2, fD, fX, fIxN, fC, fV, fVF, vGt, ordV, vIx, vMod, vDiv, vAdd, vMul, vPow, sSet, sSetIx, sRet, sNil, slOf, EV.sl, EV.toD, hm, hm2, hx, x1, c1, hy, hz, z1, c2, hw]
theorem Box.own {n : Nat} {s : Sl} (h : Box n s) : ∃ o, s = .own o := by
  obtain ⟨a, b, c, e, _⟩ := h
  exact ⟨_, e⟩
/-- a draw, as a call that lends the box -/
theorem call_lent {fn : FnT} {δ : Dv} {i : Nat} {s s' t : Sl} {x : D} {z : EV} {fa : VF} {o o' : Ob} (hi : δ[i]? = some s) (hs : s = .own o) (hs' : s' = .own o') (hf : fa δ = .ok (x, δ)) (e : fn [s, .d x] = .ok (z, [s', t])) : fCall fn (aBor i (aCons fa aNil)) δ = .ok (z, δ.set i s') := by
  subst hs hs'
  simp [fCall, aBor, hi, aCons, hf, aNil, borIx, argSl, e, putB, keepS]
theorem call_lent1 {fn : FnT} {δ : Dv} {i : Nat} {s s' : Sl} {z : EV} {o o' : Ob} (hi : δ[i]? = some s) (hs : s = .own o) (hs' : s' = .own o') (e : fn [s] = .ok (z, [s'])) : fCall fn (aBor i aNil) δ = .ok (z, δ.set i s') := by
  subst hs hs'
  simp [fCall, aBor, hi, aNil, borIx, argSl, e, putB, keepS]
theorem ctake {δ : Dv} {i n : Nat} {s : Sl} {m : Int} {fa : VF} (hi : δ[i]? = some s) (h : Box n s) (hn : n ≤ 1000000) (hf : fa δ = .ok (.int m, δ)) (hm : 0 < m) (hm2 : m < 1000000000000000000000000000000000000000) :
    ∃ r s', fCall fn_law_take (aBor i (aCons fa aNil)) δ = .ok (.d (.int r), δ.set i s') ∧ 0 ≤ r ∧ r < m ∧ Box (n + 1) s' := by
  obtain ⟨r, s', e, h1, h2, h3⟩ := take_ok h hn hm hm2
  obtain ⟨o, ho⟩ := h.own
  obtain ⟨o', ho'⟩ := h3.own
  exact ⟨r, s', call_lent hi ho ho' hf e, h1, h2, h3⟩
theorem ctake2 {δ : Dv} {i n : Nat} {s : Sl} {m : Int} {fa : VF} (hi : δ[i]? = some s) (h : Box n s) (hn : n ≤ 1000000) (hf : fa δ = .ok (.int m, δ)) (hm : 0 < m) (hm2 : m < 1000000000000000000000000000000000000000) :
    ∃ r s', fCall fn_law_take_two (aBor i (aCons fa aNil)) δ = .ok (.d (.int r), δ.set i s') ∧ 0 ≤ r ∧ r < m ∧ Box (n + 1) s' := by
  obtain ⟨r, s', e, h1, h2, h3⟩ := take_two_ok h hn hm hm2
  obtain ⟨o, ho⟩ := h.own
  obtain ⟨o', ho'⟩ := h3.own
  exact ⟨r, s', call_lent hi ho ho' hf e, h1, h2, h3⟩

/-! ### comprehensions -/
theorem lc_inv {i K : Nat} {f : XF} {I : Nat → Dv → Prop} {Z : D → Prop} (hf : ∀ k x δ, k < K → I k δ → ∃ z δ', f (δ.set i (.d x)) = .ok (z, δ') ∧ Z z.toD ∧ I (k + 1) (wipeD δ' [i])) :
    ∀ (l : List D) (δ : Dv) (k : Nat), k + l.length ≤ K → I k δ → ∃ zs δ', lcLo (gNm i) fYes f [i] l δ = .ok (zs, δ') ∧ zs.length = l.length ∧ (∀ z ∈ zs, Z z) ∧ I (k + l.length) δ'
  | [], δ, k, hk, h => ⟨[], δ, rfl, rfl, by simp, h⟩
  | x :: l, δ, k, hk, h => by
    rw [List.length_cons] at hk
    obtain ⟨z, δ1, e1, hz, h1⟩ := hf k x δ (by omega) h
    obtain ⟨zs, δ2, e2, hl, hzs, h2⟩ := lc_inv hf l (wipeD δ1 [i]) (k + 1) (by omega) h1
    refine ⟨z.toD :: zs, δ2, ?_, by simp [hl], fun y hy => ?_, by rw [List.length_cons, show k + (l.length + 1) = k + 1 + l.length by omega]; exact h2⟩
    · simp [lcLo, gNm, fYes, e1, e2]
    · rcases List.mem_cons.mp hy with rfl | hy
      · exact hz
      · exact hzs y hy
/-- elementwise, nothing else touched -/
theorem lc_pure {i : Nat} {c : BF} {f : XF} {p : D → Bool} {h : D → D} {δ : Dv} (h0 : δ.set i .no = δ) :
    ∀ (l : List D), (∀ x ∈ l, c (δ.set i (.d x)) = .ok (p x, δ.set i (.d x)) ∧ (p x = true → ∃ z, f (δ.set i (.d x)) = .ok (z, δ.set i (.d x)) ∧ z.toD = h x)) → lcLo (gNm i) c f [i] l δ = .ok ((l.filter p).map h, δ)
  | [], _ => rfl
  | x :: l, hx => by
    have ih := lc_pure h0 l fun y hy => hx y (List.mem_cons_of_mem _ hy)
    obtain ⟨h1, h2⟩ := hx x (List.mem_cons_self ..)
    have w : wipeD (δ.set i (.d x)) [i] = δ := by
      show (δ.set i (.d x)).set i .no = δ
      rw [List.set_set]; exact h0
    cases hp : p x with
    | false =>
      rw [hp] at h1
      simp [lcLo, gNm, h1, w, ih, hp]
    | true =>
      rw [hp] at h1
      obtain ⟨z, h3, h4⟩ := h2 hp
      simp [lcLo, gNm, h1, h3, w, ih, hp, h4]
end FD
end
section
set_option Elab.async false
set_option linter.all false
set_option maxRecDepth 100000
set_option maxHeartbeats 1000000
namespace FD
open PySem L2

def cs (s : Str) : List Nat := s.cps.toList
theorem length_cs (s : Str) : s.length = (cs s).length := (Array.length_toList (xs := s.cps)).symm
theorem cs_append (a b : Str) : cs (a ++ b) = cs a ++ cs b := by show (a.cps ++ b.cps).toList = a.cps.toList ++ b.cps.toList; rw [Array.toList_append]
theorem cs_mk (l : List Nat) : cs ⟨l.toArray⟩ = l := by simp [cs]
theorem str_ext {a b : Str} (h : cs a = cs b) : a = b := by
  obtain ⟨⟨a⟩⟩ := a
  obtain ⟨⟨b⟩⟩ := b
  simp only [cs] at h
  rw [h]
theorem atI_get {α : Type} {l : List α} {r : Int} (h0 : 0 ≤ r) (h1 : r < l.length) : ∃ x, atI l r = some x ∧ x ∈ l := by
  have h2 : r.toNat < l.length := by omega
  refine ⟨l[r.toNat], ?_, List.getElem_mem h2⟩
  unfold atI ixN
  rw [if_pos h0, if_pos h1]
  simp [h2]
theorem pick {L : Str} {r : Int} (hs : L.length ≤ lim) (h0 : 0 ≤ r) (h1 : r < L.length) : ∃ c, vIx (.str L) (.int r) = some (.d (.str ⟨#[c]⟩)) ∧ c ∈ cs L := by
  rw [length_cs] at h1
  obtain ⟨c, e, h⟩ := atI_get h0 h1
  have e2 : atI L.cps.toList r = some c := e
  exact ⟨c, by simp [vIx, hs, e2], h⟩
theorem joinE : ∀ ys : List Str, cs (Str.join Str.empty ys) = (ys.map cs).flatten
  | [] => rfl
  | [y] => by simp [Str.join]
  | y :: z :: r => by
    show cs (y ++ Str.empty ++ Str.join Str.empty (z :: r)) = _
    rw [cs_append, cs_append, joinE (z :: r)]
    simp [cs, Str.empty]
theorem strs_of : ∀ {zs : List D}, (∀ z ∈ zs, ∃ y : Str, z = .str y) → ∃ ys : List Str, zs = ys.map D.str
  | [], _ => ⟨[], rfl⟩
  | z :: zs, h => by
    obtain ⟨y, rfl⟩ := h z (List.mem_cons_self ..)
    obtain ⟨ys, rfl⟩ := strs_of fun z hz => h z (List.mem_cons_of_mem _ hz)
    exact ⟨y :: ys, rfl⟩
def Letter (c : Nat) : Prop := 97 ≤ c ∧ c ≤ 122
def Abc : Str := "abcdefghijklmnopqrstuvwxyz"
theorem abc_len : Abc.length = 26 := by decide +kernel
theorem abc_all : ∀ c ∈ cs Abc, Letter c := by
  have h : ∀ c ∈ cs Abc, 97 ≤ c ∧ c ≤ 122 := by decide +kernel
  exact h
theorem lim_eq : lim = 100000 := rfl
/-- signs picked from a text, joined -/
theorem joined {P : Nat → Prop} {zs : List D} (h : ∀ z ∈ zs, ∃ c, z = .str ⟨#[c]⟩ ∧ P c) (hl : zs.length ≤ 1000) : ∃ t : Str, vJoin (.str "") (.lst zs) = some (.str t) ∧ t.length = zs.length ∧ ∀ c ∈ cs t, P c := by
  obtain ⟨ys, rfl⟩ := strs_of fun z hz => let ⟨c, e, _⟩ := h z hz; ⟨_, e⟩
  have hy : ∀ y ∈ ys, ∃ c, y = ⟨#[c]⟩ ∧ P c := fun y hy => by
    obtain ⟨c, e, p⟩ := h (.str y) (List.mem_map.mpr ⟨y, hy, rfl⟩)
    cases e
    exact ⟨c, rfl, p⟩
  have e0 : (Str.ofString "").length = 0 := rfl
  have sum : ∀ {ys : List Str}, (∀ y ∈ ys, ∃ c, y = ⟨#[c]⟩ ∧ P c) → (ys.map (·.length)).sum = ys.length ∧ ((ys.map cs).flatten).length = ys.length ∧ ∀ c ∈ (ys.map cs).flatten, P c := fun {ys} => by
    induction ys with
    | nil => intro _; simp
    | cons y ys ih =>
      intro hy
      obtain ⟨c, rfl, p⟩ := hy y (List.mem_cons_self ..)
      obtain ⟨i1, i2, i3⟩ := ih fun z hz => hy z (List.mem_cons_of_mem _ hz)
      have l1 : (⟨#[c]⟩ : Str).length = 1 := rfl
      refine ⟨by simp [i1, l1]; omega, by simp [cs] at i2 ⊢; omega, fun d hd => ?_⟩
      simp only [List.map_cons, List.flatten_cons, List.mem_append] at hd
      rcases hd with hd | hd
      · simp [cs] at hd; rw [hd]; exact p
      · exact i3 d hd
  obtain ⟨s1, s2, s3⟩ := sum hy
  simp only [List.length_map] at hl
  have fit : (ys.map (·.length)).sum + ys.length * (Str.ofString "").length ≤ lim := by rw [s1, e0, lim_eq]; omega
  have ej : cs (Txt.join (Str.ofString "") ys) = (ys.map cs).flatten := by rw [TL.join_eq]; exact joinE ys
  refine ⟨Txt.join "" ys, ?_, ?_, ?_⟩
  · simp only [vJoin, seqOf, Option.bind_some, strsOf_map]
    rw [if_pos fit]
  · rw [length_cs, ej, s2, List.length_map]
  · rw [ej]; exact s3
def NameS (t : Str) : Prop := 1 ≤ t.length ∧ t.length ≤ 8 ∧ ∀ c ∈ cs t, Letter c
theorem name_ok {n : Nat} {s : Sl} (h : Box n s) (hn : n ≤ 900000) : ∃ t s', fn_law_name [s] = .ok (.d (.str t), [s']) ∧ NameS t ∧ Box (n + 9) s' := by
  obtain ⟨r, s1, e1, r0, r1, b1⟩ := ctake (δ := [s, .d (.str Abc), .no]) (i := 0) (m := 8) (fa := fC (.int 8)) rfl h (by omega) rfl (by omega) (by omega)
  have hlen : (rngL 0 (1 + r).toNat).length = (1 + r).toNat := by simp [rngL]
  obtain ⟨zs, δ', e2, l2, z2, s2, bx, rfl⟩ := lc_inv (i := 2) (K := 8) (f := f2 vIx (fVF 1) (fD (fCall fn_law_take (aBor 0 (aCons (fC (.int 26)) aNil))))) (I := fun k δ => ∃ s', Box (n + 1 + k) s' ∧ δ = [s', .d (.str Abc), .no]) (Z := fun z => ∃ c, z = .str ⟨#[c]⟩ ∧ Letter c)
    (fun k x δ hk ⟨s2, b2, e⟩ => by
      subst e
      obtain ⟨q, s3, e3, q0, q1, b3⟩ := ctake (δ := [s2, .d (.str Abc), .d x]) (i := 0) (m := 26) (fa := fC (.int 26)) rfl b2 (by omega) rfl (by omega) (by omega)
      obtain ⟨c, ec, hc⟩ := pick (L := Abc) (r := q) (by decide +kernel) q0 (by rw [abc_len]; exact q1)
      refine ⟨.d (.str ⟨#[c]⟩), [s3, .d (.str Abc), .d x], by simp [f2, fVF, fD, e3, EV.toD, ec], ⟨c, rfl, abc_all c hc⟩, s3, b3, rfl⟩)
    (rngL 0 (1 + r).toNat) [s1, .d (.str Abc), .no] 0 (by rw [hlen]; omega) ⟨s1, b1, rfl⟩
  obtain ⟨t, et, lt, ht⟩ := joined z2 (by rw [l2, hlen]; omega)
  refine ⟨t, s2, ?_, ⟨by rw [lt, l2, hlen]; omega, by rw [lt, l2, hlen]; omega, ht⟩, bx.mono (by rw [hlen]; omega)⟩
  have e0 : (Str.ofString "abcdefghijklmnopqrstuvwxyz") = Abc := rfl
  have rr : -4611686018427387904 ≤ 1 + r ∧ 1 + r < 4611686018427387904 := by omega
  have l3 : (rngL 0 (1 + r).toNat).length ≤ 100000 := by rw [hlen]; omega
  simp [fn_law_name, runF, g_law_name, sSeq, sSet, sRet, fX, fC, slOf, EV.sl, fM1, fD, fLc, fRng1, fCons, fNil, f2, vAdd, EV.toD, e0, e1, rr, l3, wipeD, e2, backD, et, Ob.toD]
end FD
end
section
set_option Elab.async false
set_option linter.all false
set_option maxRecDepth 100000
set_option maxHeartbeats 1000000
namespace FD
open PySem L2
theorem kb_NoneType_int : kitB "NoneType" "int" = some false := by decide +kernel
@[simp] theorem isi_NoneType_int  : vIsi2 [.non, .ty "int"] = some (.bl false) := by
  show (kitB "NoneType" "int").map D.bl = _
  rw [kb_NoneType_int]; rfl
theorem kb_NoneType_bool : kitB "NoneType" "bool" = some false := by decide +kernel
@[simp] theorem isi_NoneType_bool  : vIsi2 [.non, .ty "bool"] = some (.bl false) := by
  show (kitB "NoneType" "bool").map D.bl = _
  rw [kb_NoneType_bool]; rfl
theorem kb_NoneType_str : kitB "NoneType" "str" = some false := by decide +kernel
@[simp] theorem isi_NoneType_str  : vIsi2 [.non, .ty "str"] = some (.bl false) := by
  show (kitB "NoneType" "str").map D.bl = _
  rw [kb_NoneType_str]; rfl
theorem kb_NoneType_tuple : kitB "NoneType" "tuple" = some false := by decide +kernel
@[simp] theorem isi_NoneType_tuple  : vIsi2 [.non, .ty "tuple"] = some (.bl false) := by
  show (kitB "NoneType" "tuple").map D.bl = _
  rw [kb_NoneType_tuple]; rfl
theorem kb_bool_int : kitB "bool" "int" = some true := by decide +kernel
@[simp] theorem isi_bool_int (b : Bool) : vIsi2 [.bl b, .ty "int"] = some (.bl true) := by
  show (kitB "bool" "int").map D.bl = _
  rw [kb_bool_int]; rfl
theorem kb_bool_bool : kitB "bool" "bool" = some true := by decide +kernel
@[simp] theorem isi_bool_bool (b : Bool) : vIsi2 [.bl b, .ty "bool"] = some (.bl true) := by
  show (kitB "bool" "bool").map D.bl = _
  rw [kb_bool_bool]; rfl
theorem kb_bool_str : kitB "bool" "str" = some false := by decide +kernel
@[simp] theorem isi_bool_str (b : Bool) : vIsi2 [.bl b, .ty "str"] = some (.bl false) := by
  show (kitB "bool" "str").map D.bl = _
  rw [kb_bool_str]; rfl
theorem kb_bool_tuple : kitB "bool" "tuple" = some false := by decide +kernel
@[simp] theorem isi_bool_tuple (b : Bool) : vIsi2 [.bl b, .ty "tuple"] = some (.bl false) := by
  show (kitB "bool" "tuple").map D.bl = _
  rw [kb_bool_tuple]; rfl
theorem kb_int_int : kitB "int" "int" = some true := by decide +kernel
@[simp] theorem isi_int_int (i : Int) : vIsi2 [.int i, .ty "int"] = some (.bl true) := by
  show (kitB "int" "int").map D.bl = _
  rw [kb_int_int]; rfl
theorem kb_int_bool : kitB "int" "bool" = some false := by decide +kernel
@[simp] theorem isi_int_bool (i : Int) : vIsi2 [.int i, .ty "bool"] = some (.bl false) := by
  show (kitB "int" "bool").map D.bl = _
  rw [kb_int_bool]; rfl
theorem kb_int_str : kitB "int" "str" = some false := by decide +kernel
@[simp] theorem isi_int_str (i : Int) : vIsi2 [.int i, .ty "str"] = some (.bl false) := by
  show (kitB "int" "str").map D.bl = _
  rw [kb_int_str]; rfl
theorem kb_int_tuple : kitB "int" "tuple" = some false := by decide +kernel
@[simp] theorem isi_int_tuple (i : Int) : vIsi2 [.int i, .ty "tuple"] = some (.bl false) := by
  show (kitB "int" "tuple").map D.bl = _
  rw [kb_int_tuple]; rfl
theorem kb_str_int : kitB "str" "int" = some false := by decide +kernel
@[simp] theorem isi_str_int (s : Str) : vIsi2 [.str s, .ty "int"] = some (.bl false) := by
  show (kitB "str" "int").map D.bl = _
  rw [kb_str_int]; rfl
theorem kb_str_bool : kitB "str" "bool" = some false := by decide +kernel
@[simp] theorem isi_str_bool (s : Str) : vIsi2 [.str s, .ty "bool"] = some (.bl false) := by
  show (kitB "str" "bool").map D.bl = _
  rw [kb_str_bool]; rfl
theorem kb_str_str : kitB "str" "str" = some true := by decide +kernel
@[simp] theorem isi_str_str (s : Str) : vIsi2 [.str s, .ty "str"] = some (.bl true) := by
  show (kitB "str" "str").map D.bl = _
  rw [kb_str_str]; rfl
theorem kb_str_tuple : kitB "str" "tuple" = some false := by decide +kernel
@[simp] theorem isi_str_tuple (s : Str) : vIsi2 [.str s, .ty "tuple"] = some (.bl false) := by
  show (kitB "str" "tuple").map D.bl = _
  rw [kb_str_tuple]; rfl
theorem kb_tuple_int : kitB "tuple" "int" = some false := by decide +kernel
@[simp] theorem isi_tuple_int (l : List D) : vIsi2 [.tup l, .ty "int"] = some (.bl false) := by
  show (kitB "tuple" "int").map D.bl = _
  rw [kb_tuple_int]; rfl
theorem kb_tuple_bool : kitB "tuple" "bool" = some false := by decide +kernel
@[simp] theorem isi_tuple_bool (l : List D) : vIsi2 [.tup l, .ty "bool"] = some (.bl false) := by
  show (kitB "tuple" "bool").map D.bl = _
  rw [kb_tuple_bool]; rfl
theorem kb_tuple_str : kitB "tuple" "str" = some false := by decide +kernel
@[simp] theorem isi_tuple_str (l : List D) : vIsi2 [.tup l, .ty "str"] = some (.bl false) := by
  show (kitB "tuple" "str").map D.bl = _
  rw [kb_tuple_str]; rfl
theorem kb_tuple_tuple : kitB "tuple" "tuple" = some true := by decide +kernel
@[simp] theorem isi_tuple_tuple (l : List D) : vIsi2 [.tup l, .ty "tuple"] = some (.bl true) := by
  show (kitB "tuple" "tuple").map D.bl = _
  rw [kb_tuple_tuple]; rfl
theorem kb_list_int : kitB "list" "int" = some false := by decide +kernel
@[simp] theorem isi_list_int (l : List D) : vIsi2 [.lst l, .ty "int"] = some (.bl false) := by
  show (kitB "list" "int").map D.bl = _
  rw [kb_list_int]; rfl
theorem kb_list_bool : kitB "list" "bool" = some false := by decide +kernel
@[simp] theorem isi_list_bool (l : List D) : vIsi2 [.lst l, .ty "bool"] = some (.bl false) := by
  show (kitB "list" "bool").map D.bl = _
  rw [kb_list_bool]; rfl
theorem kb_list_str : kitB "list" "str" = some false := by decide +kernel
@[simp] theorem isi_list_str (l : List D) : vIsi2 [.lst l, .ty "str"] = some (.bl false) := by
  show (kitB "list" "str").map D.bl = _
  rw [kb_list_str]; rfl
theorem kb_list_tuple : kitB "list" "tuple" = some false := by decide +kernel
@[simp] theorem isi_list_tuple (l : List D) : vIsi2 [.lst l, .ty "tuple"] = some (.bl false) := by
  show (kitB "list" "tuple").map D.bl = _
  rw [kb_list_tuple]; rfl
theorem kb_dict_int : kitB "dict" "int" = some false := by decide +kernel
@[simp] theorem isi_dict_int (l : List (Key × D)) : vIsi2 [.dct l, .ty "int"] = some (.bl false) := by
  show (kitB "dict" "int").map D.bl = _
  rw [kb_dict_int]; rfl
theorem kb_dict_bool : kitB "dict" "bool" = some false := by decide +kernel
@[simp] theorem isi_dict_bool (l : List (Key × D)) : vIsi2 [.dct l, .ty "bool"] = some (.bl false) := by
  show (kitB "dict" "bool").map D.bl = _
  rw [kb_dict_bool]; rfl
theorem kb_dict_str : kitB "dict" "str" = some false := by decide +kernel
@[simp] theorem isi_dict_str (l : List (Key × D)) : vIsi2 [.dct l, .ty "str"] = some (.bl false) := by
  show (kitB "dict" "str").map D.bl = _
  rw [kb_dict_str]; rfl
theorem kb_dict_tuple : kitB "dict" "tuple" = some false := by decide +kernel
@[simp] theorem isi_dict_tuple (l : List (Key × D)) : vIsi2 [.dct l, .ty "tuple"] = some (.bl false) := by
  show (kitB "dict" "tuple").map D.bl = _
  rw [kb_dict_tuple]; rfl
@[simp] theorem isi_exc_int (nm : Str) (l : List D) : vIsi2 [.exc nm l, .ty "int"] = some (.bl false) := by
  show (if isiNames.contains "int" then some (D.bl false) else none) = _
  rw [if_pos (by decide)]
@[simp] theorem isi_exc_bool (nm : Str) (l : List D) : vIsi2 [.exc nm l, .ty "bool"] = some (.bl false) := by
  show (if isiNames.contains "bool" then some (D.bl false) else none) = _
  rw [if_pos (by decide)]
@[simp] theorem isi_exc_str (nm : Str) (l : List D) : vIsi2 [.exc nm l, .ty "str"] = some (.bl false) := by
  show (if isiNames.contains "str" then some (D.bl false) else none) = _
  rw [if_pos (by decide)]
@[simp] theorem isi_exc_tuple (nm : Str) (l : List D) : vIsi2 [.exc nm l, .ty "tuple"] = some (.bl false) := by
  show (if isiNames.contains "tuple" then some (D.bl false) else none) = _
  rw [if_pos (by decide)]
end FD
end
section
set_option Elab.async false
set_option linter.all false
set_option maxRecDepth 100000
set_option maxHeartbeats 1000000
namespace FD
open PySem L2

@[simp] theorem vLe_int (i j : Int) : vLe (.int i) (.int j) = some (.d (.bl (decide (i ≤ j)))) := rfl
@[simp] theorem vLt_int (i j : Int) : vLt (.int i) (.int j) = some (.d (.bl (decide (i < j)))) := rfl
@[simp] theorem vGt_int (i j : Int) : vGt (.int i) (.int j) = some (.d (.bl (decide (j < i)))) := rfl
@[simp] theorem vEq_int (i j : Int) : vEq (.int i) (.int j) = some (.d (.bl (decide (i = j)))) := rfl
@[simp] theorem vNe_int (i j : Int) : vNe (.int i) (.int j) = some (.d (.bl (!decide (i = j)))) := rfl
@[simp] theorem vEq_str (i j : Str) : vEq (.str i) (.str j) = some (.d (.bl (decide (i = j)))) := rfl
@[simp] theorem vNe_str (i j : Str) : vNe (.str i) (.str j) = some (.d (.bl (!decide (i = j)))) := rfl
theorem eq_nil (l : List D) : vEq (.lst l) (.lst []) = some (.d (.bl l.isEmpty)) := by
  cases l with
  | nil => rfl
  | cons x l => simp [vEq, eqX]
theorem eq_tnil (l : List D) : vEq (.tup l) (.tup []) = some (.d (.bl l.isEmpty)) := rfl
theorem sg_ext (c : Nat) : cs ⟨#[c]⟩ = [c] := rfl
theorem str_ofS (t : String) (l : List Nat) (h : (Str.ofString t).cps.toList = l) : cs (Str.ofString t) = l := h
theorem lt_one (a b : Nat) : decide ([a] < [b]) = decide (a < b) := by
  have : ([a] < [b]) ↔ a < b := by
    constructor
    · intro h
      cases h with
      | rel h => exact h
      | cons h => cases h
    · intro h; exact .rel h
  simp [this]
theorem le_sign (t : String) (a c : Nat) (h : cs (Str.ofString t) = [a]) : vLe (.str (Str.ofString t)) (.str ⟨#[c]⟩) = some (.d (.bl (decide (a ≤ c)))) := by
  show some (EV.d (.bl (!decide ((⟨#[c]⟩ : Str).cps.toList < (Str.ofString t).cps.toList)))) = _
  have h' : (Str.ofString t).cps.toList = [a] := h
  rw [h']
  show some (EV.d (.bl (!decide ([c] < [a])))) = _
  rw [lt_one, ← decide_not]
  simp
theorem le_sign2 (t : String) (a c : Nat) (h : cs (Str.ofString t) = [a]) : vLe (.str ⟨#[c]⟩) (.str (Str.ofString t)) = some (.d (.bl (decide (c ≤ a)))) := by
  show some (EV.d (.bl (!decide ((Str.ofString t).cps.toList < (⟨#[c]⟩ : Str).cps.toList)))) = _
  have h' : (Str.ofString t).cps.toList = [a] := h
  rw [h']
  show some (EV.d (.bl (!decide ([a] < [c])))) = _
  rw [lt_one, ← decide_not]
  simp
def sgs (l : List Nat) : List D := l.map fun c => .str ⟨#[c]⟩
theorem signsL_eq (s : Str) : signsL s = sgs (cs s) := rfl
theorem mem_sgs {x : D} {l : List Nat} (h : x ∈ sgs l) : ∃ c ∈ l, x = .str ⟨#[c]⟩ := by
  obtain ⟨c, h1, h2⟩ := List.mem_map.mp h
  exact ⟨c, h1, h2.symm⟩
/-- the sign of a text of one sign -/
def sgn : D → Nat
  | .str y => (cs y).headD 0
  | _ => 0
theorem sgn_mk (c : Nat) : sgn (.str ⟨#[c]⟩) = c := rfl
theorem map_sgs (f : Nat → D) (l : List Nat) : (sgs l).map (fun x => f (sgn x)) = l.map f := by
  simp [sgs, sgn_mk]
theorem all_id (l : List Nat) (p : Nat → Bool) : (l.map p).all id = l.all p := by
  induction l with
  | nil => rfl
  | cons x l ih => simp [ih]
theorem blsOf_mapF (p : Nat → Bool) (l : List Nat) : blsOf (l.map fun c => D.bl (p c)) = some (l.map p) := by
  have := blsOf_map (l.map p)
  rw [List.map_map] at this
  exact this
theorem abc_mem (c : Nat) : decide (c ∈ cs Abc) = decide (97 ≤ c ∧ c ≤ 122) := by
  have h : ∀ c ∈ List.range' 97 26, c ∈ cs Abc := by decide +kernel
  by_cases hc : 97 ≤ c ∧ c ≤ 122
  · simp [hc, h c (List.mem_range'.mpr ⟨c - 97, by omega, by omega⟩)]
  · simp only [hc, decide_false, decide_eq_false_iff_not]
    exact fun z => hc (abc_all c z)
theorem in_sign (c : Nat) (L : Str) : vIn (.str ⟨#[c]⟩) (.str L) = some (.d (.bl (decide (c ∈ cs L)))) := rfl
def abcB (c : Nat) : Bool := decide (97 ≤ c ∧ c ≤ 122)
def nameB (s : Str) : Bool := decide (1 ≤ s.length) && decide (s.length ≤ 8) && (cs s).all abcB
theorem is_name_no {t : D} (h : vIsi2 [t, .ty "str"] = some (.bl false)) : fn_is_name [.d t] = .ok (.d (.bl false), [.d t]) := by
  simp [fn_is_name, runF, g_is_name, sSeq, sIf, fOrB, fNotB, fBv, fW, fCons, fVW, fC, fNil, h, sRet, fX]
theorem is_name_str (s : Str) (hs : s.length ≤ lim) : fn_is_name [.d (.str s)] = .ok (.d (.bl (nameB s)), [.d (.str s)]) := by
  have hl : (cs s).length ≤ 100000 := by rw [← length_cs]; exact hs
  have hl2 : (sgs (cs s)).length ≤ 100000 := by simpa [sgs] using hl
  have e := lc_pure (i := 1) (c := fYes) (f := f2 vIn (fV 1) (fC (.str Abc))) (p := fun _ => true) (h := fun x => .bl (decide (sgn x ∈ cs Abc))) (δ := [.d (.str s), .no]) rfl (sgs (cs s)) (fun x hx => by
    obtain ⟨c, _, rfl⟩ := mem_sgs hx
    exact ⟨rfl, fun _ => ⟨.d (.bl (decide (c ∈ cs Abc))), by simp [f2, fV, fC, in_sign], rfl⟩⟩)
  have e0 : (Str.ofString "abcdefghijklmnopqrstuvwxyz") = Abc := rfl
  have hf : ((sgs (cs s)).filter fun _ => true) = sgs (cs s) := List.filter_eq_self.mpr fun _ _ => rfl
  rw [hf, map_sgs (fun c => D.bl (decide (c ∈ cs Abc)))] at e
  have hb := blsOf_mapF (fun c => decide (c ∈ cs Abc)) (cs s)
  have hall : ((cs s).map fun c => decide (c ∈ cs Abc)).all id = (cs s).all abcB := by
    rw [all_id]
    congr 1
    funext c
    exact abc_mem c
  by_cases h1 : 1 ≤ s.length
  · by_cases h2 : s.length ≤ 8
    · have c1 : (1 : Int) ≤ s.length := by omega
      have c2 : (s.length : Int) ≤ 8 := by omega
      simp [fn_is_name, runF, g_is_name, sSeq, sIf, fOrB, fNotB, fBv, fW, fCons, fVW, fC, fNil, sRet, fX, fChain, vLen, lenD, hs, c1, c2, EV.toD, sNil, fD, fLc, fSigns, fV, signsL_eq, e0, wipeD, e, backD, vAll, listOf, hb, hall, nameB, h1, h2, Ob.toD, hl2]
    · have c1 : (1 : Int) ≤ s.length := by omega
      have c2 : ¬ (s.length : Int) ≤ 8 := by omega
      simp [fn_is_name, runF, g_is_name, sSeq, sIf, fOrB, fNotB, fBv, fW, fCons, fVW, fC, fNil, sRet, fX, fChain, vLen, lenD, hs, c1, c2, EV.toD, nameB, h1, h2]
  · have c1 : ¬ (1 : Int) ≤ s.length := by omega
    simp [fn_is_name, runF, g_is_name, sSeq, sIf, fOrB, fNotB, fBv, fW, fCons, fVW, fC, fNil, sRet, fX, fChain, vLen, lenD, hs, c1, EV.toD, nameB, h1]
end FD
end
section
set_option Elab.async false
set_option linter.all false
set_option maxRecDepth 100000
set_option maxHeartbeats 1000000
namespace FD
open PySem L2

theorem filter_all (q : Nat → Bool) (l : List Nat) : (((sgs l).filter fun x => !q (sgn x)).map id).isEmpty = l.all q := by
  induction l with
  | nil => rfl
  | cons c l ih =>
    show ((((D.str ⟨#[c]⟩) :: sgs l).filter fun x => !q (sgn x)).map id).isEmpty = (q c && l.all q)
    rw [List.filter_cons, sgn_mk, ← ih]
    cases q c <;> simp
theorem cs_a : cs (Str.ofString "a") = [97] := by decide +kernel
theorem cs_z : cs (Str.ofString "z") = [122] := by decide +kernel
theorem cs_sp : cs (Str.ofString " ") = [32] := by decide +kernel
theorem cs_ti : cs (Str.ofString "~") = [126] := by decide +kernel
theorem law_name_no {t : D} (h : vIsi2 [t, .ty "str"] = some (.bl false)) : fn_law_is_name [.d t] = .ok (.d (.bl false), [.d t]) := by
  simp [fn_law_is_name, runF, g_law_is_name, sSeq, sIf, fOrB, fNotB, fBv, fW, fCons, fVW, fC, fNil, h, sRet, fX]
theorem law_name_str (s : Str) (hs : s.length ≤ lim) : fn_law_is_name [.d (.str s)] = .ok (.d (.bl (nameB s)), [.d (.str s)]) := by
  have hl : (cs s).length ≤ 100000 := by rw [← length_cs]; exact hs
  have hl2 : (sgs (cs s)).length ≤ 100000 := by simpa [sgs] using hl
  have e := lc_pure (i := 1) (c := fNotB (fBv (fChain vLe vLe (fC (.str "a")) (fV 1) (fC (.str "z"))))) (f := fX (fV 1)) (p := fun x => !abcB (sgn x)) (h := id) (δ := [.d (.str s), .no]) rfl (sgs (cs s)) (fun x hx => by
    obtain ⟨c, _, rfl⟩ := mem_sgs hx
    refine ⟨?_, fun _ => ⟨.d (.str ⟨#[c]⟩), by simp [fX, fV], rfl⟩⟩
    rw [sgn_mk]
    by_cases h1 : 97 ≤ c
    · by_cases h2 : c ≤ 122 <;> simp [fNotB, fBv, fChain, fC, fV, le_sign _ _ _ cs_a, le_sign2 _ _ _ cs_z, h1, h2, EV.toD, abcB]
    · simp [fNotB, fBv, fChain, fC, fV, le_sign _ _ _ cs_a, h1, EV.toD, abcB])
  have hall := filter_all abcB (cs s)
  by_cases h1 : 1 ≤ s.length
  · by_cases h2 : s.length ≤ 8
    · have c1 : (0 : Int) < s.length := by omega
      have c2 : (s.length : Int) < 9 := by omega
      have n1 : 0 < s.length := by omega
      simp [fn_law_is_name, runF, g_law_is_name, sSeq, sIf, fOrB, fNotB, fBv, fW, fCons, fVW, fC, fNil, sRet, fX, fChain, vLen, lenD, hs, c1, c2, n1, EV.toD, sNil, f2, fD, fLc, fSigns, fV, signsL_eq, wipeD, hl2, backD, vLst, Ob.toD, nameB, h1, h2]
      rw [e]
      have e2 : fN vLst fNil [Sl.d (.str s), Sl.no] = .ok (.own (.lst []), [Sl.d (.str s), Sl.no]) := rfl
      simp only [Rs.bind_ok, List.set_cons_succ, List.set_cons_zero, e2, eq_nil, Rs.of_some, hall]
      rfl
    · have c1 : (0 : Int) < s.length := by omega
      have c2 : ¬ (s.length : Int) < 9 := by omega
      have n1 : 0 < s.length := by omega
      simp [fn_law_is_name, runF, g_law_is_name, sSeq, sIf, fOrB, fNotB, fBv, fW, fCons, fVW, fC, fNil, sRet, fX, fChain, vLen, lenD, hs, c1, c2, n1, EV.toD, nameB, h1, h2]
  · have c1 : ¬ (0 : Int) < s.length := by omega
    have n1 : ¬ 0 < s.length := by omega
    simp [fn_law_is_name, runF, g_law_is_name, sSeq, sIf, fOrB, fNotB, fBv, fW, fCons, fVW, fC, fNil, sRet, fX, fChain, vLen, lenD, hs, c1, n1, EV.toD, nameB, h1]
end FD
end
section
set_option Elab.async false
set_option linter.all false
set_option maxRecDepth 100000
set_option maxHeartbeats 1000000
namespace FD
open PySem L2

/-- things that the law builds -/
inductive Th : D → Prop
  | non : Th .non
  | bl (b : Bool) : Th (.bl b)
  | int (i : Int) : i.natAbs < 1000000000000000000000000000000000000000000 → Th (.int i)
  | str (s : Str) : s.length ≤ 2000 → (∀ c ∈ cs s, c < 1000) → Th (.str s)
  | tup (l : List D) : l.length ≤ 2000 → (∀ d ∈ l, Th d) → Th (.tup l)
  | lst (l : List D) : l.length ≤ 2000 → (∀ d ∈ l, Th d) → Th (.lst l)
  | dct : Th (.dct [])
/-- .. or an exception held as a value -/
def Top (t : D) : Prop := Th t ∨ ∃ (nm : Str) (l : List D), t = .exc nm l

/-! ### a name -/
def nameD : D → Bool
  | .str s => nameB s
  | _ => false
theorem is_name_ok {t : D} (h : Top t) : fn_is_name [.d t] = .ok (.d (.bl (nameD t)), [.d t]) := by
  rcases h with h | ⟨nm, l, rfl⟩
  · cases h with
    | str s hs => exact is_name_str s (by rw [lim_eq]; omega)
    | _ => exact is_name_no (by simp)
  · exact is_name_no (by simp)
theorem law_name_ok {t : D} (h : Top t) : fn_law_is_name [.d t] = .ok (.d (.bl (nameD t)), [.d t]) := by
  rcases h with h | ⟨nm, l, rfl⟩
  · cases h with
    | str s hs => exact law_name_str s (by rw [lim_eq]; omega)
    | _ => exact law_name_no (by simp)
  · exact law_name_no (by simp)
theorem nameD_str {t : D} (h : nameD t = true) : ∃ s, t = .str s ∧ nameB s = true := by
  cases t with
  | str s => exact ⟨s, rfl, h⟩
  | _ => cases h
/-! ### a call of data -/
theorem call_data {fn : FnT} {δ : Dv} {x : D} {z : EV} {s : Sl} {fa : VF} (hf : fa δ = .ok (x, δ)) (e : fn [.d x] = .ok (z, [s])) : fCall fn (aCons fa aNil) δ = .ok (z, δ) := by
  simp [fCall, aCons, hf, aNil, borIx, argSl, e, putB]
theorem call_data3 {fn : FnT} {δ : Dv} {x y w : D} {z : EV} {s t u : Sl} {fa fb fc : VF} (hf : fa δ = .ok (x, δ)) (hg : fb δ = .ok (y, δ)) (hh : fc δ = .ok (w, δ)) (e : fn [.d x, .d y, .d w] = .ok (z, [s, t, u])) : fCall fn (aCons fa (aCons fb (aCons fc aNil))) δ = .ok (z, δ) := by
  simp [fCall, aCons, hf, hg, hh, aNil, borIx, argSl, e, putB]
/-! ### a letter -/
def letterD : D → Bool
  | .str s => nameB s && decide (s.length = 1)
  | _ => false
theorem is_letter_ok {t : D} (h : Top t) : fn_is_letter [.d t] = .ok (.d (.bl (letterD t)), [.d t]) := by
  have e := call_data (fn := fn_is_name) (δ := [.d t]) (x := t) (fa := fV 0) rfl (is_name_ok h)
  cases hn : nameD t with
  | false =>
    rw [hn] at e
    have : letterD t = false := by
      cases t with
      | str s => simp [letterD, show nameB s = false from hn]
      | _ => rfl
    simp [fn_is_letter, runF, g_is_letter, sRet, fX, fAnd, fD, e, EV.toD, this]
  | true =>
    rw [hn] at e
    obtain ⟨s, rfl, hs⟩ := nameD_str hn
    have hl : s.length ≤ lim := by
      rcases h with h | ⟨_, _, h⟩
      · cases h with
        | str s h => rw [lim_eq]; omega
      · cases h
    simp [fn_is_letter, runF, g_is_letter, sRet, fX, fAnd, fD, e, EV.toD, f2, fW, fCons, fVW, fNil, vLen, lenD, hl, fC, letterD, hs]
    omega
/-- the law's own: a name of one sign -/
theorem law_letter_ok {t : D} (h : Top t) {δ : Dv} (h0 : δ[0]? = some (.d t)) : fAnd (fD (fCall fn_law_is_name (aCons (fV 0) aNil))) (fD (f2 vEq (fW vLen (fCons (fVW 0) fNil)) (fC (.int 1)))) δ = .ok (.bl (letterD t), δ) := by
  have e := call_data (fn := fn_law_is_name) (δ := δ) (x := t) (fa := fV 0) (by simp [fV, h0]) (law_name_ok h)
  cases hn : nameD t with
  | false =>
    rw [hn] at e
    have : letterD t = false := by
      cases t with
      | str s => simp [letterD, show nameB s = false from hn]
      | _ => rfl
    simp [fAnd, fD, e, EV.toD, this]
  | true =>
    rw [hn] at e
    obtain ⟨s, rfl, hs⟩ := nameD_str hn
    have hl : s.length ≤ lim := by
      rcases h with h | ⟨_, _, h⟩
      · cases h with
        | str s h => rw [lim_eq]; omega
      · cases h
    simp [fAnd, fD, e, EV.toD, f2, fW, fCons, fVW, fNil, vLen, lenD, hl, fC, letterD, hs, h0]
    omega
/-! ### a whole number between two -/
def wholeD (lo hi : Int) : D → Bool
  | .int i => decide (lo ≤ i) && decide (i ≤ hi)
  | _ => false
theorem whole_eq : fn_law_is_whole = fn_is_whole := rfl
theorem is_whole_ok {t : D} (h : Top t) (lo hi : Int) : fn_is_whole [.d t, .d (.int lo), .d (.int hi)] = .ok (.d (.bl (wholeD lo hi t)), [.d t, .d (.int lo), .d (.int hi)]) := by
  rcases h with h | ⟨nm, l, rfl⟩
  · cases h with
    | int i hi' =>
      by_cases h1 : lo ≤ i
      · simp [fn_is_whole, runF, g_is_whole, sRet, fX, fAnd, fW, fCons, fVW, fC, fNil, fD, f1, vNot, EV.toD, fChain, fV, h1, wholeD]
      · simp [fn_is_whole, runF, g_is_whole, sRet, fX, fAnd, fW, fCons, fVW, fC, fNil, fD, f1, vNot, EV.toD, fChain, fV, h1, wholeD]
    | _ => simp [fn_is_whole, runF, g_is_whole, sRet, fX, fAnd, fW, fCons, fVW, fC, fNil, fD, f1, vNot, EV.toD, wholeD]
  · simp [fn_is_whole, runF, g_is_whole, sRet, fX, fAnd, fW, fCons, fVW, fC, fNil, wholeD]
end FD
end
section
set_option Elab.async false
set_option linter.all false
set_option maxRecDepth 100000
set_option maxHeartbeats 1000000
namespace FD
open PySem L2

theorem set_no {δ : Dv} {i : Nat} (h : δ[i]? = some .no) : δ.set i .no = δ := by
  apply List.ext_getElem?
  intro j
  by_cases hj : j = i
  · subst hj
    rw [List.getElem?_set_self (List.getElem?_eq_some_iff.mp h).1, h]
  · rw [List.getElem?_set_ne (Ne.symm hj)]
/-- a comprehension, elementwise, nothing else touched -/
theorem fLc_pure {it : LF} {i : Nat} {c : BF} {f : XF} {p : D → Bool} {h : D → D} {δ : Dv} {l : List D} (hit : it δ = .ok (l, δ)) (hl : l.length ≤ 100000) (hi : δ[i]? = some .no)
    (hx : ∀ x ∈ l, c (δ.set i (.d x)) = .ok (p x, δ.set i (.d x)) ∧ (p x = true → ∃ z, f (δ.set i (.d x)) = .ok (z, δ.set i (.d x)) ∧ z.toD = h x)) : fLc it (gNm i) c f [i] δ = .ok (.own (.lst ((l.filter p).map h)), δ) := by
  have h0 := set_no hi
  have w : wipeD δ [i] = δ := h0
  simp only [fLc, hit, Rs.bind_ok, hl, if_true, w, lc_pure h0 l hx]
  have b : backD [i] δ δ = δ := by
    show δ.set i _ = δ
    rw [hi]
    exact h0
  rw [b]
def plainB (c : Nat) : Bool := decide (32 ≤ c ∧ c ≤ 126)
def wordD : D → Bool
  | .str s => decide (s.length ≤ 40) && (cs s).all plainB
  | _ => false
theorem is_word_no {t : D} (h : vIsi2 [t, .ty "str"] = some (.bl false)) : fn_is_word [.d t] = .ok (.d (.bl false), [.d t]) := by
  simp [fn_is_word, runF, g_is_word, sSeq, sIf, fOrB, fNotB, fBv, fW, fCons, fVW, fC, fNil, h, sRet, fX]
theorem law_word_no {t : D} (h : vIsi2 [t, .ty "str"] = some (.bl false)) : fn_law_is_word [.d t] = .ok (.d (.bl false), [.d t]) := by
  simp [fn_law_is_word, runF, g_law_is_word, sSeq, sIf, fOrB, fNotB, fBv, fW, fCons, fVW, fC, fNil, h, sRet, fX]
theorem is_word_str (s : Str) (hs : s.length ≤ lim) : fn_is_word [.d (.str s)] = .ok (.d (.bl (wordD (.str s))), [.d (.str s)]) := by
  have hl2 : (sgs (cs s)).length ≤ 100000 := by have := hs; rw [length_cs, lim_eq] at this; simpa [sgs] using this
  have e := fLc_pure (it := fSigns (fV 0)) (i := 1) (c := fYes) (f := fX (fChain vLe vLe (fC (.str " ")) (fV 1) (fC (.str "~")))) (p := fun _ => true) (h := fun x => .bl (plainB (sgn x))) (δ := [.d (.str s), .no]) (l := sgs (cs s)) rfl hl2 rfl (fun x hx => by
    obtain ⟨c, _, rfl⟩ := mem_sgs hx
    refine ⟨rfl, fun _ => ⟨.d (.bl (plainB c)), ?_, rfl⟩⟩
    by_cases h1 : 32 ≤ c
    · by_cases h2 : c ≤ 126 <;> simp [fX, fChain, fC, fV, le_sign _ _ _ cs_sp, le_sign2 _ _ _ cs_ti, h1, h2, EV.toD, plainB]
    · simp [fX, fChain, fC, fV, le_sign _ _ _ cs_sp, h1, EV.toD, plainB])
  have hf : ((sgs (cs s)).filter fun _ => true) = sgs (cs s) := List.filter_eq_self.mpr fun _ _ => rfl
  rw [hf, map_sgs (fun c => D.bl (plainB c))] at e
  have hb := blsOf_mapF plainB (cs s)
  have hall := all_id (cs s) plainB
  by_cases h2 : s.length ≤ 40
  · have c2 : ¬ (40 : Int) < s.length := by omega
    have n2 : ¬ 40 < s.length := by omega
    simp [fn_is_word, runF, g_is_word, sSeq, sIf, fOrB, fNotB, fBv, fB, f2, fW, fCons, fVW, fC, fNil, sRet, vLen, lenD, hs, c2, n2, EV.toD, sNil, fX, fD, e, Ob.toD, vAll, listOf, hb, hall, wordD, h2]
  · have c2 : (40 : Int) < s.length := by omega
    have n2 : 40 < s.length := by omega
    simp [fn_is_word, runF, g_is_word, sSeq, sIf, fOrB, fNotB, fBv, fB, f2, fW, fCons, fVW, fC, fNil, sRet, fX, vLen, lenD, hs, c2, n2, EV.toD, wordD, h2]
theorem ord_sign (c : Nat) : vOrd [.str ⟨#[c]⟩] = some (.int c) := rfl
theorem law_word_str (s : Str) (hs : s.length ≤ lim) : fn_law_is_word [.d (.str s)] = .ok (.d (.bl (wordD (.str s))), [.d (.str s)]) := by
  have hl2 : (sgs (cs s)).length ≤ 100000 := by have := hs; rw [length_cs, lim_eq] at this; simpa [sgs] using this
  have e := fLc_pure (it := fSigns (fV 0)) (i := 1) (c := fNotB (fBv (fChain vLe vLe (fC (.int 32)) (fW vOrd (fCons (fVW 1) fNil)) (fC (.int 126))))) (f := fX (fV 1)) (p := fun x => !plainB (sgn x)) (h := id) (δ := [.d (.str s), .no]) (l := sgs (cs s)) rfl hl2 rfl (fun x hx => by
    obtain ⟨c, _, rfl⟩ := mem_sgs hx
    refine ⟨?_, fun _ => ⟨.d (.str ⟨#[c]⟩), by simp [fX, fV], rfl⟩⟩
    rw [sgn_mk]
    by_cases h1 : 32 ≤ c
    · have i1 : (32 : Int) ≤ c := by omega
      by_cases h2 : c ≤ 126
      · have i2 : (c : Int) ≤ 126 := by omega
        simp [fNotB, fBv, fChain, fC, fW, fCons, fVW, fNil, ord_sign, i1, i2, h1, h2, EV.toD, plainB]
      · have i2 : ¬ (c : Int) ≤ 126 := by omega
        simp [fNotB, fBv, fChain, fC, fW, fCons, fVW, fNil, ord_sign, i1, i2, h1, h2, EV.toD, plainB]
    · have i1 : ¬ (32 : Int) ≤ c := by omega
      simp [fNotB, fBv, fChain, fC, fW, fCons, fVW, fNil, ord_sign, i1, h1, EV.toD, plainB])
  have hall := filter_all plainB (cs s)
  have eN : fN vLst fNil [Sl.d (.str s), Sl.no] = .ok (.own (.lst []), [Sl.d (.str s), Sl.no]) := rfl
  by_cases h2 : s.length ≤ 40
  · have c2 : ¬ (40 : Int) < s.length := by omega
    have n2 : ¬ 40 < s.length := by omega
    simp [fn_law_is_word, runF, g_law_is_word, sSeq, sIf, fOrB, fNotB, fBv, fB, f2, fW, fCons, fVW, fC, fNil, sRet, vLen, lenD, hs, c2, n2, EV.toD, sNil, fD, e, Ob.toD, wordD, h2, eN, eq_nil]
    simpa using hall
  · have c2 : (40 : Int) < s.length := by omega
    have n2 : 40 < s.length := by omega
    simp [fn_law_is_word, runF, g_law_is_word, sSeq, sIf, fOrB, fNotB, fBv, fB, f2, fW, fCons, fVW, fC, fNil, sRet, fX, vLen, lenD, hs, c2, n2, EV.toD, wordD, h2]
theorem is_word_ok {t : D} (h : Top t) : fn_is_word [.d t] = .ok (.d (.bl (wordD t)), [.d t]) := by
  rcases h with h | ⟨nm, l, rfl⟩
  · cases h with
    | str s hs => exact is_word_str s (by rw [lim_eq]; omega)
    | _ => exact is_word_no (by simp)
  · exact is_word_no (by simp)
theorem law_word_ok {t : D} (h : Top t) : fn_law_is_word [.d t] = .ok (.d (.bl (wordD t)), [.d t]) := by
  rcases h with h | ⟨nm, l, rfl⟩
  · cases h with
    | str s hs => exact law_word_str s (by rw [lim_eq]; omega)
    | _ => exact law_word_no (by simp)
  · exact law_word_no (by simp)
end FD
end
section
set_option Elab.async false
set_option linter.all false
set_option maxRecDepth 100000
set_option maxHeartbeats 2000000
namespace FD
open PySem L2

theorem call_data1 {fn : FnT} {δ : Dv} {x : D} {z : EV} {s : Sl} {fa : VF} (hf : fa δ = .ok (x, δ)) (e : fn [.d x] = .ok (z, [s])) : fCall fn (aCons fa aNil) δ = .ok (z, δ) := call_data hf e
@[simp] theorem atI_cons0 {α : Type} (a : α) (l : List α) : atI (a :: l) 0 = some a := by
  unfold atI ixN
  simp
@[simp] theorem atI_cons1 {α : Type} (a b : α) (l : List α) : atI (a :: b :: l) 1 = some b := by
  unfold atI ixN
  have : (1 : Int) < (l.length : Int) + 1 + 1 := by omega
  simp [this]
@[simp] theorem atI_cons2 {α : Type} (a b c : α) (l : List α) : atI (a :: b :: c :: l) 2 = some c := by
  unfold atI ixN
  have : (2 : Int) < (l.length : Int) + 1 + 1 + 1 := by omega
  simp [this]
def textB : List D → Bool
  | [d] => wholeD 1 20 d
  | _ => false
def ownB : List D → Bool
  | [d] => nameD d
  | _ => false
theorem Top.of {d : D} (h : Th d) : Top d := .inl h
theorem kind_text {l : List D} (hl : l.length ≤ 2000) (h : ∀ d ∈ l, Th d) : fn_is_kind [.d (.tup (.str "text" :: l))] = .ok (.d (.bl (textB l)), [.d (.tup (.str "text" :: l))]) := by
  have hl2 : l.length ≤ 16000 := by omega
  have n0 : ¬ ((l.length : Int) + 1 = 0) := by omega
  have n1 : Str.ofString "text" ≠ Str.ofString "number" := by decide +kernel
  have n2 : Str.ofString "text" ≠ Str.ofString "one" := by decide +kernel
  cases l with
  | nil => simp [fn_is_kind, runF, g_is_kind, sSeq, sIf, fOrB, fNotB, fBv, fB, f2, fW, fCons, fVW, fC, fNil, sRet, fX, vLen, lenD, EV.toD, sNil, fD, sStar, fV, vIx, n1, n2, fAnd, textB]
  | cons d l =>
    cases l with
    | nil =>
      have e := call_data3 (fn := fn_is_whole) (δ := [.d (.tup [.str "text", d]), .d (.str "text"), .no, .d (.lst [d]), .no, .no]) (fa := fD (f2 vIx (fV 3) (fC (.int 0)))) (fb := fC (.int 1)) (fc := fC (.int 20)) (by simp [fD, f2, fV, fC, vIx, EV.toD]) rfl rfl (is_whole_ok (.of (h d (List.mem_cons_self ..))) 1 20)
      simp [fn_is_kind, runF, g_is_kind, sSeq, sIf, fOrB, fNotB, fBv, fB, f2, fW, fCons, fVW, fC, fNil, sRet, fX, vLen, lenD, EV.toD, sNil, fD, sStar, fV, vIx, n1, n2, fAnd, textB, e]
    | cons d2 l =>
      have hl3 : l.length + 1 + 1 ≤ 16000 := by simp at hl2; omega
      have n3 : ¬ ((l.length : Int) + 1 + 1 = 1) := by omega
      have n4 : ¬ ((l.length : Int) + 1 + 1 + 1 = 0) := by omega
      simp [fn_is_kind, runF, g_is_kind, sSeq, sIf, fOrB, fNotB, fBv, fB, f2, fW, fCons, fVW, fC, fNil, sRet, fX, vLen, lenD, EV.toD, sNil, fD, sStar, fV, vIx, n1, n2, fAnd, textB, hl3, n3, n4]
end FD
end
section
set_option Elab.async false
set_option linter.all false
set_option maxRecDepth 100000
set_option maxHeartbeats 2000000
namespace FD
open PySem L2

theorem ne_tn : Str.ofString "text" ≠ Str.ofString "number" := by decide +kernel
theorem ne_to : Str.ofString "text" ≠ Str.ofString "one" := by decide +kernel
theorem ne_on : Str.ofString "own" ≠ Str.ofString "number" := by decide +kernel
theorem ne_oo : Str.ofString "own" ≠ Str.ofString "one" := by decide +kernel
theorem ne_ot : Str.ofString "own" ≠ Str.ofString "text" := by decide +kernel
theorem law_text {l : List D} (hl : l.length ≤ 2000) (h : ∀ d ∈ l, Th d) : fn_law_is_kind [.d (.tup (.str "text" :: l))] = .ok (.d (.bl (textB l)), [.d (.tup (.str "text" :: l))]) := by
  have n1 := ne_tn
  have n2 := ne_to
  have q : vEq (.tup (.str (Str.ofString "text") :: l)) (.tup []) = some (.d (.bl false)) := rfl
  cases l with
  | nil => simp [fn_law_is_kind, runF, g_law_is_kind, sSeq, sIf, fOrB, fNotB, fBv, fB, f2, fW, fCons, fVW, fC, fNil, sRet, fX, vLen, lenD, EV.toD, EV.sl, sNil, fD, sPar, fV, fVF, vIx, n1, n2, fAnd, textB, fN, vTup, q]
  | cons d l =>
    cases l with
    | nil =>
      have e := call_data3 (fn := fn_law_is_whole) (δ := [.d (.tup [.str "text", d]), .d (.str "text"), .d (.int 2), .no, .no, .no]) (fa := fD (f2 vIx (fV 0) (fC (.int 1)))) (fb := fC (.int 1)) (fc := fC (.int 20)) (by simp [fD, f2, fV, fC, vIx, EV.toD]) rfl rfl (is_whole_ok (.of (h d (List.mem_cons_self ..))) 1 20)
      simp [fn_law_is_kind, runF, g_law_is_kind, sSeq, sIf, fOrB, fNotB, fBv, fB, f2, fW, fCons, fVW, fC, fNil, sRet, fX, vLen, lenD, EV.toD, EV.sl, sNil, fD, sPar, fV, fVF, vIx, n1, n2, fAnd, textB, fN, vTup, q, e]
    | cons d2 l =>
      have n3 : ¬ ((l.length : Int) + 1 + 1 + 1 = 2) := by omega
      simp [fn_law_is_kind, runF, g_law_is_kind, sSeq, sIf, fOrB, fNotB, fBv, fB, f2, fW, fCons, fVW, fC, fNil, sRet, fX, vLen, lenD, EV.toD, EV.sl, sNil, fD, sPar, fV, fVF, vIx, n1, n2, fAnd, textB, fN, vTup, q, n3]
theorem kind_own {l : List D} (hl : l.length ≤ 2000) (h : ∀ d ∈ l, Th d) : fn_is_kind [.d (.tup (.str "own" :: l))] = .ok (.d (.bl (ownB l)), [.d (.tup (.str "own" :: l))]) := by
  have hl2 : l.length ≤ 16000 := by omega
  have n1 := ne_on
  have n2 := ne_oo
  have n5 := ne_ot
  cases l with
  | nil => simp [fn_is_kind, runF, g_is_kind, sSeq, sIf, fOrB, fNotB, fBv, fB, f2, fW, fCons, fVW, fC, fNil, sRet, fX, vLen, lenD, EV.toD, sNil, fD, sStar, fV, vIx, n1, n2, n5, fAnd, ownB]
  | cons d l =>
    cases l with
    | nil =>
      have e := call_data (fn := fn_is_name) (δ := [.d (.tup [.str "own", d]), .d (.str "own"), .no, .d (.lst [d]), .no, .no]) (fa := fD (f2 vIx (fV 3) (fC (.int 0)))) (by simp [fD, f2, fV, fC, vIx, EV.toD]) (is_name_ok (.of (h d (List.mem_cons_self ..))))
      simp [fn_is_kind, runF, g_is_kind, sSeq, sIf, fOrB, fNotB, fBv, fB, f2, fW, fCons, fVW, fC, fNil, sRet, fX, vLen, lenD, EV.toD, sNil, fD, sStar, fV, vIx, n1, n2, n5, fAnd, ownB, e]
    | cons d2 l =>
      have hl3 : l.length + 1 + 1 ≤ 16000 := by simp at hl2; omega
      have n3 : ¬ ((l.length : Int) + 1 + 1 = 1) := by omega
      have n4 : ¬ ((l.length : Int) + 1 + 1 + 1 = 0) := by omega
      simp [fn_is_kind, runF, g_is_kind, sSeq, sIf, fOrB, fNotB, fBv, fB, f2, fW, fCons, fVW, fC, fNil, sRet, fX, vLen, lenD, EV.toD, sNil, fD, sStar, fV, vIx, n1, n2, n5, fAnd, ownB, hl3, n3, n4]
theorem law_own {l : List D} (hl : l.length ≤ 2000) (h : ∀ d ∈ l, Th d) : fn_law_is_kind [.d (.tup (.str "own" :: l))] = .ok (.d (.bl (ownB l)), [.d (.tup (.str "own" :: l))]) := by
  have n1 := ne_on
  have n2 := ne_oo
  have n5 := ne_ot
  have q : vEq (.tup (.str (Str.ofString "own") :: l)) (.tup []) = some (.d (.bl false)) := rfl
  cases l with
  | nil => simp [fn_law_is_kind, runF, g_law_is_kind, sSeq, sIf, fOrB, fNotB, fBv, fB, f2, fW, fCons, fVW, fC, fNil, sRet, fX, vLen, lenD, EV.toD, EV.sl, sNil, fD, sPar, fV, fVF, vIx, n1, n2, n5, fAnd, ownB, fN, vTup, q]
  | cons d l =>
    cases l with
    | nil =>
      have e := call_data (fn := fn_law_is_name) (δ := [.d (.tup [.str "own", d]), .d (.str "own"), .d (.int 2), .no, .no, .no]) (fa := fD (f2 vIx (fV 0) (fC (.int 1)))) (by simp [fD, f2, fV, fC, vIx, EV.toD]) (law_name_ok (.of (h d (List.mem_cons_self ..))))
      simp [fn_law_is_kind, runF, g_law_is_kind, sSeq, sIf, fOrB, fNotB, fBv, fB, f2, fW, fCons, fVW, fC, fNil, sRet, fX, vLen, lenD, EV.toD, EV.sl, sNil, fD, sPar, fV, fVF, vIx, n1, n2, n5, fAnd, ownB, fN, vTup, q, e]
    | cons d2 l =>
      have n3 : ¬ ((l.length : Int) + 1 + 1 + 1 = 2) := by omega
      simp [fn_law_is_kind, runF, g_law_is_kind, sSeq, sIf, fOrB, fNotB, fBv, fB, f2, fW, fCons, fVW, fC, fNil, sRet, fX, vLen, lenD, EV.toD, EV.sl, sNil, fD, sPar, fV, fVF, vIx, n1, n2, n5, fAnd, ownB, fN, vTup, q, n3]
end FD
end
section
set_option Elab.async false
set_option linter.all false
set_option maxRecDepth 100000
set_option maxHeartbeats 2000000
namespace FD
open PySem L2

def elseB (w : Str) (l : List D) : Bool := decide (w = Str.ofString "name") && l.isEmpty
theorem kind_else {w : Str} {l : List D} (hl : l.length ≤ 2000) (n1 : w ≠ Str.ofString "number") (n2 : w ≠ Str.ofString "one") (n5 : w ≠ Str.ofString "text") (n6 : w ≠ Str.ofString "own") : fn_is_kind [.d (.tup (.str w :: l))] = .ok (.d (.bl (elseB w l)), [.d (.tup (.str w :: l))]) := by
  have hl2 : l.length ≤ 16000 := by omega
  have n4 : ¬ ((l.length : Int) + 1 = 0) := by omega
  have eN : ∀ δ, fN vLst fNil δ = .ok (.own (.lst []), δ) := fun _ => rfl
  by_cases hw : w = Str.ofString "name"
  · rw [hw] at n1 n2 n5 n6
    rw [hw]
    simp [fn_is_kind, runF, g_is_kind, sSeq, sIf, fOrB, fNotB, fBv, fB, f2, fW, fCons, fVW, fC, fNil, sRet, fX, vLen, lenD, EV.toD, sNil, fD, sStar, fV, vIx, hl2, n1, n2, n4, n5, n6, fAnd, elseB, eN, Ob.toD, eq_nil]
  · simp [fn_is_kind, runF, g_is_kind, sSeq, sIf, fOrB, fNotB, fBv, fB, f2, fW, fCons, fVW, fC, fNil, sRet, fX, vLen, lenD, EV.toD, sNil, fD, sStar, fV, vIx, hl2, n1, n2, n4, n5, n6, hw, fAnd, elseB]
theorem law_else {w : Str} {l : List D} (hl : l.length ≤ 2000) (n1 : w ≠ Str.ofString "number") (n2 : w ≠ Str.ofString "one") (n5 : w ≠ Str.ofString "text") (n6 : w ≠ Str.ofString "own") : fn_law_is_kind [.d (.tup (.str w :: l))] = .ok (.d (.bl (elseB w l)), [.d (.tup (.str w :: l))]) := by
  have q : vEq (.tup (.str w :: l)) (.tup []) = some (.d (.bl false)) := rfl
  have q2 : vEq (.tup (.str w :: l)) (.tup [.str (Str.ofString "name")]) = some (.d (.bl (elseB w l))) := rfl
  simp [fn_law_is_kind, runF, g_law_is_kind, sSeq, sIf, fOrB, fNotB, fBv, fB, f2, fW, fCons, fVW, fC, fNil, sRet, fX, vLen, lenD, EV.toD, EV.sl, sNil, fD, sPar, fV, fVF, vIx, n1, n2, n5, n6, fAnd, fN, vTup, q, q2]
end FD
end
section
set_option Elab.async false
set_option linter.all false
set_option maxRecDepth 100000
set_option maxHeartbeats 2000000
namespace FD
open PySem L2

abbrev W6 : D → Bool := wholeD (-999999) 999999
def leB : D → D → Bool
  | .int a, .int b => decide (a ≤ b)
  | _, _ => false
def numB : List D → Bool
  | [x, y] => (W6 x && W6 y) && leB x y
  | _ => false
theorem W6_int {x : D} (h : W6 x = true) : ∃ a, x = .int a := by
  cases x with
  | int a => exact ⟨a, rfl⟩
  | _ => cases h
theorem whole_comp {l : List D} (h : ∀ d ∈ l, Th d) {δ : Dv} {i : Nat} {it : LF} (hit : it δ = .ok (l, δ)) (hl : l.length ≤ 2000) (hi : δ[i]? = some .no) :
    fLc it (gNm i) fYes (fCall fn_is_whole (aCons (fV i) (aCons (fD (f1 vNeg (fC (.int 999999)))) (aCons (fC (.int 999999)) aNil)))) [i] δ = .ok (.own (.lst (l.map fun x => .bl (W6 x))), δ) := by
  have hil : i < δ.length := (List.getElem?_eq_some_iff.mp hi).1
  have e := fLc_pure (it := it) (i := i) (c := fYes) (f := fCall fn_is_whole (aCons (fV i) (aCons (fD (f1 vNeg (fC (.int 999999)))) (aCons (fC (.int 999999)) aNil)))) (p := fun _ => true) (h := fun x => .bl (W6 x)) hit (by omega) hi (fun x hx =>
    ⟨rfl, fun _ => ⟨.d (.bl (W6 x)), call_data3 (x := x) (y := .int (-999999)) (w := .int 999999) (by simp [fV, hil]) (by simp [fD, f1, fC, vNeg, EV.toD]) rfl (is_whole_ok (.of (h x hx)) (-999999) 999999), rfl⟩⟩)
  rw [List.filter_eq_self.mpr fun _ _ => rfl] at e
  exact e
theorem law_whole_comp {l : List D} (h : ∀ d ∈ l, Th d) {δ : Dv} {i : Nat} {it : LF} (hit : it δ = .ok (l, δ)) (hl : l.length ≤ 2000) (hi : δ[i]? = some .no) :
    fLc it (gNm i) (fNotB (fB (fCall fn_law_is_whole (aCons (fV i) (aCons (fD (f1 vNeg (fC (.int 999999)))) (aCons (fC (.int 999999)) aNil)))))) (fX (fV i)) [i] δ = .ok (.own (.lst ((l.filter fun x => !W6 x).map id)), δ) := by
  have hil : i < δ.length := (List.getElem?_eq_some_iff.mp hi).1
  refine fLc_pure hit (by omega) hi fun x hx => ⟨?_, fun _ => ⟨.d x, by simp [fX, fV, hil], rfl⟩⟩
  have e := call_data3 (fn := fn_law_is_whole) (δ := δ.set i (.d x)) (x := x) (y := .int (-999999)) (w := .int 999999) (fa := fV i) (fb := fD (f1 vNeg (fC (.int 999999)))) (fc := fC (.int 999999)) (by simp [fV, hil]) (by simp [fD, f1, fC, vNeg, EV.toD]) rfl (is_whole_ok (.of (h x hx)) (-999999) 999999)
  simp [fNotB, fB, e]
theorem ne_no : Str.ofString "number" ≠ Str.ofString "one" := by decide +kernel
theorem le_ints (a b : Int) : vLe (.int a) (.int b) = some (.d (.bl (decide (a ≤ b)))) := rfl
theorem kind_num {l : List D} (hl : l.length ≤ 2000) (h : ∀ d ∈ l, Th d) : fn_is_kind [.d (.tup (.str "number" :: l))] = .ok (.d (.bl (numB l)), [.d (.tup (.str "number" :: l))]) := by
  have hl2 : l.length ≤ 16000 := by omega
  have n4 : ¬ ((l.length : Int) + 1 = 0) := by omega
  by_cases h2 : l.length = 2
  · match l, h2, h with
    | [x, y], _, h =>
      have e := whole_comp (l := [x, y]) h (δ := [.d (.tup [.str "number", x, y]), .d (.str "number"), .no, .d (.lst [x, y]), .no, .no]) (i := 4) (it := fItems (fV 3)) rfl (by simp) rfl
      cases hx : W6 x with
      | false =>
        simp [fn_is_kind, runF, g_is_kind, sSeq, sIf, fOrB, fNotB, fBv, fB, f2, fW, fCons, fVW, fC, fNil, sRet, fX, vLen, lenD, EV.toD, EV.sl, slOf, sSet, fVF, sNil, fD, sStar, fV, vIx, fAnd, numB, e, Ob.toD, vAll, listOf, blsOf, hx]
      | true =>
        cases hy : W6 y with
        | false =>
          simp [fn_is_kind, runF, g_is_kind, sSeq, sIf, fOrB, fNotB, fBv, fB, f2, fW, fCons, fVW, fC, fNil, sRet, fX, vLen, lenD, EV.toD, EV.sl, slOf, sSet, fVF, sNil, fD, sStar, fV, vIx, fAnd, numB, e, Ob.toD, vAll, listOf, blsOf, hx, hy]
        | true =>
          obtain ⟨a, rfl⟩ := W6_int hx
          obtain ⟨b, rfl⟩ := W6_int hy
          simp [fn_is_kind, runF, g_is_kind, sSeq, sIf, fOrB, fNotB, fBv, fB, f2, fW, fCons, fVW, fC, fNil, sRet, fX, vLen, lenD, EV.toD, EV.sl, slOf, sSet, fVF, sNil, fD, sStar, fV, vIx, fAnd, numB, e, Ob.toD, vAll, listOf, blsOf, hx, hy, leB]
  · have n3 : ¬ ((l.length : Int) = 2) := by omega
    have nb : numB l = false := by
      unfold numB
      split
      · simp at h2
      · rfl
    simp [fn_is_kind, runF, g_is_kind, sSeq, sIf, fOrB, fNotB, fBv, fB, f2, fW, fCons, fVW, fC, fNil, sRet, fX, vLen, lenD, EV.toD, EV.sl, slOf, sSet, fVF, sNil, fD, sStar, fV, vIx, hl2, n3, n4, fAnd, nb]
theorem law_num {l : List D} (hl : l.length ≤ 2000) (h : ∀ d ∈ l, Th d) : fn_law_is_kind [.d (.tup (.str "number" :: l))] = .ok (.d (.bl (numB l)), [.d (.tup (.str "number" :: l))]) := by
  have q : vEq (.tup (.str (Str.ofString "number") :: l)) (.tup []) = some (.d (.bl false)) := rfl
  have eN : ∀ δ, fN vLst fNil δ = .ok (.own (.lst []), δ) := fun _ => rfl
  have eT : ∀ δ, fN vTup fNil δ = .ok (.d (.tup []), δ) := fun _ => rfl
  by_cases h2 : l.length = 2
  · match l, h2, h, q with
    | [x, y], _, h, q =>
      have e := law_whole_comp (l := [x, y]) h (δ := [.d (.tup [.str "number", x, y]), .d (.str "number"), .d (.int 3), .no, .no, .no]) (i := 5) (it := fItemsT (fD (fSl (fV 0) (oSome (fC (.int 1))) oNone))) rfl (by simp) rfl
      cases hx : W6 x with
      | false =>
        simp [fn_law_is_kind, runF, g_law_is_kind, sSeq, sIf, fOrB, fNotB, fBv, fB, f2, fW, fCons, fVW, fC, fNil, sRet, fX, vLen, lenD, EV.toD, EV.sl, slOf, sSet, fVF, sNil, fD, sPar, fV, vIx, fAnd, numB, eN, eT, e, Ob.toD, hx, q, eq_nil]
      | true =>
        cases hy : W6 y with
        | false =>
          simp [fn_law_is_kind, runF, g_law_is_kind, sSeq, sIf, fOrB, fNotB, fBv, fB, f2, fW, fCons, fVW, fC, fNil, sRet, fX, vLen, lenD, EV.toD, EV.sl, slOf, sSet, fVF, sNil, fD, sPar, fV, vIx, fAnd, numB, eN, eT, e, Ob.toD, hx, hy, q, eq_nil]
        | true =>
          obtain ⟨a, rfl⟩ := W6_int hx
          obtain ⟨b, rfl⟩ := W6_int hy
          simp [fn_law_is_kind, runF, g_law_is_kind, sSeq, sIf, fOrB, fNotB, fBv, fB, f2, fW, fCons, fVW, fC, fNil, sRet, fX, vLen, lenD, EV.toD, EV.sl, slOf, sSet, fVF, sNil, fD, sPar, fV, vIx, fAnd, numB, eN, eT, e, Ob.toD, hx, hy, q, eq_nil, leB]
  · have n3 : ¬ ((l.length : Int) + 1 = 3) := by omega
    have nb : numB l = false := by
      unfold numB
      split
      · simp at h2
      · rfl
    simp [fn_law_is_kind, runF, g_law_is_kind, sSeq, sIf, fOrB, fNotB, fBv, fB, f2, fW, fCons, fVW, fC, fNil, sRet, fX, vLen, lenD, EV.toD, EV.sl, slOf, sSet, fVF, sNil, fD, sPar, fV, vIx, n3, fAnd, nb, eT, q]
end FD
end
section
set_option Elab.async false
set_option linter.all false
set_option maxRecDepth 100000
set_option maxHeartbeats 2000000
namespace FD
open PySem L2

def unlB (m : List D) : Bool := match strsOf m with
  | some xs => decide (cntU xs xs.length = xs.length)
  | none => false
def manyB (m : List D) : Bool := decide (1 ≤ m.length) && decide (m.length ≤ 8)
def oneB : List D → Bool
  | [.tup m] => manyB m && (m.all nameD && unlB m)
  | _ => false
theorem names_strs : ∀ {m : List D}, m.all nameD = true → ∃ xs : List Str, m = xs.map D.str
  | [], _ => ⟨[], rfl⟩
  | d :: m, h => by
    simp only [List.all_cons, Bool.and_eq_true] at h
    obtain ⟨s, rfl, _⟩ := nameD_str h.1
    obtain ⟨xs, rfl⟩ := names_strs h.2
    exact ⟨s :: xs, rfl⟩
theorem unlike_ok (xs : List Str) (h : xs.length ≤ 8) : fn_are_unlike [.d (.tup (xs.map D.str))] = .ok (.d (.bl (unlB (xs.map D.str))), [.d (.tup (xs.map D.str))]) := by
  have h2 : xs.length ≤ 4000 := by omega
  simp [fn_are_unlike, runF, g_are_unlike, sRet, f2, fW, fCons, fVW, fNil, vLenSet, seqOf, strsOf_map, h2, vLen, lenD, unlB]
  omega
theorem unlike_all {m : List D} (hn : m.all nameD = true) (h : m.length ≤ 8) : fn_are_unlike [.d (.tup m)] = .ok (.d (.bl (unlB m)), [.d (.tup m)]) := by
  obtain ⟨xs, rfl⟩ := names_strs hn
  exact unlike_ok xs (by simpa using h)
theorem name_comp {l : List D} (h : ∀ d ∈ l, Th d) {δ : Dv} {i : Nat} {it : LF} (hit : it δ = .ok (l, δ)) (hl : l.length ≤ 2000) (hi : δ[i]? = some .no) :
    fLc it (gNm i) fYes (fCall fn_is_name (aCons (fV i) aNil)) [i] δ = .ok (.own (.lst (l.map fun x => .bl (nameD x))), δ) := by
  have hil : i < δ.length := (List.getElem?_eq_some_iff.mp hi).1
  have e := fLc_pure (it := it) (i := i) (c := fYes) (f := fCall fn_is_name (aCons (fV i) aNil)) (p := fun _ => true) (h := fun x => .bl (nameD x)) hit (by omega) hi (fun x hx =>
    ⟨rfl, fun _ => ⟨.d (.bl (nameD x)), call_data (x := x) (by simp [fV, hil]) (is_name_ok (.of (h x hx))), rfl⟩⟩)
  rw [List.filter_eq_self.mpr fun _ _ => rfl] at e
  exact e
theorem law_name_comp {l : List D} (h : ∀ d ∈ l, Th d) {δ : Dv} {i : Nat} {it : LF} (hit : it δ = .ok (l, δ)) (hl : l.length ≤ 2000) (hi : δ[i]? = some .no) :
    fLc it (gNm i) (fB (fCall fn_law_is_name (aCons (fV i) aNil))) (fX (fV i)) [i] δ = .ok (.own (.lst ((l.filter nameD).map id)), δ) := by
  have hil : i < δ.length := (List.getElem?_eq_some_iff.mp hi).1
  refine fLc_pure hit (by omega) hi fun x hx => ⟨?_, fun _ => ⟨.d x, by simp [fX, fV, hil], rfl⟩⟩
  have e := call_data (fn := fn_law_is_name) (δ := δ.set i (.d x)) (x := x) (fa := fV i) (by simp [fV, hil]) (law_name_ok (.of (h x hx)))
  simp [fB, e]
theorem blsOf_names (m : List D) : blsOf (m.map fun x => D.bl (nameD x)) = some (m.map nameD) := by
  have := blsOf_map (m.map nameD)
  rw [List.map_map] at this
  exact this
theorem all_idD (m : List D) (p : D → Bool) : (m.map p).all id = m.all p := by
  induction m with
  | nil => rfl
  | cons x l ih => simp [ih]
theorem kind_one_tup {m : List D} (hm : m.length ≤ 2000) (h : ∀ d ∈ m, Th d) : fn_is_kind [.d (.tup [.str "one", .tup m])] = .ok (.d (.bl (oneB [.tup m])), [.d (.tup [.str "one", .tup m])]) := by
  have n0 : Str.ofString "one" ≠ Str.ofString "number" := fun h => ne_no h.symm
  have e := name_comp h (δ := [.d (.tup [.str "one", .tup m]), .d (.str "one"), .no, .d (.lst [.tup m]), .no, .no]) (i := 5) (it := fItemsT (fD (f2 vIx (fV 3) (fC (.int 0))))) (by simp [fItemsT, fD, f2, fV, fC, vIx, EV.toD]) hm rfl
  have hb := blsOf_names m
  have ha := all_idD m nameD
  by_cases h1 : 1 ≤ m.length
  · have c1 : (1 : Int) ≤ m.length := by omega
    by_cases h8 : m.length ≤ 8
    · have c8 : (m.length : Int) ≤ 8 := by omega
      cases hn : m.all nameD with
      | false =>
        rw [hn] at ha
        simp [fn_is_kind, runF, g_is_kind, sSeq, sIf, fOrB, fNotB, fBv, fB, f2, fW, fCons, fVW, fC, fNil, sRet, fX, vLen, lenD, EV.toD, sNil, fD, sStar, fV, vIx, n0, fAnd, fChain, c1, c8, e, Ob.toD, vAll, listOf, hb, ha, oneB, manyB, h1, h8, hn]
      | true =>
        rw [hn] at ha
        have u := call_data (fn := fn_are_unlike) (δ := [.d (.tup [.str "one", .tup m]), .d (.str "one"), .no, .d (.lst [.tup m]), .no, .no]) (fa := fD (f2 vIx (fV 3) (fC (.int 0)))) (by simp [fD, f2, fV, fC, vIx, EV.toD]) (unlike_all hn h8)
        simp [fn_is_kind, runF, g_is_kind, sSeq, sIf, fOrB, fNotB, fBv, fB, f2, fW, fCons, fVW, fC, fNil, sRet, fX, vLen, lenD, EV.toD, sNil, fD, sStar, fV, vIx, n0, fAnd, fChain, c1, c8, e, Ob.toD, vAll, listOf, hb, ha, oneB, manyB, h1, h8, hn, u]
    · have c8 : ¬ (m.length : Int) ≤ 8 := by omega
      simp [fn_is_kind, runF, g_is_kind, sSeq, sIf, fOrB, fNotB, fBv, fB, f2, fW, fCons, fVW, fC, fNil, sRet, fX, vLen, lenD, EV.toD, sNil, fD, sStar, fV, vIx, n0, fAnd, fChain, c1, c8, oneB, manyB, h8]
  · have c1 : ¬ (1 : Int) ≤ m.length := by omega
    simp [fn_is_kind, runF, g_is_kind, sSeq, sIf, fOrB, fNotB, fBv, fB, f2, fW, fCons, fVW, fC, fNil, sRet, fX, vLen, lenD, EV.toD, sNil, fD, sStar, fV, vIx, n0, fAnd, fChain, c1, oneB, manyB, h1]
theorem chain_eq {δ : Dv} {a b c : Int} {fa fb fc : VF} (ha : fa δ = .ok (.int a, δ)) (hb : fb δ = .ok (.int b, δ)) (hc : fc δ = .ok (.int c, δ)) : fChain vEq vEq fa fb fc δ = .ok (.bl (decide (a = b) && decide (b = c)), δ) := by
  by_cases h : a = b <;> simp [fChain, ha, hb, hc, h, EV.toD]
theorem chain_ne {δ : Dv} {a b : Int} {fa fb fc : VF} (ha : fa δ = .ok (.int a, δ)) (hb : fb δ = .ok (.int b, δ)) (h : a ≠ b) : fChain vEq vEq fa fb fc δ = .ok (.bl false, δ) := by
  simp [fChain, ha, hb, h]
theorem law_one_tup {m : List D} (hm : m.length ≤ 2000) (h : ∀ d ∈ m, Th d) : fn_law_is_kind [.d (.tup [.str "one", .tup m])] = .ok (.d (.bl (oneB [.tup m])), [.d (.tup [.str "one", .tup m])]) := by
  have n0 : Str.ofString "one" ≠ Str.ofString "number" := fun h => ne_no h.symm
  have q : vEq (.tup [.str (Str.ofString "one"), .tup m]) (.tup []) = some (.d (.bl false)) := rfl
  have eT : ∀ δ, fN vTup fNil δ = .ok (.d (.tup []), δ) := fun _ => rfl
  have e := law_name_comp h (δ := [.d (.tup [.str "one", .tup m]), .d (.str "one"), .d (.int 2), .no, .no, .no]) (i := 5) (it := fItemsT (fD (f2 vIx (fV 0) (fC (.int 1))))) (by simp [fItemsT, fD, f2, fV, fC, vIx, EV.toD]) hm rfl
  by_cases h1 : 1 ≤ m.length
  · have c1 : (1 : Int) ≤ m.length := by omega
    by_cases h8 : m.length ≤ 8
    · have c8 : (m.length : Int) ≤ 8 := by omega
      have cl : fChain vLe vLe (fC (.int 1)) (fW vLen (fCons (fD (f2 vIx (fV 0) (fC (.int 1)))) fNil)) (fC (.int 8)) [.d (.tup [.str "one", .tup m]), .d (.str "one"), .d (.int 2), .no, .no, .no] = .ok (.bl true, [.d (.tup [.str "one", .tup m]), .d (.str "one"), .d (.int 2), .no, .no, .no]) := by
        simp [fChain, fC, fW, fCons, fD, f2, fV, fNil, vIx, vLen, lenD, EV.toD, c1, c8]
      cases hn : m.all nameD with
      | false =>
        have lt : (m.filter nameD).length ≠ m.length := fun z => by
          rw [List.length_filter_eq_length_iff] at z
          have : m.all nameD = true := List.all_eq_true.mpr z
          rw [hn] at this; cases this
        have ch := chain_ne (δ := [.d (.tup [.str "one", .tup m]), .d (.str "one"), .d (.int 2), .no, .own (.lst (m.filter nameD)), .no]) (a := (m.filter nameD).length) (b := m.length) (fa := fW vLen (fCons (fVW 4) fNil)) (fb := fW vLen (fCons (fD (f2 vIx (fV 0) (fC (.int 1)))) fNil)) (fc := fW vLenSet (fCons (fVW 4) fNil)) (by simp [fW, fCons, fVW, fNil, vLen, lenD, Ob.toD]) (by simp [fW, fCons, fD, f2, fV, fC, fNil, vIx, vLen, lenD, EV.toD]) (by omega)
        simp [fn_law_is_kind, runF, g_law_is_kind, sSeq, sIf, fOrB, fNotB, fBv, fB, f2, fW, fCons, fVW, fC, fNil, sRet, fX, vLen, lenD, EV.toD, EV.sl, slOf, sSet, fVF, sNil, fD, sPar, fV, vIx, n0, fAnd, c1, c8, cl, e, ch, Ob.toD, oneB, manyB, h1, h8, hn, q, eT]
      | true =>
        have fm : m.filter nameD = m := List.filter_eq_self.mpr (List.all_eq_true.mp hn)
        obtain ⟨xs, hxs⟩ := names_strs hn
        have us : strsOf m = some xs := by rw [hxs]; exact strsOf_map xs
        have lx : xs.length = m.length := by rw [hxs]; simp
        have x4 : xs.length ≤ 4000 := by omega
        have ch := chain_eq (δ := [.d (.tup [.str "one", .tup m]), .d (.str "one"), .d (.int 2), .no, .own (.lst (m.filter nameD)), .no]) (a := m.length) (b := m.length) (c := (cntU xs xs.length : Nat)) (fa := fW vLen (fCons (fVW 4) fNil)) (fb := fW vLen (fCons (fD (f2 vIx (fV 0) (fC (.int 1)))) fNil)) (fc := fW vLenSet (fCons (fVW 4) fNil)) (by simp [fW, fCons, fVW, fNil, vLen, lenD, Ob.toD, fm]) (by simp [fW, fCons, fD, f2, fV, fC, fNil, vIx, vLen, lenD, EV.toD]) (by simp [fW, fCons, fVW, fNil, vLenSet, seqOf, Ob.toD, fm, us, x4])
        have fin : (decide ((m.length : Int) = m.length) && decide ((m.length : Int) = (cntU xs xs.length : Nat))) = unlB m := by
          unfold unlB
          rw [us]
          have : ((m.length : Int) = (cntU xs xs.length : Nat)) ↔ (cntU xs xs.length = xs.length) := by omega
          simp [this]
        rw [fin] at ch
        simp [fn_law_is_kind, runF, g_law_is_kind, sSeq, sIf, fOrB, fNotB, fBv, fB, f2, fW, fCons, fVW, fC, fNil, sRet, fX, vLen, lenD, EV.toD, EV.sl, slOf, sSet, fVF, sNil, fD, sPar, fV, vIx, n0, fAnd, c1, c8, cl, e, ch, Ob.toD, oneB, manyB, h1, h8, hn, q, eT]
    · have c8 : ¬ (m.length : Int) ≤ 8 := by omega
      simp [fn_law_is_kind, runF, g_law_is_kind, sSeq, sIf, fOrB, fNotB, fBv, fB, f2, fW, fCons, fVW, fC, fNil, sRet, fX, vLen, lenD, EV.toD, EV.sl, slOf, sSet, fVF, sNil, fD, sPar, fV, vIx, n0, fAnd, fChain, c1, c8, oneB, manyB, h8, q, eT]
  · have c1 : ¬ (1 : Int) ≤ m.length := by omega
    simp [fn_law_is_kind, runF, g_law_is_kind, sSeq, sIf, fOrB, fNotB, fBv, fB, f2, fW, fCons, fVW, fC, fNil, sRet, fX, vLen, lenD, EV.toD, EV.sl, slOf, sSet, fVF, sNil, fD, sPar, fV, vIx, n0, fAnd, fChain, c1, oneB, manyB, h1, q, eT]
end FD
end
section
set_option Elab.async false
set_option linter.all false
set_option maxRecDepth 100000
set_option maxHeartbeats 2000000
namespace FD
open PySem L2

theorem kind_no {t : D} (h : vIsi2 [t, .ty "tuple"] = some (.bl false)) : fn_is_kind [.d t] = .ok (.d (.bl false), [.d t]) := by
  simp [fn_is_kind, runF, g_is_kind, sSeq, sIf, fOrB, fNotB, fBv, fW, fCons, fVW, fC, fNil, h, sRet, fX]
theorem law_kind_no {t : D} (h : vIsi2 [t, .ty "tuple"] = some (.bl false)) : fn_law_is_kind [.d t] = .ok (.d (.bl false), [.d t]) := by
  simp [fn_law_is_kind, runF, g_law_is_kind, sSeq, sIf, fOrB, fNotB, fBv, fW, fCons, fVW, fC, fNil, h, sRet, fX]
theorem kind_nil : fn_is_kind [.d (.tup [])] = .ok (.d (.bl false), [.d (.tup [])]) := by
  simp [fn_is_kind, runF, g_is_kind, sSeq, sIf, fOrB, fNotB, fBv, fB, f2, fW, fCons, fVW, fC, fNil, sRet, fX, vLen, lenD]
theorem law_kind_nil : fn_law_is_kind [.d (.tup [])] = .ok (.d (.bl false), [.d (.tup [])]) := by
  have eT : ∀ δ, fN vTup fNil δ = .ok (.d (.tup []), δ) := fun _ => rfl
  simp [fn_law_is_kind, runF, g_law_is_kind, sSeq, sIf, fOrB, fNotB, fBv, fB, f2, fW, fCons, fVW, fC, fNil, sRet, fX, fV, fD, eT, EV.toD, eq_tnil]
/-- the first is no text -/
theorem kind_odd {x : D} {l : List D} (h : vIsi2 [x, .ty "str"] = some (.bl false)) : fn_is_kind [.d (.tup (x :: l))] = .ok (.d (.bl false), [.d (.tup (x :: l))]) := by
  have n4 : ¬ ((l.length : Int) + 1 = 0) := by omega
  simp [fn_is_kind, runF, g_is_kind, sSeq, sIf, fOrB, fNotB, fBv, fB, f2, fW, fCons, fVW, fC, fNil, sRet, fX, vLen, lenD, fV, fD, vIx, EV.toD, h, n4]
theorem law_kind_odd {x : D} {l : List D} (h : vIsi2 [x, .ty "str"] = some (.bl false)) : fn_law_is_kind [.d (.tup (x :: l))] = .ok (.d (.bl false), [.d (.tup (x :: l))]) := by
  have eT : ∀ δ, fN vTup fNil δ = .ok (.d (.tup []), δ) := fun _ => rfl
  simp [fn_law_is_kind, runF, g_law_is_kind, sSeq, sIf, fOrB, fNotB, fBv, fB, f2, fW, fCons, fVW, fC, fNil, sRet, fX, vLen, lenD, fV, fD, vIx, EV.toD, EV.sl, h, eT, eq_tnil, sPar, sNil]
theorem kind_one {l : List D} (hl : l.length ≤ 2000) (h : ∀ d ∈ l, Th d) : fn_is_kind [.d (.tup (.str "one" :: l))] = .ok (.d (.bl (oneB l)), [.d (.tup (.str "one" :: l))]) := by
  have n0 : Str.ofString "one" ≠ Str.ofString "number" := fun h => ne_no h.symm
  have n4 : ¬ ((l.length : Int) + 1 = 0) := by omega
  have hl2 : l.length ≤ 16000 := by omega
  by_cases h1 : l.length = 1
  · match l, h1, h with
    | [x], _, h =>
      have hx := h x (List.mem_cons_self ..)
      cases hx with
      | tup m h1 h2 => exact kind_one_tup h1 h2
      | _ => simp [fn_is_kind, runF, g_is_kind, sSeq, sIf, fOrB, fNotB, fBv, fB, f2, fW, fCons, fVW, fC, fNil, sRet, fX, vLen, lenD, EV.toD, sNil, fD, sStar, fV, vIx, n0, oneB]
  · have n1 : ¬ ((l.length : Int) = 1) := by omega
    have ob : oneB l = false := by
      unfold oneB
      split
      · simp at h1
      · rfl
    simp [fn_is_kind, runF, g_is_kind, sSeq, sIf, fOrB, fNotB, fBv, fB, f2, fW, fCons, fVW, fC, fNil, sRet, fX, vLen, lenD, EV.toD, sNil, fD, sStar, fV, vIx, hl2, n0, n1, n4, ob]
theorem law_one {l : List D} (hl : l.length ≤ 2000) (h : ∀ d ∈ l, Th d) : fn_law_is_kind [.d (.tup (.str "one" :: l))] = .ok (.d (.bl (oneB l)), [.d (.tup (.str "one" :: l))]) := by
  have n0 : Str.ofString "one" ≠ Str.ofString "number" := fun h => ne_no h.symm
  have eT : ∀ δ, fN vTup fNil δ = .ok (.d (.tup []), δ) := fun _ => rfl
  have q : vEq (.tup (.str (Str.ofString "one") :: l)) (.tup []) = some (.d (.bl false)) := rfl
  by_cases h1 : l.length = 1
  · match l, h1, h, q with
    | [x], _, h, q =>
      have hx := h x (List.mem_cons_self ..)
      cases hx with
      | tup m h1 h2 => exact law_one_tup h1 h2
      | _ => simp [fn_law_is_kind, runF, g_law_is_kind, sSeq, sIf, fOrB, fNotB, fBv, fB, f2, fW, fCons, fVW, fC, fNil, sRet, fX, vLen, lenD, EV.toD, EV.sl, sNil, fD, sPar, fV, fVF, vIx, n0, oneB, q, eT]
  · have n1 : ¬ ((l.length : Int) + 1 = 2) := by omega
    have ob : oneB l = false := by
      unfold oneB
      split
      · simp at h1
      · rfl
    simp [fn_law_is_kind, runF, g_law_is_kind, sSeq, sIf, fOrB, fNotB, fBv, fB, f2, fW, fCons, fVW, fC, fNil, sRet, fX, vLen, lenD, EV.toD, EV.sl, sNil, fD, sPar, fV, fVF, vIx, n0, n1, ob, q, eT]
def kindD : D → Bool
  | .tup (.str w :: l) => if w = Str.ofString "number" then numB l else if w = Str.ofString "one" then oneB l else if w = Str.ofString "text" then textB l else if w = Str.ofString "own" then ownB l else elseB w l
  | _ => false
theorem kinds_ok {t : D} (h : Top t) : fn_is_kind [.d t] = .ok (.d (.bl (kindD t)), [.d t]) ∧ fn_law_is_kind [.d t] = .ok (.d (.bl (kindD t)), [.d t]) := by
  rcases h with h | ⟨nm, l, rfl⟩
  rotate_left
  · exact ⟨kind_no (by simp), law_kind_no (by simp)⟩
  cases h with
  | tup l hl hd =>
    cases l with
    | nil => exact ⟨kind_nil, law_kind_nil⟩
    | cons x l =>
      have hl2 : l.length ≤ 2000 := by simp at hl; omega
      have hd2 : ∀ d ∈ l, Th d := fun d hd' => hd d (List.mem_cons_of_mem _ hd')
      have hx := hd x (List.mem_cons_self ..)
      cases hx with
      | str w hw =>
        have ek : kindD (.tup (.str w :: l)) = if w = Str.ofString "number" then numB l else if w = Str.ofString "one" then oneB l else if w = Str.ofString "text" then textB l else if w = Str.ofString "own" then ownB l else elseB w l := rfl
        rw [ek]
        by_cases h1 : w = Str.ofString "number"
        · subst h1; rw [if_pos rfl]; exact ⟨kind_num hl2 hd2, law_num hl2 hd2⟩
        · rw [if_neg h1]
          by_cases h2 : w = Str.ofString "one"
          · subst h2; rw [if_pos rfl]; exact ⟨kind_one hl2 hd2, law_one hl2 hd2⟩
          · rw [if_neg h2]
            by_cases h3 : w = Str.ofString "text"
            · subst h3; rw [if_pos rfl]; exact ⟨kind_text hl2 hd2, law_text hl2 hd2⟩
            · rw [if_neg h3]
              by_cases h4 : w = Str.ofString "own"
              · subst h4; rw [if_pos rfl]; exact ⟨kind_own hl2 hd2, law_own hl2 hd2⟩
              · rw [if_neg h4]; exact ⟨kind_else hl2 h1 h2 h3 h4, law_else hl2 h1 h2 h3 h4⟩
      | _ => exact ⟨kind_odd (by simp), law_kind_odd (by simp)⟩
  | _ => exact ⟨kind_no (by simp), law_kind_no (by simp)⟩
end FD
end
section
set_option Elab.async false
set_option linter.all false
set_option maxRecDepth 100000
set_option maxHeartbeats 2000000
namespace FD
open PySem L2

/-- a text that shows it -/
def Shows (t : D) : Prop := ∃ x : Str, vRepr [t] = some (.str x)
theorem show_bls (a b c d e : Bool) : Shows (.lst [.bl a, .bl b, .bl c, .bl d, .bl e]) := by
  have : ∀ a b c d e : Bool, okPy (.list [.bool a, .bool b, .bool c, .bool d, .bool e]) = true := by decide +kernel
  refine ⟨(PyData.list [.bool a, .bool b, .bool c, .bool d, .bool e]).shown, ?_⟩
  · show (some (PyData.list [.bool a, .bool b, .bool c, .bool d, .bool e])).bind (fun p => if okPy p = true then some (D.str p.shown) else none) = _
    rw [Option.bind_some, if_pos (this a b c d e)]
theorem show_bl (a : Bool) : Shows (.bl a) := by
  have : ∀ a : Bool, okPy (.bool a) = true := by decide +kernel
  refine ⟨(PyData.bool a).shown, ?_⟩
  · show (some (PyData.bool a)).bind (fun p => if okPy p = true then some (D.str p.shown) else none) = _
    rw [Option.bind_some, if_pos (this a)]
theorem right_ok {t : D} (h : Top t) (hs : Shows t) (lo hi : Int) : fn_law_right [.d t, .d (.int lo), .d (.int hi)] = .ok (.d (.bl true), [.d t, .d (.int lo), .d (.int hi)]) := by
  obtain ⟨x, ex⟩ := hs
  obtain ⟨y, ey⟩ := show_bls (nameD t) (letterD t) (wordD t) (kindD t) (wholeD lo hi t)
  obtain ⟨z, ez⟩ := show_bl (wholeD hi lo t)
  have c1 := fun (δ : Dv) (h0 : δ[0]? = some (.d t)) => call_data (fn := fn_law_is_name) (δ := δ) (x := t) (fa := fV 0) (by simp [fV, h0]) (law_name_ok h)
  have c2 := fun (δ : Dv) (h0 : δ[0]? = some (.d t)) => law_letter_ok h (δ := δ) h0
  have c3 := fun (δ : Dv) (h0 : δ[0]? = some (.d t)) => call_data (fn := fn_law_is_word) (δ := δ) (x := t) (fa := fV 0) (by simp [fV, h0]) (law_word_ok h)
  have c4 := fun (δ : Dv) (h0 : δ[0]? = some (.d t)) => call_data (fn := fn_law_is_kind) (δ := δ) (x := t) (fa := fV 0) (by simp [fV, h0]) (kinds_ok h).2
  have d1 := fun (δ : Dv) (h0 : δ[0]? = some (.d t)) => call_data (fn := fn_is_name) (δ := δ) (x := t) (fa := fV 0) (by simp [fV, h0]) (is_name_ok h)
  have d2 := fun (δ : Dv) (h0 : δ[0]? = some (.d t)) => call_data (fn := fn_is_letter) (δ := δ) (x := t) (fa := fV 0) (by simp [fV, h0]) (is_letter_ok h)
  have d3 := fun (δ : Dv) (h0 : δ[0]? = some (.d t)) => call_data (fn := fn_is_word) (δ := δ) (x := t) (fa := fV 0) (by simp [fV, h0]) (is_word_ok h)
  have d4 := fun (δ : Dv) (h0 : δ[0]? = some (.d t)) => call_data (fn := fn_is_kind) (δ := δ) (x := t) (fa := fV 0) (by simp [fV, h0]) (kinds_ok h).1
  have ww := fun (lo hi : Int) (δ : Dv) (fa fb fc : VF) (h0 : fa δ = .ok (t, δ)) (h1 : fb δ = .ok (.int lo, δ)) (h2 : fc δ = .ok (.int hi, δ)) => call_data3 (fn := fn_is_whole) (δ := δ) (fa := fa) (fb := fb) (fc := fc) h0 h1 h2 (is_whole_ok h lo hi)
  have w5 := fun (δ : Dv) (h0 : δ[0]? = some (.d t)) (h1 : δ[1]? = some (.d (.int lo))) (h2 : δ[2]? = some (.d (.int hi))) => ww lo hi δ (fV 0) (fV 1) (fV 2) (by simp [fV, h0]) (by simp [fV, h1]) (by simp [fV, h2])
  have w6 := fun (δ : Dv) (h0 : δ[0]? = some (.d t)) (h1 : δ[1]? = some (.d (.int lo))) (h2 : δ[2]? = some (.d (.int hi))) => ww hi lo δ (fV 0) (fV 2) (fV 1) (by simp [fV, h0]) (by simp [fV, h2]) (by simp [fV, h1])
  have w3 := w5
  have w4 := w6
  rw [← whole_eq] at w3 w4
  have rg : rngL 0 2 = [.int 0, .int 1] := rfl
  have ll : ¬ lim ≤ 4 := by decide
  simp [fn_law_right, runF, g_law_right, sSeq, sIf, sFor, forLo, ofG, gNm, fRng1, rg, fB, f2, fD, fX, fN, vLst, fCons, fVW, fNil, fC, fW, fMt, vAppend, sExpr, sSet, slOf, EV.sl, EV.toD, Ob.toD, c1, c2, c3, c4, d1, d2, d3, d4, w3, w4, w5, w6, ex, ey, sNil, sRet, lim_eq]
  simp [fAnd, fD, f2, fW, fCons, fVW, fNil, fVF, EV.toD, w4, w6, ex, ez]
end FD
end
section
set_option Elab.async false
set_option linter.all false
set_option maxRecDepth 100000
set_option maxHeartbeats 1000000
namespace FD
open PySem L2

/-! ### what it takes to show a thing -/
mutual
def wD : D → Nat
  | .str s => s.length
  | .int _ => 141
  | .tup l => wL l
  | .lst l => wL l
  | _ => 0
def wL : List D → Nat
  | [] => 0
  | d :: ds => wD d + 1 + wL ds
end
mutual
def depD : D → Nat
  | .tup l => depL l + 1
  | .lst l => depL l + 1
  | .dct _ => 1
  | _ => 0
def depL : List D → Nat
  | [] => 0
  | d :: ds => max (depD d) (depL ds)
end
theorem log2_small {i : Int} (h : i.natAbs < 1000000000000000000000000000000000000000000) : i.natAbs.log2 < 140 := by
  by_cases h0 : i.natAbs = 0
  · rw [h0]; decide
  · rw [Nat.log2_lt h0]
    exact Nat.lt_of_lt_of_le h (by decide)
def PyOk (t : D) (p : PyData) : Prop := toPyR t = some p ∧ p.showable = true ∧ p.leavesShort 45 = true ∧ p.weight ≤ wD t ∧ p.depth ≤ depD t
theorem py_all : ∀ l : List D, (∀ d ∈ l, ∃ p, PyOk d p) → ∃ ps, toPyRL l = some ps ∧ PyData.showableAll ps = true ∧ PyData.leavesShortAll 45 ps = true ∧ PyData.weightAll ps ≤ wL l ∧ PyData.depthAll ps ≤ depL l
  | [], _ => ⟨[], by simp [toPyRL], rfl, rfl, by simp [PyData.weightAll], by simp [PyData.depthAll]⟩
  | d :: l, h => by
    obtain ⟨p, h1, h2, h3, h4, h5⟩ := h d (List.mem_cons_self ..)
    obtain ⟨ps, g1, g2, g3, g4, g5⟩ := py_all l fun x hx => h x (List.mem_cons_of_mem _ hx)
    refine ⟨p :: ps, by simp [toPyRL, h1, g1], by simp [PyData.showableAll, h2, g2], by simp [PyData.leavesShortAll, h3, g3], ?_, ?_⟩
    · simp only [PyData.weightAll, wL]; omega
    · simp only [PyData.depthAll, depL]; omega
theorem Th.py {t : D} (h : Th t) : ∃ p, PyOk t p := by
  induction h with
  | non => exact ⟨.none, by simp [PyOk, toPyR, PyData.showable, PyData.leavesShort, PyData.weight, PyData.depth]⟩
  | bl b => exact ⟨.bool b, by simp [PyOk, toPyR, PyData.showable, PyData.leavesShort, PyData.weight, PyData.depth]⟩
  | int i hi =>
    have hl := log2_small hi
    refine ⟨.int i, by simp [toPyR], by simp [PyData.showable]; omega, ?_, ?_, by simp [PyData.depth]⟩
    · have h2 := int_text_length_le10 (a := i) (k := 42) (by omega) (Nat.lt_of_lt_of_le hi (by decide))
      have e : (PyData.shown (.int i)).length ≤ 45 := by
        simp only [PyData.shown]
        rw [ofString_length]
        omega
      simpa [PyData.leavesShort] using e
    · simp only [PyData.weight, wD]
      split <;> omega
  | str s hs hc =>
    refine ⟨.str s, by simp [toPyR], by simp [PyData.showable], ?_, by simp only [PyData.weight, wD]; exact Nat.le_refl _, by simp [PyData.depth]⟩
    simp only [PyData.leavesShort, List.all_eq_true, decide_eq_true_eq]
    exact fun c hc' => Nat.lt_of_lt_of_le (hc c hc') (by decide)
  | tup l hl hd ih =>
    obtain ⟨ps, g1, g2, g3, g4, g5⟩ := py_all l ih
    exact ⟨.tuple ps, by simp [toPyR, g1], by simpa [PyData.showable] using g2, by simpa [PyData.leavesShort] using g3, by simpa only [PyData.weight, wD] using g4, by simp only [PyData.depth, depD]; omega⟩
  | lst l hl hd ih =>
    obtain ⟨ps, g1, g2, g3, g4, g5⟩ := py_all l ih
    exact ⟨.list ps, by simp [toPyR, g1], by simpa [PyData.showable] using g2, by simpa [PyData.leavesShort] using g3, by simpa only [PyData.weight, wD] using g4, by simp only [PyData.depth, depD]; omega⟩
  | dct => exact ⟨.dict [], by simp [PyOk, toPyR, PyData.showable, PyData.showableKv, PyData.leavesShort, PyData.leavesShortKv, PyData.weight, PyData.weightKv, PyData.depth, PyData.depthKv, depD]⟩
theorem Th.shows {t : D} (h : Th t) (hw : wD t ≤ 2000) (hd : depD t ≤ 50) : Shows t := by
  obtain ⟨p, h1, h2, h3, h4, h5⟩ := h.py
  have hs := PyData.shown_le 45 (by omega) p h3
  have ok : okPy p = true := by
    have l1 : p.shown.length ≤ lim := by rw [lim_eq]; omega
    simp only [okPy, Bool.and_eq_true, decide_eq_true_eq]
    exact ⟨h2, l1, by omega⟩
  have e : vRepr [t] = (toPyR t).bind fun p => if okPy p = true then some (.str p.shown) else none := by
    cases h <;> rfl
  exact ⟨p.shown, by rw [e, h1, Option.bind_some, if_pos ok]⟩
end FD
end
section
set_option Elab.async false
set_option linter.all false
set_option maxRecDepth 100000
set_option maxHeartbeats 2000000
namespace FD
open PySem L2

theorem nokind_top : Top (.exc "NoKind" [.int 1]) := .inr ⟨_, _, rfl⟩
theorem nokind_shows : Shows (.exc "NoKind" [.int 1]) := by
  have c : (("NoKind" : Str) ++ "(" ++ toString (1 : Int) ++ ")").length ≤ lim ∧ ("NoKind" : Str).length ≤ 1000 ∧ (1 : Int).natAbs.log2 < 1920 := by
    refine ⟨?_, ?_, ?_⟩ <;> decide +kernel
  refine ⟨("NoKind" : Str) ++ "(" ++ toString (1 : Int) ++ ")", ?_⟩
  unfold vRepr
  exact if_pos c
theorem NameS.th {t : Str} (h : NameS t) : Th (.str t) := .str t (by have := h.2.1; omega) fun c hc => by have := h.2.2 c hc; unfold Letter at this; omega
def SgL : Str := Str.ofString " !#$&()*+,-./0123456789:;<=>?@AZ[]^_az{|}~'" ++ Str.ofString "\"" ++ Str.ofString "\\" ++ Str.ofString "`"
theorem sgl_len : SgL.length = 46 := by decide +kernel
theorem sgl_all : ∀ c ∈ cs SgL, c < 1000 := by decide +kernel
theorem word_ok {n : Nat} {s : Sl} (h : Box n s) (hn : n ≤ 900000) : ∃ t s', fn_law_word [s, .d (.int 40)] = .ok (.d (.str t), [s', .d (.int 40)]) ∧ t.length ≤ 40 ∧ (∀ c ∈ cs t, c < 1000) ∧ Box (n + 41) s' := by
  obtain ⟨r, s1, e1, r0, r1, b1⟩ := ctake (δ := [s, .d (.int 40), .d (.str SgL), .no]) (i := 0) (m := 41) (fa := fD (f2 vAdd (fV 1) (fC (.int 1)))) rfl h (by omega) rfl (by omega) (by omega)
  have hlen : (rngL 0 r.toNat).length = r.toNat := by simp [rngL]
  obtain ⟨zs, δ', e2, l2, z2, s2, bx, rfl⟩ := lc_inv (i := 3) (K := 40) (f := f2 vIx (fVF 2) (fD (fCall fn_law_take (aBor 0 (aCons (fW vLen (fCons (fVW 2) fNil)) aNil))))) (I := fun k δ => ∃ s', Box (n + 1 + k) s' ∧ δ = [s', .d (.int 40), .d (.str SgL), .no]) (Z := fun z => ∃ c, z = .str ⟨#[c]⟩ ∧ c < 1000)
    (fun k x δ hk ⟨s2, b2, e⟩ => by
      subst e
      obtain ⟨q, s3, e3, q0, q1, b3⟩ := ctake (δ := [s2, .d (.int 40), .d (.str SgL), .d x]) (i := 0) (m := 46) (fa := fW vLen (fCons (fVW 2) fNil)) rfl b2 (by omega) (by simp [fW, fCons, fVW, fNil, vLen, lenD, sgl_len, lim_eq]) (by omega) (by omega)
      obtain ⟨c, ec, hc⟩ := pick (L := SgL) (r := q) (by rw [sgl_len, lim_eq]; omega) q0 (by rw [sgl_len]; exact q1)
      refine ⟨.d (.str ⟨#[c]⟩), [s3, .d (.int 40), .d (.str SgL), .d x], by simp [f2, fVF, fD, e3, EV.toD, ec], ⟨c, rfl, sgl_all c hc⟩, s3, b3, rfl⟩)
    (rngL 0 r.toNat) [s1, .d (.int 40), .d (.str SgL), .no] 0 (by rw [hlen]; omega) ⟨s1, b1, rfl⟩
  obtain ⟨t, et, lt, ht⟩ := joined z2 (by rw [l2, hlen]; omega)
  refine ⟨t, s2, ?_, by rw [lt, l2, hlen]; omega, ht, bx.mono (by rw [hlen]; omega)⟩
  have rr : -4611686018427387904 ≤ r ∧ r < 4611686018427387904 := by omega
  have l3 : (rngL 0 r.toNat).length ≤ 100000 := by rw [hlen]; omega
  have esg : f2 vAdd (fD (f2 vAdd (fD (f2 vAdd (fC (.str " !#$&()*+,-./0123456789:;<=>?@AZ[]^_az{|}~'")) (fC (.str "\"")))) (fC (.str "\\")))) (fC (.str "`")) [s, .d (.int 40), .no, .no] = .ok (.d (.str SgL), [s, .d (.int 40), .no, .no]) := by
    have a1 : (Str.ofString " !#$&()*+,-./0123456789:;<=>?@AZ[]^_az{|}~'").length + (Str.ofString "\"").length ≤ lim := by decide +kernel
    have a2 : (Str.ofString " !#$&()*+,-./0123456789:;<=>?@AZ[]^_az{|}~'" ++ Str.ofString "\"").length + (Str.ofString "\\").length ≤ lim := by decide +kernel
    have a3 : (Str.ofString " !#$&()*+,-./0123456789:;<=>?@AZ[]^_az{|}~'" ++ Str.ofString "\"" ++ Str.ofString "\\").length + (Str.ofString "`").length ≤ lim := by decide +kernel
    simp [f2, fD, fC, vAdd, EV.toD, a1, a2, a3, SgL]
  simp [fn_law_word, runF, g_law_word, sSeq, sSet, sRet, fX, slOf, EV.sl, fM1, fD, fLc, fRng1, fCons, fNil, fC, EV.toD, esg, e1, rr, l3, wipeD, e2, backD, et, Ob.toD]
end FD
end
section
set_option Elab.async false
set_option linter.all false
set_option maxRecDepth 100000
set_option maxHeartbeats 2000000
namespace FD
open PySem L2

theorem cut_len {α : Type} (l : List α) (lo hi : Option Int) : (cutD l lo hi).length ≤ l.length := by
  unfold cutD
  rw [List.length_take, List.length_drop]
  omega
theorem cut_mem {α : Type} {l : List α} {lo hi : Option Int} {x : α} (h : x ∈ cutD l lo hi) : x ∈ l := List.mem_of_mem_drop (List.mem_of_mem_take h)
theorem cut_hi {α : Type} (l : List α) (k : Nat) : cutD l none (some (k : Int)) = l.take k := by
  unfold cutD
  rw [HT.sIx_none, HT.sIx_nat, Nat.sub_zero, List.drop_zero]
  by_cases h : k ≤ l.length
  · rw [Nat.min_eq_left h]
  · rw [Nat.min_eq_right (by omega), List.take_of_length_le (by omega), List.take_of_length_le (by omega)]
theorem cut_lo {α : Type} (l : List α) (k : Nat) : cutD l (some (k : Int)) none = l.drop k := by
  unfold cutD
  rw [HT.sIx_none, HT.sIx_nat]
  by_cases h : k ≤ l.length
  · rw [Nat.min_eq_left h, List.take_of_length_le (by rw [List.length_drop]; omega)]
  · rw [Nat.min_eq_right (by omega), Nat.sub_self, List.take_zero, List.drop_eq_nil_of_le (by omega)]
/-- a text cut -/
theorem sl_str {s : Str} (hs : s.length ≤ lim) (lo hi : Option Int) : ∃ t, vSl (.str s) lo hi = some (.d (.str t)) ∧ t.length ≤ s.length ∧ ∀ c ∈ cs t, c ∈ cs s := by
  refine ⟨⟨(cutD s.cps.toList lo hi).toArray⟩, by simp [vSl, hs], ?_, fun c hc => ?_⟩
  · rw [length_cs, length_cs, cs_mk]
    exact cut_len _ _ _
  · rw [cs_mk] at hc
    exact cut_mem hc
end FD
end
section
set_option Elab.async false
set_option linter.all false
set_option maxRecDepth 100000
set_option maxHeartbeats 2000000
namespace FD
open PySem L2

def Small (k : Nat) (d : D) : Prop := ∃ t : Str, d = .str t ∧ t.length ≤ k ∧ ∀ c ∈ cs t, c < 1000
theorem Small.th {k : Nat} {d : D} (h : Small k d) (hk : k ≤ 1000) : Th d := by
  obtain ⟨t, rfl, h1, h2⟩ := h
  exact .str t (by omega) h2
theorem Small.w {k : Nat} {d : D} (h : Small k d) : wD d ≤ k := by
  obtain ⟨t, rfl, h1, h2⟩ := h
  simpa only [wD] using h1
theorem wL_small {k : Nat} : ∀ {l : List D}, (∀ d ∈ l, Small k d) → wL l ≤ (k + 1) * l.length
  | [], _ => by simp [wL]
  | d :: l, h => by
    have h1 := (h d (List.mem_cons_self ..)).w
    have h2 := wL_small fun x hx => h x (List.mem_cons_of_mem _ hx)
    simp only [wL, List.length_cons, Nat.mul_add, Nat.mul_one]
    omega
theorem depL_small {k : Nat} : ∀ {l : List D}, (∀ d ∈ l, Small k d) → depL l = 0
  | [], _ => by simp [depL]
  | d :: l, h => by
    obtain ⟨t, rfl, _⟩ := h d (List.mem_cons_self ..)
    have h2 := depL_small fun x hx => h x (List.mem_cons_of_mem _ hx)
    simp [depL, depD, h2]
end FD
end
section
set_option Elab.async false
set_option linter.all false
set_option maxRecDepth 100000
set_option maxHeartbeats 2000000
namespace FD
open PySem L2

theorem cname {δ : Dv} {i n : Nat} {s : Sl} (hi : δ[i]? = some s) (h : Box n s) (hn : n ≤ 900000) : ∃ t s', fCall fn_law_name (aBor i aNil) δ = .ok (.d (.str t), δ.set i s') ∧ NameS t ∧ Box (n + 9) s' := by
  obtain ⟨t, s', e, h1, h2⟩ := name_ok h hn
  obtain ⟨o, ho⟩ := h.own
  obtain ⟨o', ho'⟩ := h2.own
  exact ⟨t, s', call_lent1 hi ho ho' e, h1, h2⟩
/-- a comprehension over numbers, nothing else touched, each value small -/
theorem fLc_small {it : LF} {i : Nat} {f : XF} {δ : Dv} {l : List D} {Z : D → Prop} (hit : it δ = .ok (l, δ)) (hl : l.length ≤ 100000) (hi : δ[i]? = some .no)
    (hx : ∀ x ∈ l, ∃ z, f (δ.set i (.d x)) = .ok (z, δ.set i (.d x)) ∧ Z z.toD) : ∃ zs, fLc it (gNm i) fYes f [i] δ = .ok (.own (.lst zs), δ) ∧ zs.length = l.length ∧ ∀ z ∈ zs, Z z := by
  have h0 := set_no hi
  have w : wipeD δ [i] = δ := h0
  have lo : ∀ l : List D, (∀ x ∈ l, ∃ z, f (δ.set i (.d x)) = .ok (z, δ.set i (.d x)) ∧ Z z.toD) → ∃ zs, lcLo (gNm i) fYes f [i] l δ = .ok (zs, δ) ∧ zs.length = l.length ∧ ∀ z ∈ zs, Z z := fun l => by
    induction l with
    | nil => exact fun _ => ⟨[], rfl, rfl, by simp⟩
    | cons x l ih =>
      intro h
      obtain ⟨z, e1, hz⟩ := h x (List.mem_cons_self ..)
      obtain ⟨zs, e2, hl, hzs⟩ := ih fun y hy => h y (List.mem_cons_of_mem _ hy)
      have w2 : wipeD (δ.set i (.d x)) [i] = δ := by
        show (δ.set i (.d x)).set i .no = δ
        rw [List.set_set]; exact h0
      refine ⟨z.toD :: zs, by simp [lcLo, gNm, fYes, e1, w2, e2], by simp [hl], fun y hy => ?_⟩
      rcases List.mem_cons.mp hy with rfl | hy
      · exact hz
      · exact hzs y hy
  obtain ⟨zs, e, h1, h2⟩ := lo l hx
  refine ⟨zs, ?_, h1, h2⟩
  simp only [fLc, hit, Rs.bind_ok, hl, if_true, w, e]
  have b : backD [i] δ δ = δ := by
    show δ.set i _ = δ
    rw [hi]
    exact h0
  rw [b]
end FD
end
section
set_option Elab.async false
set_option linter.all false
set_option maxRecDepth 100000
set_option maxHeartbeats 4000000
namespace FD
open PySem L2

theorem mem_rng {x : D} {n : Nat} (h : x ∈ rngL 0 n) : ∃ k : Nat, k < n ∧ x = .int k := by
  obtain ⟨k, h1, h2⟩ := List.mem_map.mp h
  exact ⟨k, List.mem_range.mp h1, by rw [← h2]; simp⟩
theorem len_rng (n : Nat) : (rngL 0 n).length = n := by simp [rngL]
theorem abc_small : ∀ c ∈ cs Abc, c < 1000 := fun c hc => by have := abc_all c hc; unfold Letter at this; omega
theorem vMul_i {i j : Int} (h : (-b64 < i ∧ i < b64) ∨ (-b64 < j ∧ j < b64)) : vMul (.int i) (.int j) = some (.d (.int (i * j))) := by simp only [vMul]; rw [if_pos h]
theorem vMod_i {i j : Int} (h : 0 < j) : vMod (.int i) (.int j) = some (.d (.int (i % j))) := by simp only [vMod]; rw [if_pos h]
theorem vDiv_i {i j : Int} (h : 0 < j) (h2 : j < 1000000000000000000000000000000000000000) : vDiv (.int i) (.int j) = some (.d (.int (i / j))) := by simp only [vDiv]; rw [if_pos ⟨h, h2⟩]
theorem vAdd_s {a b : Str} (h : a.length + b.length ≤ lim) : vAdd (.str a) (.str b) = some (.d (.str (a ++ b))) := by simp only [vAdd]; rw [if_pos h]
theorem vAdd_i {i j : Int} : vAdd (.int i) (.int j) = some (.d (.int (i + j))) := rfl
theorem vAdd_l {a b : List D} (h : a.length + b.length ≤ lim) : vAdd (.lst a) (.lst b) = some (.own (.lst (a ++ b))) := by simp only [vAdd]; rw [if_pos h]
theorem vAdd_t {a b : List D} (h : a.length + b.length ≤ lim) : vAdd (.tup a) (.tup b) = some (.d (.tup (a ++ b))) := by simp only [vAdd]; rw [if_pos h]
/-- the first way: stem and a letter -/
theorem names_a {stem : Str} (hs : stem.length ≤ 8) (hc : ∀ c ∈ cs stem, c < 1000) {s t6 : Sl} {m fi : Int} (hm : 0 ≤ m) (hm8 : m ≤ 8) (hf : 0 ≤ fi) (hf2 : fi < 26) {w : D} :
    ∃ zs, fLc (fRng1 (fCons (fV 1) fNil)) (gNm 7) fYes (f2 vAdd (fVF 5) (fD (f2 vIx (fVF 2) (fD (f2 vMod (fD (f2 vAdd (fVF 3) (fD (f2 vMul (fC (.int 3)) (fV 7))))) (fC (.int 26))))))) [7] [s, .d (.int m), .d (.str Abc), .d (.int fi), .no, .d (.str stem), t6, .no] = .ok (.own (.lst zs), [s, .d (.int m), .d (.str Abc), .d (.int fi), .no, .d (.str stem), t6, .no]) ∧ zs.length ≤ 8 ∧ ∀ z ∈ zs, Small 40 z := by
  have rr : -4611686018427387904 ≤ m ∧ m < 4611686018427387904 := by omega
  obtain ⟨zs, e, h1, h2⟩ := fLc_small (it := fRng1 (fCons (fV 1) fNil)) (i := 7) (f := f2 vAdd (fVF 5) (fD (f2 vIx (fVF 2) (fD (f2 vMod (fD (f2 vAdd (fVF 3) (fD (f2 vMul (fC (.int 3)) (fV 7))))) (fC (.int 26))))))) (δ := [s, .d (.int m), .d (.str Abc), .d (.int fi), .no, .d (.str stem), t6, .no]) (l := rngL 0 m.toNat) (Z := Small 40) (by simp [fRng1, fCons, fV, fNil, rr]) (by rw [len_rng]; omega) rfl (fun x hx => by
    obtain ⟨k, hk, rfl⟩ := mem_rng hx
    obtain ⟨c, ec, hcc⟩ := pick (L := Abc) (r := (fi + 3 * (k : Int)) % 26) (by rw [abc_len, lim_eq]; omega) (Int.emod_nonneg _ (by omega)) (by rw [abc_len]; exact Int.emod_lt_of_pos _ (by omega))
    have b3 : -b64 < (3 : Int) ∧ (3 : Int) < b64 := by unfold b64; omega
    have fit : stem.length + (⟨#[c]⟩ : Str).length ≤ lim := by rw [lim_eq]; show stem.length + 1 ≤ _; omega
    refine ⟨.d (.str (stem ++ ⟨#[c]⟩)), ?_, _, rfl, ?_, ?_⟩
    · have ea : vAdd (.str stem) (.str ⟨#[c]⟩) = some (.d (.str (stem ++ ⟨#[c]⟩))) := vAdd_s fit
      have em : vMul (.int 3) (.int (k : Int)) = some (.d (.int (3 * (k : Int)))) := vMul_i (.inl b3)
      have es : vAdd (.int fi) (.int (3 * (k : Int))) = some (.d (.int (fi + 3 * (k : Int)))) := rfl
      have eo : vMod (.int (fi + 3 * (k : Int))) (.int 26) = some (.d (.int ((fi + 3 * (k : Int)) % 26))) := vMod_i (by decide)
      simp [f2, fVF, fD, fC, fV, EV.toD, em, es, eo, ec, ea]
    · rw [length_cs, cs_append, List.length_append, ← length_cs]; show stem.length + 1 ≤ 40; omega
    · intro d hd
      rw [cs_append, List.mem_append] at hd
      rcases hd with hd | hd
      · exact hc d hd
      · rw [sg_ext, List.mem_singleton] at hd; rw [hd]; exact abc_small c hcc)
  exact ⟨zs, e, by rw [h1, len_rng]; omega, h2⟩
end FD
end
section
set_option Elab.async false
set_option linter.all false
set_option maxRecDepth 100000
set_option maxHeartbeats 2000000
namespace FD
open PySem L2

theorem Bok.bx {n : Nat} {q : Bo} (h : Bok n q) : Box n (FD.bx q) := ⟨q.a, q.b, q.c, rfl, h.1, h.2.1, h.2.2.1, h.2.2.2.1, h.2.2.2.2⟩
theorem Box.bo {n : Nat} {s : Sl} (h : Box n s) : ∃ q, s = FD.bx q ∧ Bok n q := by
  obtain ⟨a, b, c, rfl, h1, h2, h3, h4, h5⟩ := h
  exact ⟨⟨a, b, c⟩, rfl, h1, h2, h3, h4, h5⟩
theorem s_take {n : Nat} {q : Bo} {m : Int} {Q : EV → Dv → Prop} {E : EC} (h : Bok n q) (hn : n ≤ 1000000) (hm : 0 < m) (hm2 : m < 1000000000000000000000000000000000000000) (k : ∀ r q', 0 ≤ r → r < m → Bok (n + 1) q' → Q (.d (.int r)) [bx q', .d (.int m)]) : W (fn_law_take [bx q, .d (.int m)]) Q E := by
  obtain ⟨r, s', e, h0, h1, h2⟩ := take_ok h.bx hn hm hm2
  obtain ⟨q', rfl, h3⟩ := h2.bo
  rw [e]
  exact k r q' h0 h1 h3
theorem s_take2 {n : Nat} {q : Bo} {m : Int} {Q : EV → Dv → Prop} {E : EC} (h : Bok n q) (hn : n ≤ 1000000) (hm : 0 < m) (hm2 : m < 1000000000000000000000000000000000000000) (k : ∀ r q', 0 ≤ r → r < m → Bok (n + 1) q' → Q (.d (.int r)) [bx q', .d (.int m)]) : W (fn_law_take_two [bx q, .d (.int m)]) Q E := by
  obtain ⟨r, s', e, h0, h1, h2⟩ := take_two_ok h.bx hn hm hm2
  obtain ⟨q', rfl, h3⟩ := h2.bo
  rw [e]
  exact k r q' h0 h1 h3
theorem s_name {n : Nat} {q : Bo} {Q : EV → Dv → Prop} {E : EC} (h : Bok n q) (hn : n ≤ 900000) (k : ∀ t q', NameS t → Bok (n + 9) q' → Q (.d (.str t)) [bx q']) : W (fn_law_name [bx q]) Q E := by
  obtain ⟨t, s', e, h1, h2⟩ := name_ok h.bx hn
  obtain ⟨q', rfl, h3⟩ := h2.bo
  rw [e]
  exact k t q' h1 h3
theorem cutS_len (a : Str) (lo hi : Option Int) : (cutS a lo hi).length ≤ a.length := by
  rw [length_cs, length_cs]; unfold cutS; rw [cs_mk]; exact cut_len _ _ _
theorem cutS_mem {a : Str} {lo hi : Option Int} {c : Nat} (h : c ∈ cs (cutS a lo hi)) : c ∈ cs a := by
  unfold cutS at h; rw [cs_mk] at h; exact cut_mem h
theorem len_app (a b : Str) : (a ++ b).length = a.length + b.length := by
  rw [length_cs, cs_append, List.length_append, ← length_cs, ← length_cs]
theorem len_one (c : Nat) : (⟨#[c]⟩ : Str).length = 1 := rfl
theorem small_app {a b : Str} {n m : Nat} (ha : Small n (.str a)) (hb : Small m (.str b)) : Small (n + m) (.str (a ++ b)) := by
  obtain ⟨_, e, h1, h2⟩ := ha
  cases e
  obtain ⟨_, e, h3, h4⟩ := hb
  cases e
  refine ⟨_, rfl, by rw [len_app]; omega, fun c hc => ?_⟩
  rw [cs_append, List.mem_append] at hc
  exact hc.elim (h2 c) (h4 c)
theorem small_cut {a : Str} {n : Nat} (lo hi : Option Int) (ha : Small n (.str a)) : Small n (.str (cutS a lo hi)) := by
  obtain ⟨_, e, h1, h2⟩ := ha
  cases e
  exact ⟨_, rfl, Nat.le_trans (cutS_len _ _ _) h1, fun c hc => h2 c (cutS_mem hc)⟩
theorem small_one {c : Nat} (h : c < 1000) : Small 1 (.str ⟨#[c]⟩) := ⟨_, rfl, Nat.le_refl _, fun d hd => by rw [sg_ext, List.mem_singleton] at hd; rw [hd]; exact h⟩
theorem Small.mono {n m : Nat} {d : D} (h : Small n d) (k : n ≤ m) : Small m d := by
  obtain ⟨t, e, h1, h2⟩ := h
  exact ⟨t, e, by omega, h2⟩
theorem NameS.small {t : Str} (h : NameS t) : Small 8 (.str t) := ⟨_, rfl, h.2.1, fun c hc => by have := h.2.2 c hc; unfold Letter at this; omega⟩
theorem Small.len {n : Nat} {t : Str} (h : Small n (.str t)) : t.length ≤ n := by
  obtain ⟨_, e, h1, _⟩ := h
  cases e; exact h1
local macro_rules | `(tactic| walk_at "ev") => `(tactic| simp only [W_ok, W_no, WS_ok, WS_no, VQ_some, LV_d, LF_d, LF_o, LW_d, LW_o, W_fC, W_fV, W_fVF, W_fVW, toD_l, toD_c, eD_d, eD_o, sl_d, sl_o, W_fD, R_KD, W_fX, R_KX, W_f1, R_K1, W_f2, R_K2, R_K2b, W_fN, R_KN, W_fW, R_KW, W_fNil, W_fCons, R_KC, R_KCb, W_fB, R_KB, W_fBv, R_KBv, W_fNotB, R_KNB, W_fAndB, R_KABt, R_KABf, W_fOrB, R_KOBt, R_KOBf, W_fAnd, R_KAt, R_KAf, W_fOr, R_KOt, R_KOf, W_fIf, R_KIt, R_KIf, W_fIsN, R_KIN, W_fNotN, R_KNN, W_fChain, R_KH1, R_KH2, R_KH3t, R_KH3f, W_fM1, R_KM1, R_KM1b, W_fIxN, R_IxAd, R_IxAo, R_KIx, R_IxBo, R_IxBd, W_fMt, R_MtA, R_KMt, R_MtB, R_MtC, W_fSl, R_KSl1, R_KSl2, R_KSl3, W_oNone, W_oSome, R_KOs, W_fItems, R_KItl, R_KIts, W_fItemsT, R_KItT, W_fSigns, R_KSg, W_fRng1, R_KR1, W_aNil, W_aCons, R_KAc, R_KAb, R_KAi, W_aBor, R_ABd, R_ABo, W_fCall, R_KCl, R_KP, R_pb0, R_pbd, R_pbb, keep_o, keep_d, R_asd, R_asb, R_bi0, R_bid, R_bib, R_RPr, R_RPn, WS_nil, WS_seq, R_SQn, R_SQr, R_SQb, R_SQc, WS_set, R_KS, WS_ret, R_KRt, WS_expr, R_KEx, WS_if, R_SIt, R_SIf, WS_for, WS_par, R_KPar, R_KPa, WS_asg, R_KAs, AsQ_some, R_gNm, R_gTp, R_gS0, R_gS1, WS_rz, R_KRz, WS_star, R_KSt, WS_setIx, R_KSx, R_SxA, R_KSx2, R_SxB, WS_try, R_TyE, R_LPn, R_LPc, R_LPb, R_LPr, W_fLcE, R_KLbt, R_KLbf, R_KLt, W_fYes, q_bxA, q_bxK, q_addI, q_addS, q_addL, q_addT, q_subI, q_mulI, q_mulS, q_mulL, q_mod, q_div, q_pow, q_neg, q_not, q_lt, q_le, q_gt, q_ge, q_eqI, q_neI, q_eqS, q_neS, q_eqB, q_neB, q_eqTn, q_eqLn, q_inSg, q_ninSg, q_ixL, q_ixT, q_ixR, q_ixS, R_KCh, q_at0, q_at1, q_at2, q_lenS, q_lenT, q_lenL, q_lenR, q_max2, q_min2, q_min2E, q_max2E, q_abs, q_intI, q_intB, q_strS, q_ordc, q_tup, q_lst, q_listT, q_listL, q_tupT, q_tupL, q_slS, q_slL, q_slR, q_slT, q_revT, q_dct0, q_mkv, q_app', W_isT2, isN_n, isN_b, isN_i, isN_s, isN_t, isN_l, sets_nil, sets_cons, W_fFld, R_LFl, R_lk, R_hush, R_hush0, R_hushd, R_husho, R_hushn, R_hushb, R_finr, R_finn, R_finb, R_finc, Nat.reduceLT, Nat.reduceSub, Nat.reduceAdd, Nat.reduceLeDiff, Nat.reduceMul, if_true, if_false, List.map_cons, List.map_nil, List.length_cons, List.length_nil, List.getElem?_cons_zero, List.getElem?_cons_succ, List.set_cons_zero, List.set_cons_succ, Option.getD_some, List.nodup_cons, List.nodup_nil, List.not_mem_nil, List.mem_cons, List.mem_singleton, not_false_eq_true, true_and, and_true, and_self, Bool.not_true, Bool.not_false, decide_true, decide_false, List.take_succ_cons, List.take_zero, List.cons_append, List.nil_append, List.replicate_succ, List.replicate_zero, slOf, wipeD, backD, List.foldr_cons, List.foldr_nil, eq_self_iff_true, or_false, false_or, ite_true, ite_false, reduceIte, Int.reduceNeg, Int.reduceLT, Int.reduceLE, Int.reduceAdd, Int.reduceSub, Int.reduceMul, reduceCtorEq, not_true_eq_false, Nat.lt_irrefl, Nat.not_lt_zero, Nat.le_refl, List.getElem?_nil, Int.reduceToNat, true_or, or_true, List.isEmpty_nil, List.isEmpty_cons, Int.toNat_natCast, lim_eq])
local macro_rules | `(tactic| wp_walk using $[$ts:term],*) => `(tactic| simp only [W_ok, W_no, WS_ok, WS_no, VQ_some, LV_d, LF_d, LF_o, LW_d, LW_o, W_fC, W_fV, W_fVF, W_fVW, toD_l, toD_c, eD_d, eD_o, sl_d, sl_o, W_fD, R_KD, W_fX, R_KX, W_f1, R_K1, W_f2, R_K2, R_K2b, W_fN, R_KN, W_fW, R_KW, W_fNil, W_fCons, R_KC, R_KCb, W_fB, R_KB, W_fBv, R_KBv, W_fNotB, R_KNB, W_fAndB, R_KABt, R_KABf, W_fOrB, R_KOBt, R_KOBf, W_fAnd, R_KAt, R_KAf, W_fOr, R_KOt, R_KOf, W_fIf, R_KIt, R_KIf, W_fIsN, R_KIN, W_fNotN, R_KNN, W_fChain, R_KH1, R_KH2, R_KH3t, R_KH3f, W_fM1, R_KM1, R_KM1b, W_fIxN, R_IxAd, R_IxAo, R_KIx, R_IxBo, R_IxBd, W_fMt, R_MtA, R_KMt, R_MtB, R_MtC, W_fSl, R_KSl1, R_KSl2, R_KSl3, W_oNone, W_oSome, R_KOs, W_fItems, R_KItl, R_KIts, W_fItemsT, R_KItT, W_fSigns, R_KSg, W_fRng1, R_KR1, W_aNil, W_aCons, R_KAc, R_KAb, R_KAi, W_aBor, R_ABd, R_ABo, W_fCall, R_KCl, R_KP, R_pb0, R_pbd, R_pbb, keep_o, keep_d, R_asd, R_asb, R_bi0, R_bid, R_bib, R_RPr, R_RPn, WS_nil, WS_seq, R_SQn, R_SQr, R_SQb, R_SQc, WS_set, R_KS, WS_ret, R_KRt, WS_expr, R_KEx, WS_if, R_SIt, R_SIf, WS_for, WS_par, R_KPar, R_KPa, WS_asg, R_KAs, AsQ_some, R_gNm, R_gTp, R_gS0, R_gS1, WS_rz, R_KRz, WS_star, R_KSt, WS_setIx, R_KSx, R_SxA, R_KSx2, R_SxB, WS_try, R_TyE, R_LPn, R_LPc, R_LPb, R_LPr, W_fLcE, R_KLbt, R_KLbf, R_KLt, W_fYes, q_bxA, q_bxK, q_addI, q_addS, q_addL, q_addT, q_subI, q_mulI, q_mulS, q_mulL, q_mod, q_div, q_pow, q_neg, q_not, q_lt, q_le, q_gt, q_ge, q_eqI, q_neI, q_eqS, q_neS, q_eqB, q_neB, q_eqTn, q_eqLn, q_inSg, q_ninSg, q_ixL, q_ixT, q_ixR, q_ixS, R_KCh, q_at0, q_at1, q_at2, q_lenS, q_lenT, q_lenL, q_lenR, q_max2, q_min2, q_min2E, q_max2E, q_abs, q_intI, q_intB, q_strS, q_ordc, q_tup, q_lst, q_listT, q_listL, q_tupT, q_tupL, q_slS, q_slL, q_slR, q_slT, q_revT, q_dct0, q_mkv, q_app', W_isT2, isN_n, isN_b, isN_i, isN_s, isN_t, isN_l, sets_nil, sets_cons, W_fFld, R_LFl, R_lk, R_hush, R_hush0, R_hushd, R_husho, R_hushn, R_hushb, R_finr, R_finn, R_finb, R_finc, Nat.reduceLT, Nat.reduceSub, Nat.reduceAdd, Nat.reduceLeDiff, Nat.reduceMul, if_true, if_false, List.map_cons, List.map_nil, List.length_cons, List.length_nil, List.getElem?_cons_zero, List.getElem?_cons_succ, List.set_cons_zero, List.set_cons_succ, Option.getD_some, List.nodup_cons, List.nodup_nil, List.not_mem_nil, List.mem_cons, List.mem_singleton, not_false_eq_true, true_and, and_true, and_self, Bool.not_true, Bool.not_false, decide_true, decide_false, List.take_succ_cons, List.take_zero, List.cons_append, List.nil_append, List.replicate_succ, List.replicate_zero, slOf, wipeD, backD, List.foldr_cons, List.foldr_nil, eq_self_iff_true, or_false, false_or, ite_true, ite_false, reduceIte, Int.reduceNeg, Int.reduceLT, Int.reduceLE, Int.reduceAdd, Int.reduceSub, Int.reduceMul, reduceCtorEq, not_true_eq_false, Nat.lt_irrefl, Nat.not_lt_zero, Nat.le_refl, List.getElem?_nil, Int.reduceToNat, true_or, or_true, List.isEmpty_nil, List.isEmpty_cons, Int.toNat_natCast, lim_eq, $[$ts:term],*])
local macro_rules | `(tactic| walk_at "sd") => `(tactic| first | omega | (simp only [len_app, len_one, abc_len, len_rng, Int.reduceToNat, List.length_append, List.length_cons, List.length_nil, List.length_replicate]; omega) | decide +kernel)
local macro_rules | `(tactic| walk_at "go") => `(tactic| ((try walk_at "ev"); repeat (with_reducible refine And.intro (by walk_at "sd") ?_; try walk_at "ev")))
theorem Small.upto {n m : Nat} {t : Str} (h : Small n (.str t)) (k : t.length ≤ m) : Small m (.str t) := by
  obtain ⟨_, e, h1, h2⟩ := h
  cases e
  exact ⟨_, rfl, k, h2⟩
theorem cutS_hi (a : Str) (k : Nat) : (cutS a none (some (k : Int))).length ≤ k := by
  rw [length_cs]; unfold cutS; rw [cs_mk, cut_hi, List.length_take]; omega
theorem abc_cps : Abc.cps.toList = cs Abc := rfl
theorem s_names {n : Nat} {q : Bo} {m : Int} {Q : EV → Dv → Prop} {E : EC} (h : Bok n q) (hn : n ≤ 900000) (hm : 0 ≤ m) (hm2 : m ≤ 8) (k : ∀ zs q', zs.length ≤ 8 → (∀ z ∈ zs, Small 9 z) → Bok (n + 20) q' → Q (.d (.lst zs)) [bx q', .d (.int m)]) : W (fn_law_names [bx q, .d (.int m)]) Q E := by
  unfold fn_law_names g_law_names
  rw [W_run]
  walk_at "ev"
  refine s_name h hn fun t q1 ht h1 => ?_
  have := ht.2.1
  walk_at "go"
  refine s_take h1 (by omega) (by omega) (by omega) fun way q2 w0 w1 h2 => ?_
  walk_at "go"
  refine s_take h2 (by omega) (by omega) (by omega) fun fi q3 f0 f1 h3 => ?_
  walk_at "go"
  have hst : Small 8 (.str (cutS t none (some 6))) := small_cut _ _ ht.small
  generalize cutS t none (some 6) = stem at hst ⊢
  have hsl := hst.len
  have e0 : (Str.ofString "abcdefghijklmnopqrstuvwxyz") = Abc := rfl
  rw [e0]
  have al := abc_len
  refine KLc_each (Small 9) (by rw [len_rng]; omega) rfl (fun x hx => ?_) fun zs hl hz => ?_
  · obtain ⟨k, hk, rfl⟩ := mem_rng hx
    walk_at "go"
    refine at_any (Int.emod_nonneg _ (by omega)) (by rw [abc_cps, ← length_cs, al]; exact Int.emod_lt_of_pos _ (by omega)) fun c hc _ => ?_
    walk_at "go"
    exact (small_app hst (small_one (abc_small c hc))).mono (by omega)
  · walk_at "go"
    rw [len_rng] at hl
    refine SI_by (fun hb => ?_) fun hb => ?_
    · walk_at "go"
      refine KLc_each (Small 9) (by rw [len_rng]; omega) rfl (fun x hx => ?_) fun zs hl hz => ?_
      · obtain ⟨k, hk, rfl⟩ := mem_rng hx
        walk_at "go"
        have hsa : Small 26 (.str Abc) := ⟨_, rfl, by omega, abc_small⟩
        have hc := small_cut none (some (1 + (k : Int))) (small_app hst hsa)
        refine hc.upto ?_
        rw [show (1 + (k : Int)) = ((1 + k : Nat) : Int) by omega]
        exact Nat.le_trans (cutS_hi _ _) (by have : (8 : Int).toNat = 8 := rfl; omega)
      · walk_at "go"
        refine k _ _ (Nat.le_trans (cut_len _ _ _) (by rw [hl, len_rng]; omega)) (fun z hz' => hz z (cut_mem hz')) (h3.mono (by omega))
    · walk_at "go"
      exact k _ _ (by omega) hz (h3.mono (by omega))
end FD
end
section
set_option Elab.async false
set_option linter.all false
set_option maxRecDepth 100000
set_option maxHeartbeats 2000000
namespace FD
open PySem L2
/-- things by weight and depth -/
def G (w dp : Nat) (d : D) : Prop := Th d ∧ wD d ≤ w ∧ depD d ≤ dp
def GL (w dp : Nat) (l : List D) : Prop := l.length ≤ 2000 ∧ (∀ d ∈ l, Th d) ∧ wL l ≤ w ∧ depL l ≤ dp
theorem G.mono {w v p q : Nat} {d : D} (h : G w p d) (k : w ≤ v) (k2 : p ≤ q) : G v q d := ⟨h.1, Nat.le_trans h.2.1 k, Nat.le_trans h.2.2 k2⟩
theorem g_int {p : Nat} {i : Int} (h : i.natAbs < 1000000000000000000000000000000000000000000) : G 141 p (.int i) := ⟨.int i h, by simp [wD], by simp [depD]⟩
theorem g_small {n p : Nat} {d : D} (h : Small n d) (hn : n ≤ 1000) : G n p d := by
  refine ⟨h.th hn, h.w, ?_⟩
  obtain ⟨t, rfl, _⟩ := h
  simp [depD]
theorem g_bl {p : Nat} {b : Bool} : G 0 p (.bl b) := ⟨.bl b, by simp [wD], by simp [depD]⟩
theorem g_non {p : Nat} : G 0 p .non := ⟨.non, by simp [wD], by simp [depD]⟩
theorem g_dct {p : Nat} : G 0 (p + 1) (.dct []) := ⟨.dct, by simp [wD], by simp [depD]⟩
theorem g_tup {w p : Nat} {l : List D} (h : GL w p l) : G w (p + 1) (.tup l) := ⟨.tup l h.1 h.2.1, by simp [wD, h.2.2.1], by simp [depD, h.2.2.2]⟩
theorem g_lst {w p : Nat} {l : List D} (h : GL w p l) : G w (p + 1) (.lst l) := ⟨.lst l h.1 h.2.1, by simp [wD, h.2.2.1], by simp [depD, h.2.2.2]⟩
theorem gl_nil {p : Nat} : GL 0 p [] := ⟨by simp, by simp, by simp [wL], by simp [depL]⟩
theorem gl_cons {w v p : Nat} {d : D} {l : List D} (h : G w p d) (k : GL v p l) (hl : l.length < 2000) : GL (w + 1 + v) p (d :: l) := by
  refine ⟨by simp; omega, fun x hx => ?_, ?_, ?_⟩
  · rcases List.mem_cons.mp hx with rfl | hx
    · exact h.1
    · exact k.2.1 x hx
  · simp only [wL]; have := h.2.1; have := k.2.2.1; omega
  · simp only [depL]; have := h.2.2; have := k.2.2.2; omega
theorem GL.mono {w v p q : Nat} {l : List D} (h : GL w p l) (k : w ≤ v) (k2 : p ≤ q) : GL v q l := ⟨h.1, h.2.1, Nat.le_trans h.2.2.1 k, Nat.le_trans h.2.2.2 k2⟩
theorem wL_app : ∀ (a b : List D), wL (a ++ b) = wL a + wL b
  | [], b => by simp [wL]
  | d :: a, b => by simp only [List.cons_append, wL, wL_app a b]; omega
theorem depL_app : ∀ (a b : List D), depL (a ++ b) = max (depL a) (depL b)
  | [], b => by simp [depL]
  | d :: a, b => by simp only [List.cons_append, depL, depL_app a b]; omega
theorem gl_app {w v p : Nat} {a b : List D} (h : GL w p a) (k : GL v p b) (hl : a.length + b.length ≤ 2000) : GL (w + v) p (a ++ b) :=
  ⟨by rw [List.length_append]; exact hl, fun x hx => (List.mem_append.mp hx).elim (h.2.1 x) (k.2.1 x), by rw [wL_app]; have := h.2.2.1; have := k.2.2.1; omega, by rw [depL_app]; have := h.2.2.2; have := k.2.2.2; omega⟩
theorem gl_all {w p : Nat} : ∀ {l : List D}, (∀ d ∈ l, G w p d) → l.length ≤ 2000 → GL ((w + 1) * l.length) p l
  | [], _, _ => by simpa using gl_nil
  | d :: l, h, hl => by
    rw [List.length_cons] at hl
    have := gl_cons (h d (List.mem_cons_self ..)) (gl_all (l := l) (fun x hx => h x (List.mem_cons_of_mem _ hx)) (by omega)) (by omega)
    refine this.mono ?_ (Nat.le_refl _)
    rw [List.length_cons, Nat.mul_succ]; omega
theorem gl_mem {w p : Nat} {l : List D} {d : D} (h : GL w p l) (hd : d ∈ l) : G w p d := by
  have go : ∀ {l : List D}, d ∈ l → wD d ≤ wL l ∧ depD d ≤ depL l := fun {l} => by
    induction l with
    | nil => intro h; cases h
    | cons x l ih =>
      intro h
      simp only [wL, depL]
      rcases List.mem_cons.mp h with rfl | h
      · omega
      · have := ih h; omega
  have := go hd
  exact ⟨h.2.1 d hd, Nat.le_trans this.1 h.2.2.1, Nat.le_trans this.2 h.2.2.2⟩
theorem gl_take {w p : Nat} {l : List D} (k : Nat) (h : GL w p l) : GL w p (l.take k) := by
  have := wL_app (l.take k) (l.drop k)
  have e := depL_app (l.take k) (l.drop k)
  rw [List.take_append_drop] at this e
  exact ⟨by rw [List.length_take]; have := h.1; omega, fun x hx => h.2.1 x (List.mem_of_mem_take hx), by have := h.2.2.1; omega, by have := h.2.2.2; omega⟩
theorem gl_drop {w p : Nat} {l : List D} (k : Nat) (h : GL w p l) : GL w p (l.drop k) := by
  have := wL_app (l.take k) (l.drop k)
  have e := depL_app (l.take k) (l.drop k)
  rw [List.take_append_drop] at this e
  exact ⟨by rw [List.length_drop]; have := h.1; omega, fun x hx => h.2.1 x (List.mem_of_mem_drop hx), by have := h.2.2.1; omega, by have := h.2.2.2; omega⟩
/-- an item left out -/
theorem gl_two {w p k : Nat} {l : List D} (h : GL w p l) (hk : k < l.length) : GL (w - 1 - wD l[k]) p (l.take k ++ l.drop (k + 1)) ∧ wD l[k] + 1 ≤ w := by
  have e1 := wL_app (l.take k) (l.drop k)
  have e2 := depL_app (l.take k) (l.drop k)
  rw [List.take_append_drop] at e1 e2
  rw [List.drop_eq_getElem_cons hk] at e1 e2
  simp only [wL, depL] at e1 e2
  have h1 := h.2.2.1
  have h2 := h.2.2.2
  refine ⟨⟨?_, fun x hx => ?_, ?_, ?_⟩, by omega⟩
  · have := h.1
    rw [List.length_append, List.length_take, List.length_drop]; omega
  · rcases List.mem_append.mp hx with hx | hx
    · exact h.2.1 x (List.mem_of_mem_take hx)
    · exact h.2.1 x (List.mem_of_mem_drop hx)
  · rw [wL_app]; omega
  · rw [depL_app]; omega
theorem gl_put {w v p k : Nat} {l : List D} {d : D} (h : GL w p l) (hk : k < l.length) (hd : G v p d) : GL (w + v - wD l[k]) p (l.take k ++ [d] ++ l.drop (k + 1)) := by
  obtain ⟨⟨a1, a2, a3, a4⟩, a5⟩ := gl_two h hk
  rw [wL_app] at a3
  rw [depL_app] at a4
  have b1 := hd.2.1
  have b2 := hd.2.2
  refine ⟨?_, fun x hx => ?_, ?_, ?_⟩
  · have := h.1
    simp only [List.length_append, List.length_take, List.length_drop, List.length_cons, List.length_nil]; omega
  · rcases List.mem_append.mp hx with hx | hx
    · rcases List.mem_append.mp hx with hx | hx
      · exact h.2.1 x (List.mem_of_mem_take hx)
      · rw [List.mem_singleton.mp hx]; exact hd.1
    · exact h.2.1 x (List.mem_of_mem_drop hx)
  · simp only [wL_app, wL]; omega
  · simp only [depL_app, depL]; omega
theorem gl_rev {w p : Nat} {l : List D} (h : GL w p l) : GL w p l.reverse := by
  have go : ∀ l : List D, wL l.reverse = wL l ∧ depL l.reverse = depL l := fun l => by
    induction l with
    | nil => exact ⟨rfl, rfl⟩
    | cons x l ih =>
      rw [List.reverse_cons, wL_app, depL_app, ih.1, ih.2]
      simp only [wL, depL]
      omega
  obtain ⟨e1, e2⟩ := go l
  exact ⟨by rw [List.length_reverse]; exact h.1, fun x hx => h.2.1 x (List.mem_reverse.mp hx), by rw [e1]; exact h.2.2.1, by rw [e2]; exact h.2.2.2⟩
theorem lit_small {s : Str} (n : Nat) (h : (decide (s.length ≤ n) && s.cps.toList.all fun c => decide (c < 1000)) = true) : Small n (.str s) := by
  simp only [Bool.and_eq_true, decide_eq_true_eq, List.all_eq_true] at h
  exact ⟨s, rfl, h.1, fun c hc => h.2 c hc⟩
local macro_rules | `(tactic| walk_at "ev") => `(tactic| simp only [W_ok, W_no, WS_ok, WS_no, VQ_some, LV_d, LF_d, LF_o, LW_d, LW_o, W_fC, W_fV, W_fVF, W_fVW, toD_l, toD_c, eD_d, eD_o, sl_d, sl_o, W_fD, R_KD, W_fX, R_KX, W_f1, R_K1, W_f2, R_K2, R_K2b, W_fN, R_KN, W_fW, R_KW, W_fNil, W_fCons, R_KC, R_KCb, W_fB, R_KB, W_fBv, R_KBv, W_fNotB, R_KNB, W_fAndB, R_KABt, R_KABf, W_fOrB, R_KOBt, R_KOBf, W_fAnd, R_KAt, R_KAf, W_fOr, R_KOt, R_KOf, W_fIf, R_KIt, R_KIf, W_fIsN, R_KIN, W_fNotN, R_KNN, W_fChain, R_KH1, R_KH2, R_KH3t, R_KH3f, W_fM1, R_KM1, R_KM1b, W_fIxN, R_IxAd, R_IxAo, R_KIx, R_IxBo, R_IxBd, W_fMt, R_MtA, R_KMt, R_MtB, R_MtC, W_fSl, R_KSl1, R_KSl2, R_KSl3, W_oNone, W_oSome, R_KOs, W_fItems, R_KItl, R_KIts, W_fItemsT, R_KItT, W_fSigns, R_KSg, W_fRng1, R_KR1, W_aNil, W_aCons, R_KAc, R_KAb, R_KAi, W_aBor, R_ABd, R_ABo, W_fCall, R_KCl, R_KP, R_pb0, R_pbd, R_pbb, keep_o, keep_d, R_asd, R_asb, R_bi0, R_bid, R_bib, R_RPr, R_RPn, WS_nil, WS_seq, R_SQn, R_SQr, R_SQb, R_SQc, WS_set, R_KS, WS_ret, R_KRt, WS_expr, R_KEx, WS_if, R_SIt, R_SIf, WS_for, WS_par, R_KPar, R_KPa, WS_asg, R_KAs, AsQ_some, R_gNm, R_gTp, R_gS0, R_gS1, WS_rz, R_KRz, WS_star, R_KSt, WS_setIx, R_KSx, R_SxA, R_KSx2, R_SxB, WS_try, R_TyE, R_LPn, R_LPc, R_LPb, R_LPr, W_fLcE, R_KLbt, R_KLbf, R_KLt, W_fYes, q_bxA, q_bxK, q_addI, q_addS, q_addL, q_addT, q_subI, q_mulI, q_mulS, q_mulL, q_mod, q_div, q_pow, q_neg, q_not, q_lt, q_le, q_gt, q_ge, q_eqI, q_neI, q_eqS, q_neS, q_eqB, q_neB, q_eqTn, q_eqLn, q_inSg, q_ninSg, q_ixL, q_ixT, q_ixR, q_ixS, R_KCh, q_at0, q_at1, q_at2, q_lenS, q_lenT, q_lenL, q_lenR, q_max2, q_min2, q_min2E, q_max2E, q_abs, q_intI, q_intB, q_strS, q_ordc, q_tup, q_lst, q_listT, q_listL, q_tupT, q_tupL, q_slS, q_slL, q_slR, q_slT, q_revT, q_dct0, q_mkv, q_app', W_isT2, isN_n, isN_b, isN_i, isN_s, isN_t, isN_l, sets_nil, sets_cons, W_fFld, R_LFl, R_lk, R_hush, R_hush0, R_hushd, R_husho, R_hushn, R_hushb, R_finr, R_finn, R_finb, R_finc, Nat.reduceLT, Nat.reduceSub, Nat.reduceAdd, Nat.reduceLeDiff, Nat.reduceMul, if_true, if_false, List.map_cons, List.map_nil, List.length_cons, List.length_nil, List.getElem?_cons_zero, List.getElem?_cons_succ, List.set_cons_zero, List.set_cons_succ, Option.getD_some, List.nodup_cons, List.nodup_nil, List.not_mem_nil, List.mem_cons, List.mem_singleton, not_false_eq_true, true_and, and_true, and_self, Bool.not_true, Bool.not_false, decide_true, decide_false, List.take_succ_cons, List.take_zero, List.cons_append, List.nil_append, List.replicate_succ, List.replicate_zero, slOf, wipeD, backD, List.foldr_cons, List.foldr_nil, eq_self_iff_true, or_false, false_or, ite_true, ite_false, reduceIte, Int.reduceNeg, Int.reduceLT, Int.reduceLE, Int.reduceAdd, Int.reduceSub, Int.reduceMul, reduceCtorEq, not_true_eq_false, Nat.lt_irrefl, Nat.not_lt_zero, Nat.le_refl, List.getElem?_nil, Int.reduceToNat, true_or, or_true, List.isEmpty_nil, List.isEmpty_cons, Int.toNat_natCast, lim_eq])
local macro_rules | `(tactic| wp_walk using $[$ts:term],*) => `(tactic| simp only [W_ok, W_no, WS_ok, WS_no, VQ_some, LV_d, LF_d, LF_o, LW_d, LW_o, W_fC, W_fV, W_fVF, W_fVW, toD_l, toD_c, eD_d, eD_o, sl_d, sl_o, W_fD, R_KD, W_fX, R_KX, W_f1, R_K1, W_f2, R_K2, R_K2b, W_fN, R_KN, W_fW, R_KW, W_fNil, W_fCons, R_KC, R_KCb, W_fB, R_KB, W_fBv, R_KBv, W_fNotB, R_KNB, W_fAndB, R_KABt, R_KABf, W_fOrB, R_KOBt, R_KOBf, W_fAnd, R_KAt, R_KAf, W_fOr, R_KOt, R_KOf, W_fIf, R_KIt, R_KIf, W_fIsN, R_KIN, W_fNotN, R_KNN, W_fChain, R_KH1, R_KH2, R_KH3t, R_KH3f, W_fM1, R_KM1, R_KM1b, W_fIxN, R_IxAd, R_IxAo, R_KIx, R_IxBo, R_IxBd, W_fMt, R_MtA, R_KMt, R_MtB, R_MtC, W_fSl, R_KSl1, R_KSl2, R_KSl3, W_oNone, W_oSome, R_KOs, W_fItems, R_KItl, R_KIts, W_fItemsT, R_KItT, W_fSigns, R_KSg, W_fRng1, R_KR1, W_aNil, W_aCons, R_KAc, R_KAb, R_KAi, W_aBor, R_ABd, R_ABo, W_fCall, R_KCl, R_KP, R_pb0, R_pbd, R_pbb, keep_o, keep_d, R_asd, R_asb, R_bi0, R_bid, R_bib, R_RPr, R_RPn, WS_nil, WS_seq, R_SQn, R_SQr, R_SQb, R_SQc, WS_set, R_KS, WS_ret, R_KRt, WS_expr, R_KEx, WS_if, R_SIt, R_SIf, WS_for, WS_par, R_KPar, R_KPa, WS_asg, R_KAs, AsQ_some, R_gNm, R_gTp, R_gS0, R_gS1, WS_rz, R_KRz, WS_star, R_KSt, WS_setIx, R_KSx, R_SxA, R_KSx2, R_SxB, WS_try, R_TyE, R_LPn, R_LPc, R_LPb, R_LPr, W_fLcE, R_KLbt, R_KLbf, R_KLt, W_fYes, q_bxA, q_bxK, q_addI, q_addS, q_addL, q_addT, q_subI, q_mulI, q_mulS, q_mulL, q_mod, q_div, q_pow, q_neg, q_not, q_lt, q_le, q_gt, q_ge, q_eqI, q_neI, q_eqS, q_neS, q_eqB, q_neB, q_eqTn, q_eqLn, q_inSg, q_ninSg, q_ixL, q_ixT, q_ixR, q_ixS, R_KCh, q_at0, q_at1, q_at2, q_lenS, q_lenT, q_lenL, q_lenR, q_max2, q_min2, q_min2E, q_max2E, q_abs, q_intI, q_intB, q_strS, q_ordc, q_tup, q_lst, q_listT, q_listL, q_tupT, q_tupL, q_slS, q_slL, q_slR, q_slT, q_revT, q_dct0, q_mkv, q_app', W_isT2, isN_n, isN_b, isN_i, isN_s, isN_t, isN_l, sets_nil, sets_cons, W_fFld, R_LFl, R_lk, R_hush, R_hush0, R_hushd, R_husho, R_hushn, R_hushb, R_finr, R_finn, R_finb, R_finc, Nat.reduceLT, Nat.reduceSub, Nat.reduceAdd, Nat.reduceLeDiff, Nat.reduceMul, if_true, if_false, List.map_cons, List.map_nil, List.length_cons, List.length_nil, List.getElem?_cons_zero, List.getElem?_cons_succ, List.set_cons_zero, List.set_cons_succ, Option.getD_some, List.nodup_cons, List.nodup_nil, List.not_mem_nil, List.mem_cons, List.mem_singleton, not_false_eq_true, true_and, and_true, and_self, Bool.not_true, Bool.not_false, decide_true, decide_false, List.take_succ_cons, List.take_zero, List.cons_append, List.nil_append, List.replicate_succ, List.replicate_zero, slOf, wipeD, backD, List.foldr_cons, List.foldr_nil, eq_self_iff_true, or_false, false_or, ite_true, ite_false, reduceIte, Int.reduceNeg, Int.reduceLT, Int.reduceLE, Int.reduceAdd, Int.reduceSub, Int.reduceMul, reduceCtorEq, not_true_eq_false, Nat.lt_irrefl, Nat.not_lt_zero, Nat.le_refl, List.getElem?_nil, Int.reduceToNat, true_or, or_true, List.isEmpty_nil, List.isEmpty_cons, Int.toNat_natCast, lim_eq, $[$ts:term],*])
local macro_rules | `(tactic| walk_at "sd") => `(tactic| first | omega | (simp only [len_app, len_one, abc_len, len_rng, Int.reduceToNat, List.length_append, List.length_cons, List.length_nil, List.length_replicate]; omega) | decide +kernel)
local macro_rules | `(tactic| walk_at "go") => `(tactic| ((try walk_at "ev"); repeat (with_reducible refine And.intro (by walk_at "sd") ?_; try walk_at "ev")))
theorem ints_in {l : List D} {x : D} {lo hi : Int} (hx : x ∈ l) (h : ∀ y ∈ l, ∃ i, y = .int i ∧ lo ≤ i ∧ i ≤ hi) : ∃ i, x = .int i ∧ lo ≤ i ∧ i ≤ hi := h x hx
theorem mem_ints {P : D → Prop} {x : D} {l : List D} : (∀ y ∈ x :: l, P y) ↔ P x ∧ ∀ y ∈ l, P y := List.forall_mem_cons
theorem s_kind {n : Nat} {q : Bo} {Q : EV → Dv → Prop} {E : EC} (h : Bok n q) (hn : n ≤ 800000) (k : ∀ z q', G 300 2 (.tup z) → z.length ≤ 3 → Bok (n + 40) q' → Q (.d (.tup z)) [bx q']) : W (fn_law_kind [bx q]) Q E := by
  unfold fn_law_kind g_law_kind
  rw [W_run]
  walk_at "ev"
  refine s_take h (by omega) (by omega) (by omega) fun way q1 w0 w1 h1 => ?_
  walk_at "go"
  refine SI_by (fun hb => ?_) fun hb => ?_
  · walk_at "go"
    refine s_take h1 (by omega) (by omega) (by omega) fun r2 q2 r20 r21 h2 => ?_
    walk_at "go"
    refine s_take h2 (by omega) (by omega) (by omega) fun r3 q3 r30 r31 h3 => ?_
    walk_at "go"
    refine at_any r30 (by simpa using r31) fun x hx _ => ?_
    obtain ⟨lo, rfl, l1, l2⟩ := ints_in (lo := -1000000) (hi := 1000000) hx (by
      simp only [mem_ints, List.not_mem_nil, false_imp_iff, implies_true, and_true]
      refine ⟨⟨_, rfl, ?_, ?_⟩, ⟨_, rfl, ?_, ?_⟩, ⟨_, rfl, ?_, ?_⟩, ⟨_, rfl, ?_, ?_⟩, ⟨_, rfl, ?_, ?_⟩, ⟨_, rfl, ?_, ?_⟩, ⟨_, rfl, ?_, ?_⟩, ⟨_, rfl, ?_, ?_⟩⟩ <;> omega)
    walk_at "go"
    refine s_take h3 (by omega) (by omega) (by omega) fun r4 q4 r40 r41 h4 => ?_
    walk_at "go"
    refine at_any r40 (by simpa using r41) fun x hx _ => ?_
    obtain ⟨mo, rfl, m1, m2⟩ := ints_in (lo := 0) (hi := 2000000) hx (by
      simp only [mem_ints, List.not_mem_nil, false_imp_iff, implies_true, and_true]
      refine ⟨⟨_, rfl, ?_, ?_⟩, ⟨_, rfl, ?_, ?_⟩, ⟨_, rfl, ?_, ?_⟩, ⟨_, rfl, ?_, ?_⟩, ⟨_, rfl, ?_, ?_⟩, ⟨_, rfl, ?_, ?_⟩⟩ <;> omega)
    walk_at "go"
    refine k _ _ ?_ (by simp) (h4.mono (by omega))
    refine (g_tup (p := 1) (gl_cons (g_small (lit_small 6 (by decide +kernel)) (by omega)) (gl_cons (g_int (i := lo) (by omega)) (gl_cons (g_int ?_) gl_nil (by simp)) (by simp)) (by simp))).mono (by omega) (by omega)
    split <;> omega
  · walk_at "go"
    refine SI_by (fun hb => ?_) fun hb => ?_
    · walk_at "go"
      refine s_take h1 (by omega) (by omega) (by omega) fun r2 q2 r20 r21 h2 => ?_
      walk_at "go"
      refine s_names h2 (by omega) (by omega) (by omega) fun zs q3 z1 z2 h3 => ?_
      walk_at "go"
      refine k _ _ ?_ (by simp) (h3.mono (by omega))
      have a1 := gl_all (p := 0) (l := zs) (fun d hd => g_small (z2 d hd) (by omega)) (by omega)
      refine (g_tup (p := 1) (gl_cons (g_small (p := 1) (lit_small 3 (by decide +kernel)) (by omega)) (gl_cons ((g_tup a1).mono (Nat.le_refl _) (Nat.le_refl _)) gl_nil (by simp)) (by simp))).mono ?_ (by omega)
      have : (9 + 1) * zs.length ≤ 80 := by omega
      omega
    · walk_at "go"
      refine SI_by (fun hb => ?_) fun hb => ?_
      · walk_at "go"
        exact k _ _ ((g_tup (p := 1) (gl_cons (g_small (lit_small 4 (by decide +kernel)) (by omega)) gl_nil (by simp))).mono (by omega) (by omega)) (by simp) (h1.mono (by omega))
      · walk_at "go"
        refine s_take h1 (by omega) (by omega) (by omega) fun r2 q2 r20 r21 h2 => ?_
        walk_at "go"
        refine s_take h2 (by omega) (by omega) (by omega) fun r3 q3 r30 r31 h3 => ?_
        walk_at "go"
        refine at_any r30 (by simpa using r31) fun x hx _ => ?_
        obtain ⟨mo, rfl, m1, m2⟩ := ints_in (lo := 0) (hi := 2000000) hx (by
          simp only [mem_ints, List.not_mem_nil, false_imp_iff, implies_true, and_true]
          refine ⟨⟨_, rfl, ?_, ?_⟩, ⟨_, rfl, ?_, ?_⟩, ⟨_, rfl, ?_, ?_⟩⟩ <;> omega)
        walk_at "go"
        refine s_name h3 (by omega) fun t q4 ht h4 => ?_
        walk_at "go"
        have g1 : G 300 2 (.tup [.str (Str.ofString "text"), .int mo]) := (g_tup (p := 1) (gl_cons (g_small (lit_small 4 (by decide +kernel)) (by omega)) (gl_cons (g_int (by omega)) gl_nil (by simp)) (by simp))).mono (by omega) (by omega)
        have g2 : G 300 2 (.tup [.str (Str.ofString "own"), .str t]) := (g_tup (p := 1) (gl_cons (g_small (lit_small 3 (by decide +kernel)) (by omega)) (gl_cons (g_small ht.small (by omega)) gl_nil (by simp)) (by simp))).mono (by omega) (by omega)
        refine at_any (Int.emod_nonneg _ (by omega)) (Int.emod_lt_of_pos _ (by omega)) fun x hx _ => ?_
        simp only [List.mem_cons, List.not_mem_nil, or_false] at hx
        rcases hx with rfl | rfl
        · walk_at "go"
          exact k _ _ g1 (by simp) (h4.mono (by omega))
        · walk_at "go"
          exact k _ _ g2 (by simp) (h4.mono (by omega))
end FD
end
section
set_option Elab.async false
set_option linter.all false
set_option maxRecDepth 100000
set_option maxHeartbeats 4000000
namespace FD
open PySem L2
def oddL : List D := [.non, .bl true, .str "", .str "Ab", .str "ninechars", .str "a b", .int (-1), .int 0, .int 21, .int 1000000, .int (-1000000), .lst [], .dct [], .tup [], .tup [.str "a"], .tup [.str "a", .str "a"], .lst [.str "a"], .str "number", .int 8]
theorem odd_eq : [.non, .bl true, .str "", .str "Ab", .str "ninechars", .str "a b", .int (-1), .int 0, .int 21, .int 1000000, .int (-1000000), .lst [], .dct [], .tup [], .tup [.str "a"], .tup [.str "a", .str "a"], .lst [.str "a"], .str "number", .int 8] = oddL := rfl
theorem odd_len : oddL.length = 19 := rfl
theorem odd_ok : ∀ x ∈ oddL, G 150 2 x := by
  have s1 : Small 9 (.str "a") := lit_small 9 (by decide +kernel)
  unfold oddL
  simp only [mem_ints, List.not_mem_nil, false_imp_iff, implies_true, and_true]
  refine ⟨(g_non (p := 2)).mono (by omega) (by omega), (g_bl (p := 2)).mono (by omega) (by omega), (g_small (lit_small 9 (by decide +kernel)) (by omega)).mono (by omega) (Nat.le_refl _), (g_small (lit_small 9 (by decide +kernel)) (by omega)).mono (by omega) (Nat.le_refl _), (g_small (lit_small 9 (by decide +kernel)) (by omega)).mono (by omega) (Nat.le_refl _), (g_small (lit_small 9 (by decide +kernel)) (by omega)).mono (by omega) (Nat.le_refl _),
    (g_int (by decide)).mono (by omega) (Nat.le_refl _), (g_int (by decide)).mono (by omega) (Nat.le_refl _), (g_int (by decide)).mono (by omega) (Nat.le_refl _), (g_int (by decide)).mono (by omega) (Nat.le_refl _), (g_int (by decide)).mono (by omega) (Nat.le_refl _),
    (g_lst (p := 1) gl_nil).mono (by omega) (Nat.le_refl _), g_dct.mono (by omega) (Nat.le_refl _), (g_tup (p := 1) gl_nil).mono (by omega) (Nat.le_refl _), (g_tup (p := 1) (gl_cons (g_small s1 (by omega)) gl_nil (by simp))).mono (by omega) (Nat.le_refl _), (g_tup (p := 1) (gl_cons (g_small s1 (by omega)) (gl_cons (g_small s1 (by omega)) gl_nil (by simp)) (by simp))).mono (by omega) (Nat.le_refl _),
    (g_lst (p := 1) (gl_cons (g_small s1 (by omega)) gl_nil (by simp))).mono (by omega) (Nat.le_refl _), (g_small (lit_small 9 (by decide +kernel)) (by omega)).mono (by omega) (Nat.le_refl _), (g_int (by decide)).mono (by omega) (Nat.le_refl _)⟩
theorem G.str {w p : Nat} {s : Str} (h : G w p (.str s)) : Small w (.str s) := by
  obtain ⟨h1, h2, _⟩ := h
  cases h1 with
  | str s h3 h4 => exact ⟨s, rfl, by simpa only [wD] using h2, h4⟩
theorem G.tup {w p : Nat} {l : List D} (h : G w p (.tup l)) : ∃ p', p = p' + 1 ∧ GL w p' l := by
  obtain ⟨h1, h2, h3⟩ := h
  simp only [wD, depD] at h2 h3
  cases h1 with
  | tup l h4 h5 => exact ⟨p - 1, by omega, h4, h5, h2, by omega⟩
theorem cutS_lo (a : Str) (k : Nat) : (cutS a (some (k : Int)) none).length = a.length - k := by
  rw [length_cs, length_cs]; unfold cutS; rw [cs_mk, cut_lo, List.length_drop]; rfl
theorem cutS_hi' (a : Str) (k : Nat) : (cutS a none (some (k : Int))).length = min k a.length := by
  rw [length_cs, length_cs]; unfold cutS; rw [cs_mk, cut_hi, List.length_take]; rfl
theorem rep_len (a : Str) (n : Nat) : (repS a n).length = a.length * n := by
  rw [length_cs, length_cs]; unfold repS cs; simp [Nat.mul_comm]
theorem rep_mem {a : Str} {n : Int} {c : Nat} (h : c ∈ cs (repS a n)) : c ∈ cs a := by
  unfold repS at h; rw [cs_mk, List.mem_flatten] at h
  obtain ⟨l, hl, hc⟩ := h
  rw [(List.mem_replicate.mp hl).2] at hc
  exact hc
theorem rep_len' (a : Str) (j : Int) : (repS a j).length = a.length * j.toNat := by
  rw [length_cs, length_cs]; unfold repS cs; simp [Nat.mul_comm]
theorem len_a : (Str.ofString "a").length = 1 := by decide +kernel
local macro_rules | `(tactic| walk_at "ev") => `(tactic| simp only [W_ok, W_no, WS_ok, WS_no, VQ_some, LV_d, LF_d, LF_o, LW_d, LW_o, W_fC, W_fV, W_fVF, W_fVW, toD_l, toD_c, eD_d, eD_o, sl_d, sl_o, W_fD, R_KD, W_fX, R_KX, W_f1, R_K1, W_f2, R_K2, R_K2b, W_fN, R_KN, W_fW, R_KW, W_fNil, W_fCons, R_KC, R_KCb, W_fB, R_KB, W_fBv, R_KBv, W_fNotB, R_KNB, W_fAndB, R_KABt, R_KABf, W_fOrB, R_KOBt, R_KOBf, W_fAnd, R_KAt, R_KAf, W_fOr, R_KOt, R_KOf, W_fIf, R_KIt, R_KIf, W_fIsN, R_KIN, W_fNotN, R_KNN, W_fChain, R_KH1, R_KH2, R_KH3t, R_KH3f, W_fM1, R_KM1, R_KM1b, W_fIxN, R_IxAd, R_IxAo, R_KIx, R_IxBo, R_IxBd, W_fMt, R_MtA, R_KMt, R_MtB, R_MtC, W_fSl, R_KSl1, R_KSl2, R_KSl3, W_oNone, W_oSome, R_KOs, W_fItems, R_KItl, R_KIts, W_fItemsT, R_KItT, W_fSigns, R_KSg, W_fRng1, R_KR1, W_aNil, W_aCons, R_KAc, R_KAb, R_KAi, W_aBor, R_ABd, R_ABo, W_fCall, R_KCl, R_KP, R_pb0, R_pbd, R_pbb, keep_o, keep_d, R_asd, R_asb, R_bi0, R_bid, R_bib, R_RPr, R_RPn, WS_nil, WS_seq, R_SQn, R_SQr, R_SQb, R_SQc, WS_set, R_KS, WS_ret, R_KRt, WS_expr, R_KEx, WS_if, R_SIt, R_SIf, WS_for, WS_par, R_KPar, R_KPa, WS_asg, R_KAs, AsQ_some, R_gNm, R_gTp, R_gS0, R_gS1, WS_rz, R_KRz, WS_star, R_KSt, WS_setIx, R_KSx, R_SxA, R_KSx2, R_SxB, WS_try, R_TyE, R_LPn, R_LPc, R_LPb, R_LPr, W_fLcE, R_KLbt, R_KLbf, R_KLt, W_fYes, q_bxA, q_bxK, q_addI, q_addS, q_addL, q_addT, q_subI, q_mulI, q_mulS, q_mulL, q_mod, q_div, q_pow, q_neg, q_not, q_lt, q_le, q_gt, q_ge, q_eqI, q_neI, q_eqS, q_neS, q_eqB, q_neB, q_eqTn, q_eqLn, q_inSg, q_ninSg, q_ixL, q_ixT, q_ixR, q_ixS, R_KCh, q_at0, q_at1, q_at2, q_lenS, q_lenT, q_lenL, q_lenR, q_max2, q_min2, q_min2E, q_max2E, q_abs, q_intI, q_intB, q_strS, q_ordc, q_tup, q_lst, q_listT, q_listL, q_tupT, q_tupL, q_slS, q_slL, q_slR, q_slT, q_revT, q_dct0, q_mkv, q_app', W_isT2, isN_n, isN_b, isN_i, isN_s, isN_t, isN_l, sets_nil, sets_cons, W_fFld, R_LFl, R_lk, R_hush, R_hush0, R_hushd, R_husho, R_hushn, R_hushb, R_finr, R_finn, R_finb, R_finc, Nat.reduceLT, Nat.reduceSub, Nat.reduceAdd, Nat.reduceLeDiff, Nat.reduceMul, if_true, if_false, List.map_cons, List.map_nil, List.length_cons, List.length_nil, List.getElem?_cons_zero, List.getElem?_cons_succ, List.set_cons_zero, List.set_cons_succ, Option.getD_some, List.nodup_cons, List.nodup_nil, List.not_mem_nil, List.mem_cons, List.mem_singleton, not_false_eq_true, true_and, and_true, and_self, Bool.not_true, Bool.not_false, decide_true, decide_false, List.take_succ_cons, List.take_zero, List.cons_append, List.nil_append, List.replicate_succ, List.replicate_zero, slOf, wipeD, backD, List.foldr_cons, List.foldr_nil, eq_self_iff_true, or_false, false_or, ite_true, ite_false, reduceIte, Int.reduceNeg, Int.reduceLT, Int.reduceLE, Int.reduceAdd, Int.reduceSub, Int.reduceMul, reduceCtorEq, not_true_eq_false, Nat.lt_irrefl, Nat.not_lt_zero, Nat.le_refl, List.getElem?_nil, Int.reduceToNat, true_or, or_true, List.isEmpty_nil, List.isEmpty_cons, Int.toNat_natCast, lim_eq, isi_NoneType_str, isi_NoneType_tuple, isi_bool_str, isi_bool_tuple, isi_int_str, isi_int_tuple, isi_str_str, isi_str_tuple, isi_tuple_str, isi_tuple_tuple, isi_list_str, isi_list_tuple, isi_dict_str, isi_dict_tuple])
local macro_rules | `(tactic| wp_walk using $[$ts:term],*) => `(tactic| simp only [W_ok, W_no, WS_ok, WS_no, VQ_some, LV_d, LF_d, LF_o, LW_d, LW_o, W_fC, W_fV, W_fVF, W_fVW, toD_l, toD_c, eD_d, eD_o, sl_d, sl_o, W_fD, R_KD, W_fX, R_KX, W_f1, R_K1, W_f2, R_K2, R_K2b, W_fN, R_KN, W_fW, R_KW, W_fNil, W_fCons, R_KC, R_KCb, W_fB, R_KB, W_fBv, R_KBv, W_fNotB, R_KNB, W_fAndB, R_KABt, R_KABf, W_fOrB, R_KOBt, R_KOBf, W_fAnd, R_KAt, R_KAf, W_fOr, R_KOt, R_KOf, W_fIf, R_KIt, R_KIf, W_fIsN, R_KIN, W_fNotN, R_KNN, W_fChain, R_KH1, R_KH2, R_KH3t, R_KH3f, W_fM1, R_KM1, R_KM1b, W_fIxN, R_IxAd, R_IxAo, R_KIx, R_IxBo, R_IxBd, W_fMt, R_MtA, R_KMt, R_MtB, R_MtC, W_fSl, R_KSl1, R_KSl2, R_KSl3, W_oNone, W_oSome, R_KOs, W_fItems, R_KItl, R_KIts, W_fItemsT, R_KItT, W_fSigns, R_KSg, W_fRng1, R_KR1, W_aNil, W_aCons, R_KAc, R_KAb, R_KAi, W_aBor, R_ABd, R_ABo, W_fCall, R_KCl, R_KP, R_pb0, R_pbd, R_pbb, keep_o, keep_d, R_asd, R_asb, R_bi0, R_bid, R_bib, R_RPr, R_RPn, WS_nil, WS_seq, R_SQn, R_SQr, R_SQb, R_SQc, WS_set, R_KS, WS_ret, R_KRt, WS_expr, R_KEx, WS_if, R_SIt, R_SIf, WS_for, WS_par, R_KPar, R_KPa, WS_asg, R_KAs, AsQ_some, R_gNm, R_gTp, R_gS0, R_gS1, WS_rz, R_KRz, WS_star, R_KSt, WS_setIx, R_KSx, R_SxA, R_KSx2, R_SxB, WS_try, R_TyE, R_LPn, R_LPc, R_LPb, R_LPr, W_fLcE, R_KLbt, R_KLbf, R_KLt, W_fYes, q_bxA, q_bxK, q_addI, q_addS, q_addL, q_addT, q_subI, q_mulI, q_mulS, q_mulL, q_mod, q_div, q_pow, q_neg, q_not, q_lt, q_le, q_gt, q_ge, q_eqI, q_neI, q_eqS, q_neS, q_eqB, q_neB, q_eqTn, q_eqLn, q_inSg, q_ninSg, q_ixL, q_ixT, q_ixR, q_ixS, R_KCh, q_at0, q_at1, q_at2, q_lenS, q_lenT, q_lenL, q_lenR, q_max2, q_min2, q_min2E, q_max2E, q_abs, q_intI, q_intB, q_strS, q_ordc, q_tup, q_lst, q_listT, q_listL, q_tupT, q_tupL, q_slS, q_slL, q_slR, q_slT, q_revT, q_dct0, q_mkv, q_app', W_isT2, isN_n, isN_b, isN_i, isN_s, isN_t, isN_l, sets_nil, sets_cons, W_fFld, R_LFl, R_lk, R_hush, R_hush0, R_hushd, R_husho, R_hushn, R_hushb, R_finr, R_finn, R_finb, R_finc, Nat.reduceLT, Nat.reduceSub, Nat.reduceAdd, Nat.reduceLeDiff, Nat.reduceMul, if_true, if_false, List.map_cons, List.map_nil, List.length_cons, List.length_nil, List.getElem?_cons_zero, List.getElem?_cons_succ, List.set_cons_zero, List.set_cons_succ, Option.getD_some, List.nodup_cons, List.nodup_nil, List.not_mem_nil, List.mem_cons, List.mem_singleton, not_false_eq_true, true_and, and_true, and_self, Bool.not_true, Bool.not_false, decide_true, decide_false, List.take_succ_cons, List.take_zero, List.cons_append, List.nil_append, List.replicate_succ, List.replicate_zero, slOf, wipeD, backD, List.foldr_cons, List.foldr_nil, eq_self_iff_true, or_false, false_or, ite_true, ite_false, reduceIte, Int.reduceNeg, Int.reduceLT, Int.reduceLE, Int.reduceAdd, Int.reduceSub, Int.reduceMul, reduceCtorEq, not_true_eq_false, Nat.lt_irrefl, Nat.not_lt_zero, Nat.le_refl, List.getElem?_nil, Int.reduceToNat, true_or, or_true, List.isEmpty_nil, List.isEmpty_cons, Int.toNat_natCast, lim_eq, isi_NoneType_str, isi_NoneType_tuple, isi_bool_str, isi_bool_tuple, isi_int_str, isi_int_tuple, isi_str_str, isi_str_tuple, isi_tuple_str, isi_tuple_tuple, isi_list_str, isi_list_tuple, isi_dict_str, isi_dict_tuple, $[$ts:term],*])
local macro_rules | `(tactic| walk_at "sd") => `(tactic| first | omega | (simp only [len_app, len_one, abc_len, len_rng, rep_len', len_a, Int.reduceToNat, List.length_append, List.length_cons, List.length_nil, List.length_replicate]; omega) | decide +kernel)
local macro_rules | `(tactic| walk_at "go") => `(tactic| ((try walk_at "ev"); repeat (with_reducible refine And.intro (by walk_at "sd") ?_; try walk_at "ev")))
theorem s_bent : ∀ (fuel : Nat) {n : Nat} {q : Bo} {w p : Nat} {d : D} {Q : EV → Dv → Prop} {E : EC}, Bok n q → n + 10 * fuel ≤ 800000 → G w p d → w ≤ 900 → p < fuel → (∀ x q', G (2 * w + 201) (p + 2) x → Bok (n + 10 * fuel) q' → Q (.d x) [bx q', .d d]) → W (fn_law_bent fuel [bx q, .d d]) Q E
  | 0, n, q, w, p, d, Q, E, h, hn, hg, hw, hp, k => by omega
  | fuel + 1, n, q, w, p, d, Q, E, h, hn, hg, hw, hp, k => by
    unfold fn_law_bent g_law_bent
    rw [W_run]
    have hodd : ∀ x, x ∈ oddL → G (2 * w + 201) (p + 2) x := fun x hx => (odd_ok x hx).mono (by omega) (by omega)
    have other : vIsi2 [d, .ty "str"] = some (.bl false) → vIsi2 [d, .ty "tuple"] = some (.bl false) → W (fn_law_bent (fuel + 1) [bx q, .d d]) Q E := fun e1 e2 => by
      unfold fn_law_bent g_law_bent
      rw [W_run]
      wp_walk using e1, e2
      refine s_take h (by omega) (by omega) (by omega) fun r q1 r0 r1 h1 => ?_
      walk_at "go"
      rw [odd_eq]
      refine at_any r0 (by rw [odd_len]; omega) fun x hx _ => ?_
      walk_at "go"
      exact k x q1 (hodd x hx) (h1.mono (by omega))
    have hd := hg.1
    cases hd with
    | str s hs hc =>
      have hsm := hg.str
      have hsl := hsm.len
      walk_at "go"
      rw [odd_eq]
      refine SI_by (fun hb => ?_) fun hb => ?_
      · have hne : s.length ≠ 0 := fun z => by
          have : s = Str.ofString "" := by
            apply str_ext
            have : (cs s).length = 0 := by rw [← length_cs]; exact z
            rw [List.eq_nil_of_length_eq_zero this]
            decide +kernel
          simp [this] at hb
        walk_at "go"
        refine s_take h (by omega) (by omega) (by omega) fun at_ q1 a0 a1 h1 => ?_
        obtain ⟨j, rfl⟩ : ∃ j : Nat, at_ = (j : Int) := ⟨at_.toNat, by omega⟩
        walk_at "go"
        refine s_take h1 (by omega) (by omega) (by omega) fun si q2 s0 s1 h2 => ?_
        walk_at "go"
        generalize hsg : Str.ofString "aZ1 -" ++ Str.ofString "\n\t~" ++ Str.ofString "_" = sg
        have e9 : sg.length = 9 := by rw [← hsg]; decide +kernel
        have all : ∀ c ∈ cs sg, c < 1000 := by rw [← hsg]; decide +kernel
        walk_at "go"
        refine at_any s0 (by rw [show sg.cps.toList = cs sg from rfl, ← length_cs, e9]; exact s1) fun c hc' _ => ?_
        have hc9 := all c hc'
        have l1 := cutS_hi' s j
        have l2 := cutS_lo s (j + 1)
        have hx : Small w (.str (cutS s none (some (j : Int)) ++ ⟨#[c]⟩ ++ cutS s (some (((j + 1 : Nat)) : Int)) none)) := by
          refine (small_app (small_app (small_cut _ _ hsm) (small_one hc9)) (small_cut _ _ hsm)).upto ?_
          rw [len_app, len_app, len_one, l1, l2]; omega
        rw [show ((j + 1 : Nat) : Int) = (j : Int) + 1 by omega] at hx l2
        walk_at "go"
        refine s_take h2 (by omega) (by omega) (by omega) fun r q3 r0 r1 h3 => ?_
        walk_at "go"
        have k' := fun x (hx : G (2 * w + 201) (p + 2) x) => k x q3 hx (h3.mono (by omega))
        refine at_any r0 (by simpa using r1) fun x hx' _ => ?_
        simp only [List.mem_cons, List.not_mem_nil, or_false] at hx'
        have ha : Small 1 (.str (Str.ofString "a")) := lit_small 1 (by decide +kernel)
        rcases hx' with rfl | rfl | rfl | rfl
        · walk_at "go"
          exact k' _ ((g_small hx (by omega)).mono (by omega) (Nat.le_refl _))
        · walk_at "go"
          exact k' _ ((g_small (small_app hsm ha) (by omega)).mono (by omega) (Nat.le_refl _))
        · walk_at "go"
          have hr : Small 200 (.str (cutS (repS s 8) none (some 200))) := ⟨_, rfl, cutS_hi _ 200, fun c hc' => by
            obtain ⟨_, e, _, h4⟩ := hsm
            cases e
            exact h4 c (rep_mem (cutS_mem hc'))⟩
          exact k' _ ((g_small hr (by omega)).mono (by omega) (Nat.le_refl _))
        · walk_at "go"
          exact k' _ ((g_lst (p := p) (gl_cons (hg.mono (Nat.le_refl _) (Nat.le_refl _)) gl_nil (by simp))).mono (by omega) (by omega))
      · walk_at "go"
        refine s_take h (by omega) (by omega) (by omega) fun r q1 r0 r1 h1 => ?_
        walk_at "go"
        refine at_any r0 (by rw [odd_len]; omega) fun x hx _ => ?_
        walk_at "go"
        exact k x q1 (hodd x hx) (h1.mono (by omega))
    | tup l hl hd =>
      obtain ⟨p', rfl, hgl⟩ := hg.tup
      walk_at "go"
      rw [odd_eq]
      cases l with
      | nil =>
        walk_at "go"
        refine s_take h (by omega) (by omega) (by omega) fun r q1 r0 r1 h1 => ?_
        walk_at "go"
        refine at_any r0 (by rw [odd_len]; omega) fun x hx _ => ?_
        walk_at "go"
        exact k x q1 (hodd x hx) (h1.mono (by omega))
      | cons x0 l0 =>
        walk_at "go"
        generalize hll : x0 :: l0 = l at *
        have hpos : 0 < l.length := by rw [← hll]; simp
        have hl0 : l0.length + 1 = l.length := by rw [← hll]; simp
        rw [hl0]
        have hlen : l.length ≤ w := by
          have go : ∀ l : List D, l.length ≤ wL l := fun l => by
            induction l with
            | nil => simp
            | cons x l ih => simp only [wL, List.length_cons]; omega
          exact Nat.le_trans (go l) hgl.2.2.1
        refine s_take h (by omega) (by omega) (by omega) fun at_ q1 a0 a1 h1 => ?_
        obtain ⟨j, rfl⟩ : ∃ j : Nat, at_ = (j : Int) := ⟨at_.toNat, by omega⟩
        have hj : j < l.length := by omega
        have cl := cut_lo l (j + 1)
        rw [show ((j + 1 : Nat) : Int) = (j : Int) + 1 by omega] at cl
        have ch := cut_hi l j
        have tl : (l.take j).length + (l.drop (j + 1)).length ≤ 2000 := by rw [List.length_take, List.length_drop]; omega
        walk_at "go"
        refine s_take h1 (by omega) (by omega) (by omega) fun way q2 w0 w1 h2 => ?_
        walk_at "go"
        refine SI_by (fun hb => ?_) fun hb => ?_
        · wp_walk using cl, ch
          refine ⟨by omega, ?_⟩
          exact k _ _ ((g_tup (gl_two hgl hj).1).mono (by omega) (by omega)) (h2.mono (by omega))
        walk_at "go"
        refine SI_by (fun hb => ?_) fun hb => ?_
        · walk_at "go"
          refine s_take h2 (by omega) (by omega) (by omega) fun r q3 r0 r1 h3 => ?_
          walk_at "go"
          refine at_any r0 (by rw [odd_len]; omega) fun x hx _ => ?_
          walk_at "go"
          exact k _ _ ((g_tup (p := p' + 2) (gl_app (hgl.mono (Nat.le_refl _) (by omega)) (gl_cons ((odd_ok x hx).mono (Nat.le_refl _) (by omega)) gl_nil (by simp)) (by simp only [List.length_cons, List.length_nil]; omega))).mono (by omega) (by omega)) (h3.mono (by omega))
        walk_at "go"
        refine SI_by (fun hb => ?_) fun hb => ?_
        · have cl1 := cut_lo l 1
          rw [show ((1 : Nat) : Int) = 1 from rfl] at cl1
          have g2 := gl_app hgl (gl_drop 1 hgl) (by rw [List.length_drop]; omega)
          have tl1 : l.length + (l.drop 1).length ≤ 2000 := by rw [List.length_drop]; omega
          wp_walk using cl1
          refine ⟨by omega, ?_⟩
          refine s_take h2 (by omega) (by omega) (by omega) fun r q3 r0 r1 h3 => ?_
          walk_at "go"
          have k' := fun x (hx : G (2 * w + 201) (p' + 1 + 2) x) => k x q3 hx (h3.mono (by omega))
          refine at_any r0 (by simpa using r1) fun x hx' _ => ?_
          simp only [List.mem_cons, List.not_mem_nil, or_false] at hx'
          rcases hx' with rfl | rfl | rfl | rfl
          · walk_at "go"
            exact k' _ ((g_lst hgl).mono (by omega) (by omega))
          · walk_at "go"
            exact k' _ ((g_tup (gl_rev hgl)).mono (by omega) (by omega))
          · walk_at "go"
            exact k' _ ((g_tup (gl_cons hg gl_nil (by simp))).mono (by omega) (by omega))
          · walk_at "go"
            exact k' _ ((g_tup g2).mono (by omega) (by omega))
        walk_at "go"
        have tl2 : (l.take j).length + 1 + (l.drop (j + 1)).length ≤ 2000 := by rw [List.length_take, List.length_drop]; omega
        have tl3 : (l.take j).length ≤ 2000 := by rw [List.length_take]; omega
        have hit : l[(j : Int).toNat]? = some l[j] := by simp [hj]
        refine KAB_by (fun hc => ?_) fun hc => ?_
        · walk_at "go"
          refine SI_by (fun he => ?_) fun he => ?_
          · wp_walk using cl, ch
            walk_at "go"
            refine at_eq a0 hit ?_
            walk_at "go"
            have gi : G (wD l[j]) p' l[j] := by
              have := gl_mem hgl (List.getElem_mem hj)
              exact ⟨this.1, Nat.le_refl _, this.2.2⟩
            have gw : wD l[j] ≤ w := (gl_mem hgl (List.getElem_mem hj)).2.1
            refine s_bent fuel h2 (by omega) gi (by omega) (by omega) fun x q3 gx h3 => ?_
            wp_walk using cl, ch
            walk_at "go"
            exact k _ _ ((g_tup (p := p' + 2) (gl_put (hgl.mono (Nat.le_refl _) (by omega)) hj gx)).mono (by omega) (by omega)) (h3.mono (by omega))
          · wp_walk using cl, ch
            walk_at "go"
            refine s_take h2 (by omega) (by omega) (by omega) fun r q3 r0 r1 h3 => ?_
            wp_walk using cl, ch
            walk_at "go"
            refine at_any r0 (by rw [odd_len]; omega) fun x hx _ => ?_
            wp_walk using cl, ch
            walk_at "go"
            exact k _ _ ((g_tup (p := p' + 2) (gl_put (hgl.mono (Nat.le_refl _) (by omega)) hj ((odd_ok x hx).mono (Nat.le_refl _) (by omega)))).mono (by omega) (by omega)) (h3.mono (by omega))
        · wp_walk using cl, ch
          walk_at "go"
          refine s_take h2 (by omega) (by omega) (by omega) fun r q3 r0 r1 h3 => ?_
          wp_walk using cl, ch
          walk_at "go"
          refine at_any r0 (by rw [odd_len]; omega) fun x hx _ => ?_
          wp_walk using cl, ch
          walk_at "go"
          exact k _ _ ((g_tup (p := p' + 2) (gl_put (hgl.mono (Nat.le_refl _) (by omega)) hj ((odd_ok x hx).mono (Nat.le_refl _) (by omega)))).mono (by omega) (by omega)) (h3.mono (by omega))
    | _ =>
      have := other (by simp) (by simp)
      unfold fn_law_bent g_law_bent at this
      rw [W_run] at this
      exact this
end FD
end
section
set_option Elab.async false
set_option linter.all false
set_option maxRecDepth 100000
set_option maxHeartbeats 4000000
namespace FD
open PySem L2
def bo (q : Bo) : EV := .own (.lst [.int q.a, .int q.b, .int q.c])
theorem bo_sl {q : Bo} : (bo q).sl = bx q := rfl
theorem bo_eq {a b c : Int} : EV.own (.lst [.int a, .int b, .int c]) = bo ⟨a, b, c⟩ := rfl
theorem s_right {t : D} {lo hi : Int} {Q : EV → Dv → Prop} {E : EC} (h : Top t) (hs : Shows t) (k : Q (.d (.bl true)) [.d t, .d (.int lo), .d (.int hi)]) : W (fn_law_right [.d t, .d (.int lo), .d (.int hi)]) Q E := W.by (right_ok h hs lo hi) k
theorem G.top {w p : Nat} {d : D} (h : G w p d) (hw : w ≤ 2000) (hp : p ≤ 50) : Top d ∧ Shows d := ⟨.of h.1, h.1.shows (Nat.le_trans h.2.1 hw) (Nat.le_trans h.2.2 hp)⟩
theorem len_ti : (Str.ofString "~").length = 1 := by decide +kernel
local macro_rules | `(tactic| walk_at "ev") => `(tactic| simp only [W_ok, W_no, WS_ok, WS_no, VQ_some, LV_d, LF_d, LF_o, LW_d, LW_o, W_fC, W_fV, W_fVF, W_fVW, toD_l, toD_c, eD_d, eD_o, sl_d, sl_o, W_fD, R_KD, W_fX, R_KX, W_f1, R_K1, W_f2, R_K2, R_K2b, W_fN, R_KN, W_fW, R_KW, W_fNil, W_fCons, R_KC, R_KCb, W_fB, R_KB, W_fBv, R_KBv, W_fNotB, R_KNB, W_fAndB, R_KABt, R_KABf, W_fOrB, R_KOBt, R_KOBf, W_fAnd, R_KAt, R_KAf, W_fOr, R_KOt, R_KOf, W_fIf, R_KIt, R_KIf, W_fIsN, R_KIN, W_fNotN, R_KNN, W_fChain, R_KH1, R_KH2, R_KH3t, R_KH3f, W_fM1, R_KM1, R_KM1b, W_fIxN, R_IxAd, R_IxAo, R_KIx, R_IxBo, R_IxBd, W_fMt, R_MtA, R_KMt, R_MtB, R_MtC, W_fSl, R_KSl1, R_KSl2, R_KSl3, W_oNone, W_oSome, R_KOs, W_fItems, R_KItl, R_KIts, W_fItemsT, R_KItT, W_fSigns, R_KSg, W_fRng1, R_KR1, W_aNil, W_aCons, R_KAc, R_KAb, R_KAi, W_aBor, R_ABd, R_ABo, W_fCall, R_KCl, R_KP, R_pb0, R_pbd, R_pbb, keep_o, keep_d, R_asd, R_asb, R_bi0, R_bid, R_bib, R_RPr, R_RPn, WS_nil, WS_seq, R_SQn, R_SQr, R_SQb, R_SQc, WS_set, R_KS, WS_ret, R_KRt, WS_expr, R_KEx, WS_if, R_SIt, R_SIf, WS_for, WS_par, R_KPar, R_KPa, WS_asg, R_KAs, AsQ_some, R_gNm, R_gTp, R_gS0, R_gS1, WS_rz, R_KRz, WS_star, R_KSt, WS_setIx, R_KSx, R_SxA, R_KSx2, R_SxB, WS_try, R_TyE, R_LPn, R_LPc, R_LPb, R_LPr, W_fLcE, R_KLbt, R_KLbf, R_KLt, W_fYes, q_bxA, q_bxK, q_addI, q_addS, q_addL, q_addT, q_subI, q_mulI, q_mulS, q_mulL, q_mod, q_div, q_pow, q_neg, q_not, q_lt, q_le, q_gt, q_ge, q_eqI, q_neI, q_eqS, q_neS, q_eqB, q_neB, q_eqTn, q_eqLn, q_inSg, q_ninSg, q_ixL, q_ixT, q_ixR, q_ixS, R_KCh, q_at0, q_at1, q_at2, q_lenS, q_lenT, q_lenL, q_lenR, q_max2, q_min2, q_min2E, q_max2E, q_abs, q_intI, q_intB, q_strS, q_ordc, q_tup, q_lst, q_listT, q_listL, q_tupT, q_tupL, q_slS, q_slL, q_slR, q_slT, q_revT, q_dct0, q_mkv, q_app', W_isT2, isN_n, isN_b, isN_i, isN_s, isN_t, isN_l, sets_nil, sets_cons, W_fFld, R_LFl, R_lk, R_hush, R_hush0, R_hushd, R_husho, R_hushn, R_hushb, R_finr, R_finn, R_finb, R_finc, Nat.reduceLT, Nat.reduceSub, Nat.reduceAdd, Nat.reduceLeDiff, Nat.reduceMul, if_true, if_false, List.map_cons, List.map_nil, List.length_cons, List.length_nil, List.getElem?_cons_zero, List.getElem?_cons_succ, List.set_cons_zero, List.set_cons_succ, Option.getD_some, List.nodup_cons, List.nodup_nil, List.not_mem_nil, List.mem_cons, List.mem_singleton, not_false_eq_true, true_and, and_true, and_self, Bool.not_true, Bool.not_false, decide_true, decide_false, List.take_succ_cons, List.take_zero, List.cons_append, List.nil_append, List.replicate_succ, List.replicate_zero, slOf, wipeD, backD, List.foldr_cons, List.foldr_nil, eq_self_iff_true, or_false, false_or, ite_true, ite_false, reduceIte, Int.reduceNeg, Int.reduceLT, Int.reduceLE, Int.reduceAdd, Int.reduceSub, Int.reduceMul, reduceCtorEq, not_true_eq_false, Nat.lt_irrefl, Nat.not_lt_zero, Nat.le_refl, List.getElem?_nil, Int.reduceToNat, true_or, or_true, List.isEmpty_nil, List.isEmpty_cons, Int.toNat_natCast, lim_eq, bo_sl])
local macro_rules | `(tactic| wp_walk using $[$ts:term],*) => `(tactic| simp only [W_ok, W_no, WS_ok, WS_no, VQ_some, LV_d, LF_d, LF_o, LW_d, LW_o, W_fC, W_fV, W_fVF, W_fVW, toD_l, toD_c, eD_d, eD_o, sl_d, sl_o, W_fD, R_KD, W_fX, R_KX, W_f1, R_K1, W_f2, R_K2, R_K2b, W_fN, R_KN, W_fW, R_KW, W_fNil, W_fCons, R_KC, R_KCb, W_fB, R_KB, W_fBv, R_KBv, W_fNotB, R_KNB, W_fAndB, R_KABt, R_KABf, W_fOrB, R_KOBt, R_KOBf, W_fAnd, R_KAt, R_KAf, W_fOr, R_KOt, R_KOf, W_fIf, R_KIt, R_KIf, W_fIsN, R_KIN, W_fNotN, R_KNN, W_fChain, R_KH1, R_KH2, R_KH3t, R_KH3f, W_fM1, R_KM1, R_KM1b, W_fIxN, R_IxAd, R_IxAo, R_KIx, R_IxBo, R_IxBd, W_fMt, R_MtA, R_KMt, R_MtB, R_MtC, W_fSl, R_KSl1, R_KSl2, R_KSl3, W_oNone, W_oSome, R_KOs, W_fItems, R_KItl, R_KIts, W_fItemsT, R_KItT, W_fSigns, R_KSg, W_fRng1, R_KR1, W_aNil, W_aCons, R_KAc, R_KAb, R_KAi, W_aBor, R_ABd, R_ABo, W_fCall, R_KCl, R_KP, R_pb0, R_pbd, R_pbb, keep_o, keep_d, R_asd, R_asb, R_bi0, R_bid, R_bib, R_RPr, R_RPn, WS_nil, WS_seq, R_SQn, R_SQr, R_SQb, R_SQc, WS_set, R_KS, WS_ret, R_KRt, WS_expr, R_KEx, WS_if, R_SIt, R_SIf, WS_for, WS_par, R_KPar, R_KPa, WS_asg, R_KAs, AsQ_some, R_gNm, R_gTp, R_gS0, R_gS1, WS_rz, R_KRz, WS_star, R_KSt, WS_setIx, R_KSx, R_SxA, R_KSx2, R_SxB, WS_try, R_TyE, R_LPn, R_LPc, R_LPb, R_LPr, W_fLcE, R_KLbt, R_KLbf, R_KLt, W_fYes, q_bxA, q_bxK, q_addI, q_addS, q_addL, q_addT, q_subI, q_mulI, q_mulS, q_mulL, q_mod, q_div, q_pow, q_neg, q_not, q_lt, q_le, q_gt, q_ge, q_eqI, q_neI, q_eqS, q_neS, q_eqB, q_neB, q_eqTn, q_eqLn, q_inSg, q_ninSg, q_ixL, q_ixT, q_ixR, q_ixS, R_KCh, q_at0, q_at1, q_at2, q_lenS, q_lenT, q_lenL, q_lenR, q_max2, q_min2, q_min2E, q_max2E, q_abs, q_intI, q_intB, q_strS, q_ordc, q_tup, q_lst, q_listT, q_listL, q_tupT, q_tupL, q_slS, q_slL, q_slR, q_slT, q_revT, q_dct0, q_mkv, q_app', W_isT2, isN_n, isN_b, isN_i, isN_s, isN_t, isN_l, sets_nil, sets_cons, W_fFld, R_LFl, R_lk, R_hush, R_hush0, R_hushd, R_husho, R_hushn, R_hushb, R_finr, R_finn, R_finb, R_finc, Nat.reduceLT, Nat.reduceSub, Nat.reduceAdd, Nat.reduceLeDiff, Nat.reduceMul, if_true, if_false, List.map_cons, List.map_nil, List.length_cons, List.length_nil, List.getElem?_cons_zero, List.getElem?_cons_succ, List.set_cons_zero, List.set_cons_succ, Option.getD_some, List.nodup_cons, List.nodup_nil, List.not_mem_nil, List.mem_cons, List.mem_singleton, not_false_eq_true, true_and, and_true, and_self, Bool.not_true, Bool.not_false, decide_true, decide_false, List.take_succ_cons, List.take_zero, List.cons_append, List.nil_append, List.replicate_succ, List.replicate_zero, slOf, wipeD, backD, List.foldr_cons, List.foldr_nil, eq_self_iff_true, or_false, false_or, ite_true, ite_false, reduceIte, Int.reduceNeg, Int.reduceLT, Int.reduceLE, Int.reduceAdd, Int.reduceSub, Int.reduceMul, reduceCtorEq, not_true_eq_false, Nat.lt_irrefl, Nat.not_lt_zero, Nat.le_refl, List.getElem?_nil, Int.reduceToNat, true_or, or_true, List.isEmpty_nil, List.isEmpty_cons, Int.toNat_natCast, lim_eq, bo_sl, $[$ts:term],*])
local macro_rules | `(tactic| walk_at "sd") => `(tactic| first | omega | (simp only [len_app, len_one, abc_len, len_rng, rep_len', len_ti, Int.reduceToNat, List.length_append, List.length_cons, List.length_nil, List.length_replicate]; omega) | decide +kernel)
local macro_rules | `(tactic| walk_at "go") => `(tactic| ((try walk_at "ev"); repeat (with_reducible refine And.intro (by walk_at "sd") ?_; try walk_at "ev")))
theorem s_word {n : Nat} {q : Bo} {Q : EV → Dv → Prop} {E : EC} (h : Bok n q) (hn : n ≤ 900000) (k : ∀ t q', Small 40 (.str t) → Bok (n + 41) q' → Q (.d (.str t)) [bx q', .d (.int 40)]) : W (fn_law_word [bx q, .d (.int 40)]) Q E := by
  obtain ⟨t, s', e, h1, h2, h3⟩ := word_ok h.bx hn
  obtain ⟨q', rfl, h4⟩ := h3.bo
  exact W.by e (k t q' ⟨_, rfl, h1, h2⟩ h4)
theorem s_cell {ns : List Int} {j : Nat} {Q : EV → Dv → Prop} {E : EC} (k : ∀ i, Q (.d (.int i)) [.d (.scr (ns.map D.int)), .d (.int j)]) : W (fn_law_cell [.d (.scr (ns.map D.int)), .d (.int j)]) Q E := by
  unfold fn_law_cell g_law_cell
  rw [W_run]
  walk_at "go"
  refine SI_by (fun hb => ?_) fun hb => ?_
  · have hj : j < ns.length := by simpa using hb
    walk_at "go"
    refine at_eq (x := .int ns[j]) (by omega) (by simp [hj]) ?_
    walk_at "go"
    exact k _
  · walk_at "go"
    exact k _
theorem s_cell2 {ns : List Int} {j : Nat} {Q : EV → Dv → Prop} {E : EC} (k : ∀ i, Q (.d (.int i)) [.d (.scr (ns.map D.int)), .d (.int j)]) : W (fn_law_cell_two [.d (.scr (ns.map D.int)), .d (.int j)]) Q E := by
  unfold fn_law_cell_two g_law_cell_two
  rw [W_run]
  walk_at "go"
  refine SI_by (fun hb => ?_) fun hb => ?_
  · have hj : j < ns.length := by simpa using hb
    walk_at "go"
    refine at_eq (x := .int ns[j]) (by omega) (by simp [hj]) ?_
    walk_at "go"
    exact k _
  · walk_at "go"
    exact k _
theorem s_box {i : Int} {Q : EV → Dv → Prop} {E : EC} (k : ∀ q, Bok 0 q → Q (bo q) [.d (.int i)]) : W (fn_law_box [.d (.int i)]) Q E := by
  unfold fn_law_box g_law_box
  rw [W_run]
  walk_at "go"
  rw [bo_eq]
  refine k _ ⟨?_, Int.emod_nonneg _ (by omega), ?_, by simp, by simp⟩
  · dsimp only; split <;> omega
  · have := Int.emod_lt_of_pos i (show (0 : Int) < 2147483629 by omega)
    dsimp only; omega
theorem isT2_of {d : D} (h : Top d) : ∃ b, vIsT2 ["str", "tuple"] d = some (.bl b) ∧ (b = true → (∃ s, d = .str s) ∨ ∃ l, d = .tup l) := by
  have k1 : kitAnyB "NoneType" ["str", "tuple"] = some false := by decide +kernel
  have k2 : kitAnyB "bool" ["str", "tuple"] = some false := by decide +kernel
  have k3 : kitAnyB "int" ["str", "tuple"] = some false := by decide +kernel
  have k4 : kitAnyB "str" ["str", "tuple"] = some true := by decide +kernel
  have k5 : kitAnyB "tuple" ["str", "tuple"] = some true := by decide +kernel
  have k6 : kitAnyB "list" ["str", "tuple"] = some false := by decide +kernel
  have k7 : kitAnyB "dict" ["str", "tuple"] = some false := by decide +kernel
  rcases h with h | ⟨nm, l, rfl⟩
  · cases h with
    | non => exact ⟨false, by simp [vIsT2, vIsT, tyNm, k1], fun h => by cases h⟩
    | bl b => exact ⟨false, by simp [vIsT2, vIsT, tyNm, k2], fun h => by cases h⟩
    | int b => exact ⟨false, by simp [vIsT2, vIsT, tyNm, k3], fun h => by cases h⟩
    | str s => exact ⟨true, by simp [vIsT2, vIsT, tyNm, k4], fun _ => .inl ⟨_, rfl⟩⟩
    | tup s => exact ⟨true, by simp [vIsT2, vIsT, tyNm, k5], fun _ => .inr ⟨_, rfl⟩⟩
    | lst b => exact ⟨false, by simp [vIsT2, vIsT, tyNm, k6], fun h => by cases h⟩
    | dct => exact ⟨false, by simp [vIsT2, vIsT, tyNm, k7], fun h => by cases h⟩
  · refine ⟨false, ?_, fun h => by cases h⟩
    simp [vIsT2, isiNames]
/-- the law's things -/
def Item (d : D) : Prop := (Top d ∧ Shows d) ∧ (((∃ s, d = .str s) ∨ ∃ l, d = .tup l) → G 300 2 d)
theorem G.item {w p : Nat} {d : D} (h : G w p d) (hw : w ≤ 300) (hp : p ≤ 2) : Item d := ⟨h.top (by omega) (by omega), fun _ => h.mono hw hp⟩
theorem s_first {ns : List Int} (hn : ns.length ≤ 63) {Q : EV → Dv → Prop} {E : EC} (k : Q (.d (.bl true)) [.d (.scr (ns.map D.int))]) : W (fn_law_first [.d (.scr (ns.map D.int))]) Q E := by
  unfold fn_law_first g_law_first
  rw [W_run]
  walk_at "go"
  refine KFo_nm (fun l δ => (∃ s1 s2 s3 s4 s5 s6 s7, δ = [.d (.scr (ns.map D.int)), s1, s2, s3, s4, s5, s6, s7]) ∧ ∀ x ∈ l, ∃ j : Nat, x = .int j) ⟨⟨_, _, _, _, _, _, _, rfl⟩, fun x hx => let ⟨j, _, e⟩ := mem_rng hx; ⟨j, e⟩⟩ ?_ ?_
  · rintro x l δ ⟨⟨s1, s2, s3, s4, s5, s6, s7, rfl⟩, hl⟩
    obtain ⟨j, rfl⟩ := hl x (List.mem_cons_self ..)
    have hl' : ∀ x ∈ l, ∃ j : Nat, x = .int j := fun y hy => hl y (List.mem_cons_of_mem _ hy)
    walk_at "go"
    refine s_cell fun i => ?_
    walk_at "go"
    refine s_box fun q h => ?_
    walk_at "go"
    refine s_take h (by omega) (by omega) (by omega) fun r1 q1 a1 b1 h1 => ?_
    walk_at "go"
    refine s_take h1 (by omega) (by omega) (by omega) fun r2 q2 a2 b2 h2 => ?_
    walk_at "go"
    refine s_take h2 (by omega) (by omega) (by omega) fun r3 q3 a3 b3 h3 => ?_
    walk_at "go"
    refine at_any a3 (by simpa using b3) fun x hx _ => ?_
    obtain ⟨hi, rfl, c1, c2⟩ := ints_in (lo := -10) (hi := 100000000000000000000000000000) hx (by
      simp only [mem_ints, List.not_mem_nil, false_imp_iff, implies_true, and_true]
      refine ⟨⟨_, rfl, ?_, ?_⟩, ⟨_, rfl, ?_, ?_⟩⟩ <;> first | omega | decide)
    walk_at "go"
    refine s_kind h3 (by omega) fun z1 q4 hz1 _ h4 => ?_
    walk_at "go"
    refine s_name h4 (by omega) fun n1 q5 hn1 h5 => ?_
    walk_at "go"
    refine s_word h5 (by omega) fun w1 q6 hw1 h6 => ?_
    walk_at "go"
    refine s_names h6 (by omega) (by omega) (by omega) fun m1 q7 hm1 hm2 h7 => ?_
    walk_at "go"
    refine s_kind h7 (by omega) fun z2 q8 hz2 _ h8 => ?_
    walk_at "go"
    refine KFo_up (fun s : Bo × Sl × Sl => [(2, bx s.1), (4, s.2.1), (7, s.2.2)]) (fun k s => Bok (300 + 200 * k) s.1) (q8, s4, s7) rfl (h8.mono (by omega)) ?_ ?_
    · rintro x k' ⟨q, t4, t7⟩ hx hk
      have hk8 : k' < 19 := (List.getElem?_eq_some_iff.mp hx).1
      have hxm := List.mem_of_getElem? hx
      have it : Item x := by
        have gz1 := (hz1.item (by omega) (by omega))
        have gz2 := (g_lst (p := 2) (gl_cons hz2 gl_nil (by simp))).top (by omega) (by omega)
        have hti : ∀ n : Int, 0 ≤ n → n ≤ 41 → Small 41 (.str (repS (Str.ofString "~") n)) := fun n h0 h1 => ⟨_, rfl, by rw [rep_len', len_ti]; omega, fun c hc => by
          have all : ∀ c ∈ cs (Str.ofString "~"), c < 1000 := by decide +kernel
          exact all c (rep_mem hc)⟩
        have gi : ∀ i : Int, -1000 ≤ i → i ≤ 100000000000000000000000000001 → Item (.int i) := fun i _ _ => (g_int (p := 0) (by omega)).item (by omega) (by omega)
        have gs : ∀ (n : Nat) (s : Str), Small n (.str s) → n ≤ 41 → Item (.str s) := fun n s h hn => (g_small (p := 0) h (by omega)).item (by omega) (by omega)
        clear hx hk
        simp only [List.mem_cons, List.not_mem_nil, or_false] at hxm
        rcases hxm with rfl | rfl | rfl | rfl | rfl | rfl | rfl | rfl | rfl | rfl | rfl | rfl | rfl | rfl | rfl | rfl | rfl | rfl | rfl
        · exact gz1
        · exact gs _ _ hn1.small (by omega)
        · exact gs _ _ hw1 (by omega)
        · refine ((g_lst (p := 0) (gl_all (fun d hd => g_small (hm2 d hd) (by omega)) (by omega)))).item ?_ (by omega)
          have : (9 + 1) * m1.length ≤ 80 := by omega
          omega
        · exact gs _ _ (hti 40 (by omega) (by omega)) (by omega)
        · exact gs _ _ (hti 41 (by omega) (by omega)) (by omega)
        · exact gi _ (by omega) (by omega)
        · exact gi _ (by omega) (by omega)
        · exact gi _ (by omega) (by omega)
        · exact gi _ (by omega) (by omega)
        · exact (g_bl (p := 0)).item (by omega) (by omega)
        · exact (g_bl (p := 0)).item (by omega) (by omega)
        · exact (g_non (p := 0)).item (by omega) (by omega)
        · exact (g_tup (p := 0) gl_nil).item (by omega) (by omega)
        · exact (g_dct (p := 0)).item (by omega) (by omega)
        · exact ⟨gz2, fun h => by rcases h with ⟨_, h⟩ | ⟨_, h⟩ <;> cases h⟩
        · exact ⟨⟨nokind_top, nokind_shows⟩, fun h => by rcases h with ⟨_, h⟩ | ⟨_, h⟩ <;> cases h⟩
        · have s := lit_small (s := Str.ofString "name") 4 (by decide +kernel)
          exact (g_tup (p := 0) (gl_cons (g_small s (by omega)) (gl_cons (g_small s (by omega)) gl_nil (by simp)) (by simp))).item (by omega) (by omega)
        · exact gs 8 _ (lit_small 8 (by decide +kernel)) (by omega)
      clear hx hxm
      obtain ⟨⟨it1, it2⟩, it3⟩ := it
      dsimp only at hk
      walk_at "go"
      refine s_right it1 it2 ?_
      walk_at "go"
      obtain ⟨b, eb, hb⟩ := isT2_of it1
      wp_walk using eb
      refine SI_by (fun he => ?_) fun he => ?_
      · have gx := it3 (hb he)
        walk_at "go"
        refine s_bent 8 hk (by omega) gx (by omega) (by omega) fun y q1 gy h1 => ?_
        have ty := gy.top (by omega) (by omega)
        walk_at "go"
        refine s_right ty.1 ty.2 ?_
        walk_at "go"
        refine s_bent 8 h1 (by omega) gy (by omega) (by omega) fun z q2 gz h2 => ?_
        have tz := gz.top (by omega) (by omega)
        walk_at "go"
        refine s_right tz.1 tz.2 ?_
        walk_at "go"
        exact ⟨(q2, _, _), rfl, h2.mono (by omega)⟩
      · walk_at "go"
        exact ⟨(q, _, _), rfl, hk.mono (by omega)⟩
    · rintro ⟨q, t4, t7⟩ hk
      walk_at "go"
      exact ⟨⟨_, _, _, _, _, _, _, rfl⟩, hl'⟩
  · rintro δ ⟨⟨s1, s2, s3, s4, s5, s6, s7, rfl⟩, _⟩
    walk_at "go"
    exact k
end FD
end
section
set_option Elab.async false
set_option linter.all false
set_option maxRecDepth 100000
set_option maxHeartbeats 4000000
namespace FD
open PySem L2 PySem.NumText
/-- a number's figures -/
def figs (n : Nat) : List Nat := (Nat.toDigits 10 n).map Char.toNat
theorem chr_of (d : Nat) (h : d < 10) : (Nat.digitChar d).toNat = 48 + d := by
  have : ∀ d : Nat, d < 10 → (Nat.digitChar d).toNat = 48 + d := by decide
  exact this d h
theorem figs_lt {n : Nat} (h : n < 10) : figs n = [48 + n] := by
  unfold figs
  rw [Nat.toDigits_of_lt_base h]
  show [(Nat.digitChar n).toNat] = _
  rw [chr_of n h]
theorem figs_ge {n : Nat} (h : 10 ≤ n) : figs n = figs (n / 10) ++ [48 + n % 10] := by
  have hm : n % 10 < 10 := Nat.mod_lt n (by decide)
  have t : Nat.toDigits 10 (n / 10) ++ Nat.toDigits 10 (n % 10) = Nat.toDigits 10 (10 * (n / 10) + n % 10) := Nat.toDigits_append_toDigits (by decide) (by omega) hm
  rw [Nat.div_add_mod] at t
  have := figs_lt hm
  unfold figs at this ⊢
  rw [← t, List.map_append, this]
theorem figs_val (n : Nat) : digitsVal (figs n) = n := PySem.W.KIN.val_back n
theorem figs_all (n : Nat) : AllDigits (figs n) := by
  induction n using Nat.strongRecOn with
  | _ n ih =>
    by_cases h : n < 10
    · rw [figs_lt h]
      intro c hc
      rw [List.mem_singleton] at hc
      omega
    · rw [figs_ge (by omega)]
      intro c hc
      rcases List.mem_append.mp hc with hc | hc
      · exact ih (n / 10) (by omega) c hc
      · rw [List.mem_singleton] at hc
        omega
theorem figs_head (n : Nat) : ∃ c r, figs n = c :: r ∧ (n ≠ 0 → 49 ≤ c) ∧ (n = 0 → figs n = [48]) := by
  induction n using Nat.strongRecOn with
  | _ n ih =>
    by_cases h : n < 10
    · exact ⟨48 + n, [], figs_lt h, fun _ => by omega, fun h0 => by rw [figs_lt h, h0]⟩
    · obtain ⟨c, r, e, h1, _⟩ := ih (n / 10) (by omega)
      exact ⟨c, r ++ [48 + n % 10], by rw [figs_ge (by omega), e]; rfl, fun _ => h1 (by omega), fun h0 => by omega⟩
theorem figs_len {n k : Nat} (h : n < 10 ^ k) (hk : 0 < k) : (figs n).length ≤ k := by
  induction k generalizing n with
  | zero => omega
  | succ k ih =>
    by_cases h1 : n < 10
    · rw [figs_lt h1]; simp
    · rw [figs_ge (by omega), List.length_append]
      have : n / 10 < 10 ^ k := by rw [Nat.pow_succ] at h; omega
      by_cases hk0 : k = 0
      · subst hk0; simp at h; omega
      · have := ih this (by omega)
        simp only [List.length_cons, List.length_nil]; omega
/-- the plain word of a number -/
def numS (i : Int) : Str := Str.ofString (toString i)
def numL (i : Int) : List Nat := (if i < 0 then [45] else []) ++ figs i.natAbs
theorem cs_numS (i : Int) : cs (numS i) = numL i := by
  unfold numL numS
  cases i with
  | ofNat m =>
    rw [if_neg (show ¬ Int.ofNat m < 0 from Int.not_lt.mpr (Int.natCast_nonneg m))]
    exact PySem.W.KIN.signs_num m
  | negSucc m =>
    rw [if_pos (Int.negSucc_lt_zero m)]
    show (Str.ofString (toString (Int.negSucc m))).cps.toList = _
    rw [PyProof.Rows.signs_ofString]
    show (("-" ++ Nat.repr (m + 1)).toList.map Char.toNat) = _
    rw [String.toList_append, List.map_append, Nat.toList_repr]
    rfl
/-- what a text plainly writes -/
def numD (l : List Nat) : D :=
  let f := if l.head? = some 45 then l.tail else l
  if f = [] then .non else if f.all (fun c => decide (48 ≤ c ∧ c ≤ 57)) = false then .non else if f.head? = some 48 ∧ l ≠ [48] then .non else .int (if l.head? = some 45 then -(digitsVal f : Int) else (digitsVal f : Int))
theorem all_of {l : List Nat} (h : AllDigits l) : (l.all fun c => decide (48 ≤ c ∧ c ≤ 57)) = true := by
  rw [List.all_eq_true]
  exact fun c hc => by simpa using h c hc
theorem numD_num (i : Int) : numD (numL i) = .int i := by
  obtain ⟨c, r, e, h1, h2⟩ := figs_head i.natAbs
  have ha := all_of (figs_all i.natAbs)
  have hv := figs_val i.natAbs
  unfold numD numL
  by_cases hi : i < 0
  · simp only [if_pos hi, List.cons_append, List.nil_append, List.head?_cons, if_true, List.tail_cons]
    rw [if_neg (by rw [e]; simp), ha, if_neg (by simp), if_neg, hv]
    · congr 1; omega
    · rintro ⟨h3, _⟩
      rw [e] at h3
      simp only [List.head?_cons, Option.some.injEq] at h3
      have := h1 (by omega)
      omega
  · simp only [if_neg hi, List.nil_append]
    have hc := figs_all i.natAbs c (by rw [e]; simp)
    have hh : (figs i.natAbs).head? ≠ some 45 := by rw [e]; simp; omega
    simp only [if_neg hh]
    rw [if_neg (by rw [e]; simp), ha, if_neg (by simp), if_neg, hv]
    · congr 1; omega
    · rintro ⟨h3, h4⟩
      by_cases h0 : i.natAbs = 0
      · exact h4 (h2 h0)
      · rw [e] at h3
        simp only [List.head?_cons, Option.some.injEq] at h3
        have := h1 h0
        omega
theorem digitsVal_lt : ∀ {l : List Nat}, AllDigits l → digitsVal l < 10 ^ l.length := by
  intro l
  have go : ∀ (l : List Nat) (a k : Nat), AllDigits l → a < 10 ^ k → l.foldl (fun acc c => acc * 10 + (c - 48)) a < 10 ^ (k + l.length) := fun l => by
    induction l with
    | nil => intro a k _ h; simpa using h
    | cons c l ih =>
      intro a k h ha
      have hc := h.head
      have := ih (a * 10 + (c - 48)) (k + 1) h.tail (by rw [Nat.pow_succ]; omega)
      rw [List.length_cons, show k + (l.length + 1) = k + 1 + l.length by omega]
      exact this
  intro h
  have := go l 0 0 h (by simp)
  rw [Nat.zero_add] at this
  exact this
/-- .. shows -/
theorem numD_shows {l : List Nat} (h : l.length ≤ 41) : Shows (numD l) ∧ Top (numD l) := by
  have key : ∀ i : Int, i.natAbs < 1000000000000000000000000000000000000000000 → Shows (.int i) ∧ Top (.int i) := fun i hi => by
    have := (g_int (p := 0) hi).top (by omega) (by omega)
    exact ⟨this.2, this.1⟩
  have non : Shows .non ∧ Top .non := by
    have := (g_non (p := 0)).top (by omega) (by omega)
    exact ⟨this.2, this.1⟩
  unfold numD
  dsimp only
  generalize hf : (if l.head? = some 45 then l.tail else l) = f
  have hfl : f.length ≤ 41 := by
    rw [← hf]; split
    · rw [List.length_tail]; omega
    · exact h
  split
  · exact non
  · split
    · exact non
    · rename_i ha
      have had : AllDigits f := fun c hc => by
        have ha' : (f.all fun c => decide (48 ≤ c ∧ c ≤ 57)) = true := by simpa using ha
        simpa using List.all_eq_true.mp ha' c hc
      have hlt := digitsVal_lt had
      have hle : (10 : Nat) ^ f.length ≤ 10 ^ 41 := Nat.pow_le_pow_right (by omega) hfl
      have h41 : (10 : Nat) ^ 41 < 1000000000000000000000000000000000000000000 := by decide
      split
      · exact non
      · refine key _ ?_
        split <;> omega
end FD
end
section
set_option Elab.async false
set_option linter.all false
set_option maxRecDepth 100000
set_option maxHeartbeats 4000000
namespace FD
open PySem L2 PySem.NumText
theorem sg_lit {t : String} {a : Nat} (h : (Str.ofString t).cps = #[a]) (c : Nat) : decide ((⟨#[c]⟩ : Str) = Str.ofString t) = decide (c = a) := by
  have : ((⟨#[c]⟩ : Str) = Str.ofString t) ↔ c = a := by
    constructor
    · intro e
      have : #[c] = #[a] := by rw [← h, ← e]
      simpa using this
    · rintro rfl
      rw [← h]
  simp [this]
theorem lit_minus : (Str.ofString "-").cps = #[45] := by decide +kernel
theorem lit_zero : (Str.ofString "0").cps = #[48] := by decide +kernel
theorem lit_nil : (Str.ofString "").cps = #[] := by decide +kernel
theorem eq_nil_of (s : Str) : decide (s = Str.ofString "") = decide (cs s = []) := by
  have : (s = Str.ofString "") ↔ cs s = [] := by
    constructor
    · rintro rfl; unfold cs; rw [lit_nil]
    · intro h; apply str_ext; rw [h]; unfold cs; rw [lit_nil]
  simp [this]
theorem eq_zero_of (s : Str) : decide (s = Str.ofString "0") = decide (cs s = [48]) := by
  have : (s = Str.ofString "0") ↔ cs s = [48] := by
    constructor
    · rintro rfl; unfold cs; rw [lit_zero]
    · intro h; apply str_ext; rw [h]; unfold cs; rw [lit_zero]
  simp [this]
theorem eq_minus_of (s : Str) : decide (s = Str.ofString "-") = decide (cs s = [45]) := by
  have : (s = Str.ofString "-") ↔ cs s = [45] := by
    constructor
    · rintro rfl; unfold cs; rw [lit_minus]
    · intro h; apply str_ext; rw [h]; unfold cs; rw [lit_minus]
  simp [this]
def FigL : Str := Str.ofString "0123456789"
theorem fig_cs : cs FigL = [48, 49, 50, 51, 52, 53, 54, 55, 56, 57] := by decide +kernel
theorem fig_mem (c : Nat) : decide (c ∈ FigL.cps.toList) = decide (48 ≤ c ∧ c ≤ 57) := by
  have h : FigL.cps.toList = [48, 49, 50, 51, 52, 53, 54, 55, 56, 57] := fig_cs
  rw [h]
  have : c ∈ [48, 49, 50, 51, 52, 53, 54, 55, 56, 57] ↔ 48 ≤ c ∧ c ≤ 57 := by
    simp only [List.mem_cons, List.not_mem_nil, or_false]
    omega
  simp [this]
/-- a text without its minus -/
def figT (s : Str) : Str := if (cs s).head? = some 45 then cutS s (some 1) none else s
theorem cs_cut1 (s : Str) : cs (cutS s (some 1) none) = (cs s).tail := by
  unfold cutS; rw [cs_mk, show (some (1 : Int)) = some ((1 : Nat) : Int) from rfl, cut_lo, List.drop_one]; rfl
theorem cs_figT (s : Str) : cs (figT s) = if (cs s).head? = some 45 then (cs s).tail else cs s := by
  unfold figT
  split
  · exact cs_cut1 s
  · rfl
theorem figT_len (s : Str) : (figT s).length ≤ s.length := by
  unfold figT
  split
  · exact cutS_len _ _ _
  · exact Nat.le_refl _
theorem vAll_bls (l : List Nat) (p : Nat → Bool) : vAll [.lst (l.map fun c => D.bl (p c))] = some (.bl (l.all p)) := by
  simp [vAll, listOf, blsOf_mapF, all_id]
local macro_rules | `(tactic| walk_at "ev") => `(tactic| simp only [W_ok, W_no, WS_ok, WS_no, VQ_some, LV_d, LF_d, LF_o, LW_d, LW_o, W_fC, W_fV, W_fVF, W_fVW, toD_l, toD_c, eD_d, eD_o, sl_d, sl_o, W_fD, R_KD, W_fX, R_KX, W_f1, R_K1, W_f2, R_K2, R_K2b, W_fN, R_KN, W_fW, R_KW, W_fNil, W_fCons, R_KC, R_KCb, W_fB, R_KB, W_fBv, R_KBv, W_fNotB, R_KNB, W_fAndB, R_KABt, R_KABf, W_fOrB, R_KOBt, R_KOBf, W_fAnd, R_KAt, R_KAf, W_fOr, R_KOt, R_KOf, W_fIf, R_KIt, R_KIf, W_fIsN, R_KIN, W_fNotN, R_KNN, W_fChain, R_KH1, R_KH2, R_KH3t, R_KH3f, W_fM1, R_KM1, R_KM1b, W_fIxN, R_IxAd, R_IxAo, R_KIx, R_IxBo, R_IxBd, W_fMt, R_MtA, R_KMt, R_MtB, R_MtC, W_fSl, R_KSl1, R_KSl2, R_KSl3, W_oNone, W_oSome, R_KOs, W_fItems, R_KItl, R_KIts, W_fItemsT, R_KItT, W_fSigns, R_KSg, W_fRng1, R_KR1, W_aNil, W_aCons, R_KAc, R_KAb, R_KAi, W_aBor, R_ABd, R_ABo, W_fCall, R_KCl, R_KP, R_pb0, R_pbd, R_pbb, keep_o, keep_d, R_asd, R_asb, R_bi0, R_bid, R_bib, R_RPr, R_RPn, WS_nil, WS_seq, R_SQn, R_SQr, R_SQb, R_SQc, WS_set, R_KS, WS_ret, R_KRt, WS_expr, R_KEx, WS_if, R_SIt, R_SIf, WS_for, WS_par, R_KPar, R_KPa, WS_asg, R_KAs, AsQ_some, R_gNm, R_gTp, R_gS0, R_gS1, WS_rz, R_KRz, WS_star, R_KSt, WS_setIx, R_KSx, R_SxA, R_KSx2, R_SxB, WS_try, R_TyE, R_LPn, R_LPc, R_LPb, R_LPr, W_fLcE, R_KLbt, R_KLbf, R_KLt, W_fYes, q_bxA, q_bxK, q_addI, q_addS, q_addL, q_addT, q_subI, q_mulI, q_mulS, q_mulL, q_mod, q_div, q_pow, q_neg, q_not, q_lt, q_le, q_gt, q_ge, q_eqI, q_neI, q_eqS, q_neS, q_eqB, q_neB, q_eqTn, q_eqLn, q_inSg, q_ninSg, q_ixL, q_ixT, q_ixR, q_ixS, R_KCh, q_at0, q_at1, q_at2, q_lenS, q_lenT, q_lenL, q_lenR, q_max2, q_min2, q_min2E, q_max2E, q_abs, q_intI, q_intB, q_strS, q_ordc, q_tup, q_lst, q_listT, q_listL, q_tupT, q_tupL, q_slS, q_slL, q_slR, q_slT, q_revT, q_dct0, q_mkv, q_app', W_isT2, isN_n, isN_b, isN_i, isN_s, isN_t, isN_l, sets_nil, sets_cons, W_fFld, R_LFl, R_lk, R_hush, R_hush0, R_hushd, R_husho, R_hushn, R_hushb, R_finr, R_finn, R_finb, R_finc, Nat.reduceLT, Nat.reduceSub, Nat.reduceAdd, Nat.reduceLeDiff, Nat.reduceMul, if_true, if_false, List.map_cons, List.map_nil, List.length_cons, List.length_nil, List.getElem?_cons_zero, List.getElem?_cons_succ, List.set_cons_zero, List.set_cons_succ, Option.getD_some, List.nodup_cons, List.nodup_nil, List.not_mem_nil, List.mem_cons, List.mem_singleton, not_false_eq_true, true_and, and_true, and_self, Bool.not_true, Bool.not_false, decide_true, decide_false, List.take_succ_cons, List.take_zero, List.cons_append, List.nil_append, List.replicate_succ, List.replicate_zero, slOf, wipeD, backD, List.foldr_cons, List.foldr_nil, eq_self_iff_true, or_false, false_or, ite_true, ite_false, reduceIte, Int.reduceNeg, Int.reduceLT, Int.reduceLE, Int.reduceAdd, Int.reduceSub, Int.reduceMul, reduceCtorEq, not_true_eq_false, Nat.lt_irrefl, Nat.not_lt_zero, Nat.le_refl, List.getElem?_nil, Int.reduceToNat, true_or, or_true, List.isEmpty_nil, List.isEmpty_cons, Int.toNat_natCast, lim_eq, isi_str_str, isi_str_int, isi_str_bool, isi_int_int, isi_int_bool, isi_int_str])
local macro_rules | `(tactic| wp_walk using $[$ts:term],*) => `(tactic| simp only [W_ok, W_no, WS_ok, WS_no, VQ_some, LV_d, LF_d, LF_o, LW_d, LW_o, W_fC, W_fV, W_fVF, W_fVW, toD_l, toD_c, eD_d, eD_o, sl_d, sl_o, W_fD, R_KD, W_fX, R_KX, W_f1, R_K1, W_f2, R_K2, R_K2b, W_fN, R_KN, W_fW, R_KW, W_fNil, W_fCons, R_KC, R_KCb, W_fB, R_KB, W_fBv, R_KBv, W_fNotB, R_KNB, W_fAndB, R_KABt, R_KABf, W_fOrB, R_KOBt, R_KOBf, W_fAnd, R_KAt, R_KAf, W_fOr, R_KOt, R_KOf, W_fIf, R_KIt, R_KIf, W_fIsN, R_KIN, W_fNotN, R_KNN, W_fChain, R_KH1, R_KH2, R_KH3t, R_KH3f, W_fM1, R_KM1, R_KM1b, W_fIxN, R_IxAd, R_IxAo, R_KIx, R_IxBo, R_IxBd, W_fMt, R_MtA, R_KMt, R_MtB, R_MtC, W_fSl, R_KSl1, R_KSl2, R_KSl3, W_oNone, W_oSome, R_KOs, W_fItems, R_KItl, R_KIts, W_fItemsT, R_KItT, W_fSigns, R_KSg, W_fRng1, R_KR1, W_aNil, W_aCons, R_KAc, R_KAb, R_KAi, W_aBor, R_ABd, R_ABo, W_fCall, R_KCl, R_KP, R_pb0, R_pbd, R_pbb, keep_o, keep_d, R_asd, R_asb, R_bi0, R_bid, R_bib, R_RPr, R_RPn, WS_nil, WS_seq, R_SQn, R_SQr, R_SQb, R_SQc, WS_set, R_KS, WS_ret, R_KRt, WS_expr, R_KEx, WS_if, R_SIt, R_SIf, WS_for, WS_par, R_KPar, R_KPa, WS_asg, R_KAs, AsQ_some, R_gNm, R_gTp, R_gS0, R_gS1, WS_rz, R_KRz, WS_star, R_KSt, WS_setIx, R_KSx, R_SxA, R_KSx2, R_SxB, WS_try, R_TyE, R_LPn, R_LPc, R_LPb, R_LPr, W_fLcE, R_KLbt, R_KLbf, R_KLt, W_fYes, q_bxA, q_bxK, q_addI, q_addS, q_addL, q_addT, q_subI, q_mulI, q_mulS, q_mulL, q_mod, q_div, q_pow, q_neg, q_not, q_lt, q_le, q_gt, q_ge, q_eqI, q_neI, q_eqS, q_neS, q_eqB, q_neB, q_eqTn, q_eqLn, q_inSg, q_ninSg, q_ixL, q_ixT, q_ixR, q_ixS, R_KCh, q_at0, q_at1, q_at2, q_lenS, q_lenT, q_lenL, q_lenR, q_max2, q_min2, q_min2E, q_max2E, q_abs, q_intI, q_intB, q_strS, q_ordc, q_tup, q_lst, q_listT, q_listL, q_tupT, q_tupL, q_slS, q_slL, q_slR, q_slT, q_revT, q_dct0, q_mkv, q_app', W_isT2, isN_n, isN_b, isN_i, isN_s, isN_t, isN_l, sets_nil, sets_cons, W_fFld, R_LFl, R_lk, R_hush, R_hush0, R_hushd, R_husho, R_hushn, R_hushb, R_finr, R_finn, R_finb, R_finc, Nat.reduceLT, Nat.reduceSub, Nat.reduceAdd, Nat.reduceLeDiff, Nat.reduceMul, if_true, if_false, List.map_cons, List.map_nil, List.length_cons, List.length_nil, List.getElem?_cons_zero, List.getElem?_cons_succ, List.set_cons_zero, List.set_cons_succ, Option.getD_some, List.nodup_cons, List.nodup_nil, List.not_mem_nil, List.mem_cons, List.mem_singleton, not_false_eq_true, true_and, and_true, and_self, Bool.not_true, Bool.not_false, decide_true, decide_false, List.take_succ_cons, List.take_zero, List.cons_append, List.nil_append, List.replicate_succ, List.replicate_zero, slOf, wipeD, backD, List.foldr_cons, List.foldr_nil, eq_self_iff_true, or_false, false_or, ite_true, ite_false, reduceIte, Int.reduceNeg, Int.reduceLT, Int.reduceLE, Int.reduceAdd, Int.reduceSub, Int.reduceMul, reduceCtorEq, not_true_eq_false, Nat.lt_irrefl, Nat.not_lt_zero, Nat.le_refl, List.getElem?_nil, Int.reduceToNat, true_or, or_true, List.isEmpty_nil, List.isEmpty_cons, Int.toNat_natCast, lim_eq, isi_str_str, isi_str_int, isi_str_bool, isi_int_int, isi_int_bool, isi_int_str, $[$ts:term],*])
local macro_rules | `(tactic| walk_at "sd") => `(tactic| first | omega | (simp only [len_app, len_one, Int.reduceToNat, List.length_append, List.length_cons, List.length_nil, List.length_replicate]; omega) | decide +kernel)
local macro_rules | `(tactic| walk_at "go") => `(tactic| ((try walk_at "ev"); repeat (with_reducible refine And.intro (by walk_at "sd") ?_; try walk_at "ev")))
theorem numD_eq {s f : Str} (h : cs f = if (cs s).head? = some 45 then (cs s).tail else cs s) : numD (cs s) = if cs f = [] then .non else if ((cs f).all fun c => decide (48 ≤ c ∧ c ≤ 57)) = false then .non else if (cs f).head? = some 48 ∧ cs s ≠ [48] then .non else .int (if (cs s).head? = some 45 then -(digitsVal (cs f) : Int) else (digitsVal (cs f) : Int)) := by
  unfold numD
  dsimp only
  rw [← h]
theorem w_number_in {s : Str} (hs : s.length ≤ 640) {Q : EV → Dv → Prop} {E : EC} (k : Q (.d (numD (cs s))) [.d (.str s)]) : W (fn_number_in [.d (.str s)]) Q E := by
  unfold fn_number_in g_number_in
  rw [W_run]
  wp_walk using eq_nil_of
  by_cases h0 : cs s = []
  · rw [h0] at k
    wp_walk using h0
    exact k
  obtain ⟨c, r, hcr⟩ := List.exists_cons_of_ne_nil h0
  wp_walk using h0
  refine ⟨by omega, at_eq (x := c) (by omega) (by rw [show s.cps.toList = cs s from rfl, hcr]; rfl) ?_⟩
  wp_walk using sg_lit lit_minus
  refine KI_val (.d (.str (figT s))) (fun hb => ?_) (fun hb => ?_) ?_
  · have e : figT s = cutS s (some 1) none := by unfold figT; rw [if_pos (by rw [hcr]; simpa using hb)]
    walk_at "go"
    rw [e]
  · have e : figT s = s := by unfold figT; rw [if_neg (by rw [hcr]; simpa using hb)]
    wp_walk using e
  have hfl := figT_len s
  have hcf := cs_figT s
  generalize figT s = f at hfl hcf
  wp_walk using eq_nil_of
  have hD := numD_eq hcf
  by_cases hf0 : cs f = []
  · rw [hD, if_pos hf0] at k
    wp_walk using hf0
    exact k
  rw [if_neg hf0] at hD
  obtain ⟨c1, r1, hcr1⟩ := List.exists_cons_of_ne_nil hf0
  wp_walk using hf0
  rw [show signsL f = sgs (cs f) from rfl]
  have hfl2 : (sgs (cs f)).length ≤ 100000 := by unfold sgs; rw [List.length_map, ← length_cs]; omega
  refine KLc_pure (fun _ => true) (fun x => .bl (decide (48 ≤ sgn x ∧ sgn x ≤ 57))) hfl2 rfl (fun x hx => ?_) ?_
  · obtain ⟨c, _, rfl⟩ := mem_sgs hx
    refine ⟨⟨rfl, rfl⟩, fun _ => ?_⟩
    walk_at "go"
    rw [show (Str.ofString "0123456789") = FigL from rfl, fig_mem]
    rfl
  rw [show ((sgs (cs f)).filter fun _ => true) = sgs (cs f) from List.filter_eq_self.mpr fun _ _ => rfl, map_sgs (fun c => D.bl (decide (48 ≤ c ∧ c ≤ 57)))]
  wp_walk using vAll_bls
  refine SI_by (fun hb => ?_) fun hb => ?_
  · walk_at "go"
    rw [hD, if_pos (by simpa using hb)] at k
    exact k
  · have hb' : ((cs f).all fun c => decide (48 ≤ c ∧ c ≤ 57)) = true := by simpa using hb
    have had : AllDigits (cs f) := fun c hc => by simpa using List.all_eq_true.mp hb' c hc
    rw [if_neg (by rw [hb']; simp)] at hD
    walk_at "go"
    refine at_eq (x := c1) (by omega) (by rw [show f.cps.toList = cs f from rfl, hcr1]; rfl) ?_
    wp_walk using sg_lit lit_zero
    have fin : ∀ i : Int, PySem.intText? s = some i → VQ (vInt [.str s]) (fun x δ => x = .int i ∧ δ = [Sl.d (D.str s), Sl.d (D.str f), Sl.no]) [Sl.d (D.str s), Sl.d (D.str f), Sl.no] := fun i hi => by
      unfold vInt
      dsimp only
      rw [if_pos hs, hi]
      exact ⟨rfl, rfl⟩
    have hint : PySem.intText? s = some (if (cs s).head? = some 45 then -(digitsVal (cs f) : Int) else (digitsVal (cs f) : Int)) := by
      by_cases h45 : (cs s).head? = some 45
      · rw [if_pos h45] at hcf ⊢
        have e1 : cs s = 45 :: cs f := by
          rw [hcf, hcr]; rw [hcr] at h45; simp at h45; rw [h45]; rfl
        exact intText_neg e1 had hf0 (by omega)
      · rw [if_neg h45] at hcf ⊢
        have := intText_digits (x := s) (by rw [show s.cps.toList = cs s from rfl, ← hcf]; exact had) h0 (by omega)
        rw [this, show s.cps.toList = cs s from rfl, hcf]
    have tail : ¬ ((cs f).head? = some 48 ∧ cs s ≠ [48]) → Q (.d (.int (if (cs s).head? = some 45 then -(digitsVal (cs f) : Int) else (digitsVal (cs f) : Int)))) [.d (.str s)] := fun h => by
      rw [hD, if_neg h] at k
      exact k
    have fin' : ∀ {R : D → Dv → Prop} {δ : Dv}, R (.int (if (cs s).head? = some 45 then -(digitsVal (cs f) : Int) else (digitsVal (cs f) : Int))) δ → VQ (vInt [.str s]) R δ := fun {R δ} h => by
      unfold vInt
      dsimp only
      rw [if_pos hs, hint]
      exact h
    refine KAB_by (fun hc => ?_) fun hc => ?_
    · wp_walk using eq_zero_of
      refine SI_by (fun hd => ?_) fun hd => ?_
      · walk_at "go"
        rw [hD, if_pos ⟨by rw [hcr1]; simpa using hc, by simpa using hd⟩] at k
        exact k
      · walk_at "go"
        refine fin' ?_
        walk_at "go"
        exact tail fun z => z.2 (by simpa using hd)
    · walk_at "go"
      refine fin' ?_
      walk_at "go"
      refine tail fun z => ?_
      have := z.1
      rw [hcr1] at this
      simp at this
      simp [this] at hc
end FD
end
section
set_option Elab.async false
set_option linter.all false
set_option maxRecDepth 100000
set_option maxHeartbeats 4000000
namespace FD
open PySem L2 PySem.NumText
theorem occ_figs : ∀ d, d ∈ List.range 10 → Builtin.Str.occurrences FigL ⟨#[48 + d]⟩ 0 FigL.length 1 = [d] := by decide +kernel
theorem idx_fig (c : Nat) (h : 48 ≤ c ∧ c ≤ 57) : vIndex (.str FigL) (.str ⟨#[c]⟩) = some (.int ((c : Int) - 48)) := by
  have := occ_figs (c - 48) (List.mem_range.mpr (by omega))
  rw [show 48 + (c - 48) = c by omega] at this
  unfold vIndex
  dsimp only
  rw [this]
  dsimp only
  congr 2
  omega
theorem idx_fig' (c : Nat) (h : 48 ≤ c ∧ c ≤ 57) : vIndex (.str (Str.ofString "0123456789")) (.str ⟨#[c]⟩) = some (.int ((c : Int) - 48)) := idx_fig c h
theorem sg_ok {c : Nat} (h : c < 1000) : PyData.strOk ⟨#[c]⟩ = true := by
  simp [PyData.strOk]; omega
theorem strs_py : ∀ (l : List Nat), ∃ ps, toPyL (sgs l) = some ps ∧ (∀ p ∈ ps, ∃ c ∈ l, p = .str ⟨#[c]⟩) ∧ ps.isEmpty = l.isEmpty
  | [] => ⟨[], rfl, by simp, rfl⟩
  | c :: l => by
    obtain ⟨ps, h1, h2, h3⟩ := strs_py l
    refine ⟨.str ⟨#[c]⟩ :: ps, ?_, fun p hp => ?_, rfl⟩
    · show toPyL (D.str ⟨#[c]⟩ :: sgs l) = _
      simp [toPyL, toPy, h1]
    · rcases List.mem_cons.mp hp with rfl | hp
      · exact ⟨c, by simp, rfl⟩
      · obtain ⟨d, hd, e⟩ := h2 p hp
        exact ⟨d, List.mem_cons_of_mem _ hd, e⟩
theorem can_strs : ∀ (ps : List PyData), (∀ p ∈ ps, ∃ c : Nat, c < 1000 ∧ p = .str ⟨#[c]⟩) → PyData.canLayAll0 ps = true ∧ PyData.depthAll ps = 0
  | [], _ => ⟨rfl, by simp [PyData.depthAll]⟩
  | p :: ps, h => by
    obtain ⟨h1, h2⟩ := can_strs ps fun q hq => h q (List.mem_cons_of_mem _ hq)
    obtain ⟨c, hc, rfl⟩ := h p (List.mem_cons_self ..)
    refine ⟨?_, ?_⟩
    · simp [PyData.canLayAll0, h1, PyData.canLay0, sg_ok hc]
    · simp [PyData.depthAll, PyData.depth, h2]
theorem ne_sgs {l : List Nat} (h : ∀ c ∈ l, c < 1000) : vNe (.lst (sgs l)) (.lst []) = some (.d (.bl (!l.isEmpty))) := by
  obtain ⟨ps, h1, h2, h3⟩ := strs_py l
  obtain ⟨h4, h5⟩ := can_strs ps fun p hp => let ⟨c, hc, e⟩ := h2 p hp; ⟨c, h c hc, e⟩
  have e1 : toPy (.lst (sgs l)) = some (.list ps) := by simp [toPy, h1]
  have e2 : toPy (.lst []) = some (.list []) := by simp [toPy, toPyL]
  have s1 : SeqAt.shaped (.list ps) = true := by simp [SeqAt.shaped, PyData.canLay0, h4, PyData.depth, h5]
  have s2 : SeqAt.shaped (.list []) = true := by decide
  have e3 : PyData.eqv (.list ps) (.list []) = l.isEmpty := by
    rw [← h3]
    cases ps <;> simp [PyData.eqv, PyData.eqvAll]
  show (eqD (.lst (sgs l)) (.lst [])).map _ = _
  have e4 : eqD (.lst (sgs l)) (.lst []) = some l.isEmpty := by
    show eqG _ _ = _
    unfold eqG
    rw [e1, e2]
    simp only [Option.bind_some, s1, s2, and_self, if_true, e3]
  rw [e4]
  rfl
theorem filter_sgs (p : Nat → Bool) (l : List Nat) : ((sgs l).filter fun x => p (sgn x)).map id = sgs (l.filter p) := by
  induction l with
  | nil => rfl
  | cons c l ih =>
    show ((D.str ⟨#[c]⟩ :: sgs l).filter _).map id = _
    rw [List.filter_cons, List.filter_cons, sgn_mk]
    split
    · rw [List.map_cons, ih]; rfl
    · exact ih
theorem cut_all1 (s : Str) : cs (cutS s none (some 1)) = (cs s).take 1 := by
  unfold cutS; rw [cs_mk, show (some (1 : Int)) = some ((1 : Nat) : Int) from rfl, cut_hi]; rfl
theorem cut_from0 (s : Str) : cutS s (some 0) none = s := by
  apply str_ext
  unfold cutS; rw [cs_mk, show (some (0 : Int)) = some ((0 : Nat) : Int) from rfl, cut_lo, List.drop_zero]; rfl
theorem take1_45 (l : List Nat) : decide (l.take 1 = [45]) = decide (l.head? = some 45) := by
  cases l with
  | nil => simp
  | cons c l => simp
/-- the law's own: the number that a text writes -/
local macro_rules | `(tactic| walk_at "ev") => `(tactic| simp only [W_ok, W_no, WS_ok, WS_no, VQ_some, LV_d, LF_d, LF_o, LW_d, LW_o, W_fC, W_fV, W_fVF, W_fVW, toD_l, toD_c, eD_d, eD_o, sl_d, sl_o, W_fD, R_KD, W_fX, R_KX, W_f1, R_K1, W_f2, R_K2, R_K2b, W_fN, R_KN, W_fW, R_KW, W_fNil, W_fCons, R_KC, R_KCb, W_fB, R_KB, W_fBv, R_KBv, W_fNotB, R_KNB, W_fAndB, R_KABt, R_KABf, W_fOrB, R_KOBt, R_KOBf, W_fAnd, R_KAt, R_KAf, W_fOr, R_KOt, R_KOf, W_fIf, R_KIt, R_KIf, W_fIsN, R_KIN, W_fNotN, R_KNN, W_fChain, R_KH1, R_KH2, R_KH3t, R_KH3f, W_fM1, R_KM1, R_KM1b, W_fIxN, R_IxAd, R_IxAo, R_KIx, R_IxBo, R_IxBd, W_fMt, R_MtA, R_KMt, R_MtB, R_MtC, W_fSl, R_KSl1, R_KSl2, R_KSl3, W_oNone, W_oSome, R_KOs, W_fItems, R_KItl, R_KIts, W_fItemsT, R_KItT, W_fSigns, R_KSg, W_fRng1, R_KR1, W_aNil, W_aCons, R_KAc, R_KAb, R_KAi, W_aBor, R_ABd, R_ABo, W_fCall, R_KCl, R_KP, R_pb0, R_pbd, R_pbb, keep_o, keep_d, R_asd, R_asb, R_bi0, R_bid, R_bib, R_RPr, R_RPn, WS_nil, WS_seq, R_SQn, R_SQr, R_SQb, R_SQc, WS_set, R_KS, WS_ret, R_KRt, WS_expr, R_KEx, WS_if, R_SIt, R_SIf, WS_for, WS_par, R_KPar, R_KPa, WS_asg, R_KAs, AsQ_some, R_gNm, R_gTp, R_gS0, R_gS1, WS_rz, R_KRz, WS_star, R_KSt, WS_setIx, R_KSx, R_SxA, R_KSx2, R_SxB, WS_try, R_TyE, R_LPn, R_LPc, R_LPb, R_LPr, W_fLcE, R_KLbt, R_KLbf, R_KLt, W_fYes, q_bxA, q_bxK, q_addI, q_addS, q_addL, q_addT, q_subI, q_mulI, q_mulS, q_mulL, q_mod, q_div, q_pow, q_neg, q_not, q_lt, q_le, q_gt, q_ge, q_eqI, q_neI, q_eqS, q_neS, q_eqB, q_neB, q_eqTn, q_eqLn, q_inSg, q_ninSg, q_ixL, q_ixT, q_ixR, q_ixS, R_KCh, q_at0, q_at1, q_at2, q_lenS, q_lenT, q_lenL, q_lenR, q_max2, q_min2, q_min2E, q_max2E, q_abs, q_intI, q_intB, q_strS, q_ordc, q_tup, q_lst, q_listT, q_listL, q_tupT, q_tupL, q_slS, q_slL, q_slR, q_slT, q_revT, q_dct0, q_mkv, q_app', W_isT2, isN_n, isN_b, isN_i, isN_s, isN_t, isN_l, sets_nil, sets_cons, W_fFld, R_LFl, R_lk, R_hush, R_hush0, R_hushd, R_husho, R_hushn, R_hushb, R_finr, R_finn, R_finb, R_finc, Nat.reduceLT, Nat.reduceSub, Nat.reduceAdd, Nat.reduceLeDiff, Nat.reduceMul, if_true, if_false, List.map_cons, List.map_nil, List.length_cons, List.length_nil, List.getElem?_cons_zero, List.getElem?_cons_succ, List.set_cons_zero, List.set_cons_succ, Option.getD_some, List.nodup_cons, List.nodup_nil, List.not_mem_nil, List.mem_cons, List.mem_singleton, not_false_eq_true, true_and, and_true, and_self, Bool.not_true, Bool.not_false, decide_true, decide_false, List.take_succ_cons, List.take_zero, List.cons_append, List.nil_append, List.replicate_succ, List.replicate_zero, slOf, wipeD, backD, List.foldr_cons, List.foldr_nil, eq_self_iff_true, or_false, false_or, ite_true, ite_false, reduceIte, Int.reduceNeg, Int.reduceLT, Int.reduceLE, Int.reduceAdd, Int.reduceSub, Int.reduceMul, reduceCtorEq, not_true_eq_false, Nat.lt_irrefl, Nat.not_lt_zero, Nat.le_refl, List.getElem?_nil, Int.reduceToNat, true_or, or_true, List.isEmpty_nil, List.isEmpty_cons, Int.toNat_natCast, lim_eq, isi_str_str])
local macro_rules | `(tactic| wp_walk using $[$ts:term],*) => `(tactic| simp only [W_ok, W_no, WS_ok, WS_no, VQ_some, LV_d, LF_d, LF_o, LW_d, LW_o, W_fC, W_fV, W_fVF, W_fVW, toD_l, toD_c, eD_d, eD_o, sl_d, sl_o, W_fD, R_KD, W_fX, R_KX, W_f1, R_K1, W_f2, R_K2, R_K2b, W_fN, R_KN, W_fW, R_KW, W_fNil, W_fCons, R_KC, R_KCb, W_fB, R_KB, W_fBv, R_KBv, W_fNotB, R_KNB, W_fAndB, R_KABt, R_KABf, W_fOrB, R_KOBt, R_KOBf, W_fAnd, R_KAt, R_KAf, W_fOr, R_KOt, R_KOf, W_fIf, R_KIt, R_KIf, W_fIsN, R_KIN, W_fNotN, R_KNN, W_fChain, R_KH1, R_KH2, R_KH3t, R_KH3f, W_fM1, R_KM1, R_KM1b, W_fIxN, R_IxAd, R_IxAo, R_KIx, R_IxBo, R_IxBd, W_fMt, R_MtA, R_KMt, R_MtB, R_MtC, W_fSl, R_KSl1, R_KSl2, R_KSl3, W_oNone, W_oSome, R_KOs, W_fItems, R_KItl, R_KIts, W_fItemsT, R_KItT, W_fSigns, R_KSg, W_fRng1, R_KR1, W_aNil, W_aCons, R_KAc, R_KAb, R_KAi, W_aBor, R_ABd, R_ABo, W_fCall, R_KCl, R_KP, R_pb0, R_pbd, R_pbb, keep_o, keep_d, R_asd, R_asb, R_bi0, R_bid, R_bib, R_RPr, R_RPn, WS_nil, WS_seq, R_SQn, R_SQr, R_SQb, R_SQc, WS_set, R_KS, WS_ret, R_KRt, WS_expr, R_KEx, WS_if, R_SIt, R_SIf, WS_for, WS_par, R_KPar, R_KPa, WS_asg, R_KAs, AsQ_some, R_gNm, R_gTp, R_gS0, R_gS1, WS_rz, R_KRz, WS_star, R_KSt, WS_setIx, R_KSx, R_SxA, R_KSx2, R_SxB, WS_try, R_TyE, R_LPn, R_LPc, R_LPb, R_LPr, W_fLcE, R_KLbt, R_KLbf, R_KLt, W_fYes, q_bxA, q_bxK, q_addI, q_addS, q_addL, q_addT, q_subI, q_mulI, q_mulS, q_mulL, q_mod, q_div, q_pow, q_neg, q_not, q_lt, q_le, q_gt, q_ge, q_eqI, q_neI, q_eqS, q_neS, q_eqB, q_neB, q_eqTn, q_eqLn, q_inSg, q_ninSg, q_ixL, q_ixT, q_ixR, q_ixS, R_KCh, q_at0, q_at1, q_at2, q_lenS, q_lenT, q_lenL, q_lenR, q_max2, q_min2, q_min2E, q_max2E, q_abs, q_intI, q_intB, q_strS, q_ordc, q_tup, q_lst, q_listT, q_listL, q_tupT, q_tupL, q_slS, q_slL, q_slR, q_slT, q_revT, q_dct0, q_mkv, q_app', W_isT2, isN_n, isN_b, isN_i, isN_s, isN_t, isN_l, sets_nil, sets_cons, W_fFld, R_LFl, R_lk, R_hush, R_hush0, R_hushd, R_husho, R_hushn, R_hushb, R_finr, R_finn, R_finb, R_finc, Nat.reduceLT, Nat.reduceSub, Nat.reduceAdd, Nat.reduceLeDiff, Nat.reduceMul, if_true, if_false, List.map_cons, List.map_nil, List.length_cons, List.length_nil, List.getElem?_cons_zero, List.getElem?_cons_succ, List.set_cons_zero, List.set_cons_succ, Option.getD_some, List.nodup_cons, List.nodup_nil, List.not_mem_nil, List.mem_cons, List.mem_singleton, not_false_eq_true, true_and, and_true, and_self, Bool.not_true, Bool.not_false, decide_true, decide_false, List.take_succ_cons, List.take_zero, List.cons_append, List.nil_append, List.replicate_succ, List.replicate_zero, slOf, wipeD, backD, List.foldr_cons, List.foldr_nil, eq_self_iff_true, or_false, false_or, ite_true, ite_false, reduceIte, Int.reduceNeg, Int.reduceLT, Int.reduceLE, Int.reduceAdd, Int.reduceSub, Int.reduceMul, reduceCtorEq, not_true_eq_false, Nat.lt_irrefl, Nat.not_lt_zero, Nat.le_refl, List.getElem?_nil, Int.reduceToNat, true_or, or_true, List.isEmpty_nil, List.isEmpty_cons, Int.toNat_natCast, lim_eq, isi_str_str, $[$ts:term],*])
local macro_rules | `(tactic| walk_at "sd") => `(tactic| first | omega | (simp only [len_app, len_one, Int.reduceToNat, List.length_append, List.length_cons, List.length_nil, List.length_replicate]; omega) | decide +kernel)
local macro_rules | `(tactic| walk_at "go") => `(tactic| ((try walk_at "ev"); repeat (with_reducible refine And.intro (by walk_at "sd") ?_; try walk_at "ev")))
theorem w_writes {s : Str} (hs : s.length ≤ 640) (hsc : ∀ c ∈ cs s, c < 1000) {Q : EV → Dv → Prop} {E : EC} (k : Q (.d (numD (cs s))) [.d (.str s)]) : W (fn_law_writes [.d (.str s)]) Q E := by
  unfold fn_law_writes g_law_writes
  rw [W_run]
  wp_walk using eq_minus_of, cut_all1, take1_45
  refine ⟨by omega, by omega, ?_⟩
  have e0 : cutS s (some (if decide ((cs s).head? = some 45) = true then 1 else 0)) none = figT s := by
    unfold figT
    by_cases h : (cs s).head? = some 45
    · simp [h]
    · simp [h, cut_from0]
  rw [e0]
  have hfl := figT_len s
  have hcl : ∀ c ∈ cs (figT s), c < 1000 := fun c hc => hsc c (by
    rw [cs_figT] at hc
    split at hc
    · exact List.mem_of_mem_tail hc
    · exact hc)
  have hcf := cs_figT s
  generalize figT s = f at hfl hcf hcl
  have hD := numD_eq hcf
  wp_walk using eq_nil_of
  by_cases hf0 : cs f = []
  · rw [hD, if_pos hf0] at k
    wp_walk using hf0
    exact k
  rw [if_neg hf0] at hD
  obtain ⟨c1, r1, hcr1⟩ := List.exists_cons_of_ne_nil hf0
  have h0 : cs s ≠ [] := fun z => by rw [hcf, z] at hf0; simp at hf0
  obtain ⟨c, r, hcr⟩ := List.exists_cons_of_ne_nil h0
  wp_walk using hf0
  rw [show signsL f = sgs (cs f) from rfl]
  have hfl2 : (sgs (cs f)).length ≤ 100000 := by unfold sgs; rw [List.length_map, ← length_cs]; omega
  refine KLc_pure (fun x => !decide (48 ≤ sgn x ∧ sgn x ≤ 57)) id hfl2 rfl (fun x hx => ?_) ?_
  · obtain ⟨c, _, rfl⟩ := mem_sgs hx
    walk_at "go"
    rw [show (Str.ofString "0123456789") = FigL from rfl, fig_mem]
    exact ⟨rfl, fun _ => rfl⟩
  have hch : ∀ c ∈ (cs f).filter fun c => !decide (48 ≤ c ∧ c ≤ 57), c < 1000 := fun c hc => hcl c (List.mem_filter.mp hc).1
  rw [filter_sgs (fun c => !decide (48 ≤ c ∧ c ≤ 57))]
  wp_walk using ne_sgs hch
  refine SI_by (fun hb => ?_) fun hb => ?_
  · walk_at "go"
    have hb' : ((cs f).all fun c => decide (48 ≤ c ∧ c ≤ 57)) = false := by
      rw [← Bool.not_eq_true, List.all_eq_true]
      intro z
      have : (cs f).filter (fun c => !decide (48 ≤ c ∧ c ≤ 57)) = [] := List.filter_eq_nil_iff.mpr fun c hc => by simpa using z c hc
      rw [this] at hb
      simp at hb
    rw [hD, if_pos hb'] at k
    exact k
  have had : AllDigits (cs f) := fun c hc => by
    have hb2 : (cs f).filter (fun c => !decide (48 ≤ c ∧ c ≤ 57)) = [] := by simpa using hb
    simpa using List.filter_eq_nil_iff.mp hb2 c hc
  rw [all_of had, if_neg (by simp)] at hD
  walk_at "go"
  refine at_eq (x := c1) (by omega) (by rw [show f.cps.toList = cs f from rfl, hcr1]; rfl) ?_
  wp_walk using sg_lit lit_zero
  have fin : ¬ ((cs f).head? = some 48 ∧ cs s ≠ [48]) → KFo (gNm 3) (sSet 1 2 (f2 vAdd (fD (f2 vMul (fC (D.int 10)) (fVF 2))) (fM1 vIndex (fC (D.str (Str.ofString "0123456789"))) (fVW 3))))
      (SQ (sRet (fIf (fB (f2 vEq (fD (f2 vIx (fV 0) (fC (D.int 0)))) (fC (D.str (Str.ofString "-"))))) (f2 vSub (fC (D.int 0)) (fVF 2)) (fX (fVF 2)))) (RP 1 Q) E) E (sgs (cs f)) [.d (.str s), .d (.str f), .d (.int 0), .no] := fun hne => by
    rw [hD, if_neg hne] at k
    refine KFo_up (fun z : Nat × Sl => [(2, .d (.int z.1)), (3, z.2)]) (fun i z => z.1 = digitsVal ((cs f).take i)) (0, .no) rfl rfl ?_ ?_
    · rintro x i ⟨tot, s3⟩ hx htot
      have hi : i < (cs f).length := by
        have := (List.getElem?_eq_some_iff.mp hx).1
        simpa [sgs] using this
      have ex : x = .str ⟨#[(cs f)[i]]⟩ := by
        have := (List.getElem?_eq_some_iff.mp hx).2
        rw [← this]; simp [sgs]
      subst ex
      have hd := had _ (List.getElem_mem hi)
      dsimp only at htot
      wp_walk using idx_fig' _ hd
      refine ⟨(digitsVal ((cs f).take (i + 1)), .d (.str ⟨#[(cs f)[i]]⟩)), ?_, rfl⟩
      have e1 : (cs f).take (i + 1) = (cs f).take i ++ [(cs f)[i]] := (by rw [List.take_succ_eq_append_getElem hi])
      rw [e1, digitsVal_snoc, htot]
      have : (10 * (digitsVal ((cs f).take i) : Int) + ((((cs f)[i] : Nat) : Int) - 48)) = ((digitsVal ((cs f).take i) * 10 + ((cs f)[i] - 48) : Nat) : Int) := by omega
      rw [this]
    · rintro ⟨tot, s3⟩ htot
      have : (sgs (cs f)).length = (cs f).length := by simp [sgs]
      rw [this, List.take_length] at htot
      dsimp only at htot
      subst htot
      walk_at "go"
      refine at_eq (x := c) (by omega) (by rw [show s.cps.toList = cs s from rfl, hcr]; rfl) ?_
      wp_walk using sg_lit lit_minus
      refine KI_by (fun hm => ?_) fun hm => ?_
      · walk_at "go"
        have h45 : (cs s).head? = some 45 := by rw [hcr]; simpa using hm
        rw [if_pos h45] at k
        rw [show (0 : Int) - (digitsVal (cs f) : Int) = -(digitsVal (cs f) : Int) by omega]
        exact k
      · walk_at "go"
        have h45 : ¬ (cs s).head? = some 45 := by rw [hcr]; simpa using hm
        rw [if_neg h45] at k
        exact k
  refine KAB_by (fun hc => ?_) fun hc => ?_
  · wp_walk using eq_zero_of
    refine SI_by (fun hd => ?_) fun hd => ?_
    · walk_at "go"
      rw [hD, if_pos ⟨by rw [hcr1]; simpa using hc, by simpa using hd⟩] at k
      exact k
    · walk_at "go"
      rw [show signsL f = sgs (cs f) from rfl]
      exact fin fun z => z.2 (by simpa using hd)
  · walk_at "go"
    rw [show signsL f = sgs (cs f) from rfl]
    refine fin fun z => ?_
    have := z.1
    rw [hcr1] at this
    simp at this
    simp [this] at hc
end FD
end
section
set_option Elab.async false
set_option linter.all false
set_option maxRecDepth 100000
set_option maxHeartbeats 4000000
namespace FD
open PySem L2 PySem.NumText
local macro_rules | `(tactic| walk_at "ev") => `(tactic| simp only [W_ok, W_no, WS_ok, WS_no, VQ_some, LV_d, LF_d, LF_o, LW_d, LW_o, W_fC, W_fV, W_fVF, W_fVW, toD_l, toD_c, eD_d, eD_o, sl_d, sl_o, W_fD, R_KD, W_fX, R_KX, W_f1, R_K1, W_f2, R_K2, R_K2b, W_fN, R_KN, W_fW, R_KW, W_fNil, W_fCons, R_KC, R_KCb, W_fB, R_KB, W_fBv, R_KBv, W_fNotB, R_KNB, W_fAndB, R_KABt, R_KABf, W_fOrB, R_KOBt, R_KOBf, W_fAnd, R_KAt, R_KAf, W_fOr, R_KOt, R_KOf, W_fIf, R_KIt, R_KIf, W_fIsN, R_KIN, W_fNotN, R_KNN, W_fChain, R_KH1, R_KH2, R_KH3t, R_KH3f, W_fM1, R_KM1, R_KM1b, W_fIxN, R_IxAd, R_IxAo, R_KIx, R_IxBo, R_IxBd, W_fMt, R_MtA, R_KMt, R_MtB, R_MtC, W_fSl, R_KSl1, R_KSl2, R_KSl3, W_oNone, W_oSome, R_KOs, W_fItems, R_KItl, R_KIts, W_fItemsT, R_KItT, W_fSigns, R_KSg, W_fRng1, R_KR1, W_aNil, W_aCons, R_KAc, R_KAb, R_KAi, W_aBor, R_ABd, R_ABo, W_fCall, R_KCl, R_KP, R_pb0, R_pbd, R_pbb, keep_o, keep_d, R_asd, R_asb, R_bi0, R_bid, R_bib, R_RPr, R_RPn, WS_nil, WS_seq, R_SQn, R_SQr, R_SQb, R_SQc, WS_set, R_KS, WS_ret, R_KRt, WS_expr, R_KEx, WS_if, R_SIt, R_SIf, WS_for, WS_par, R_KPar, R_KPa, WS_asg, R_KAs, AsQ_some, R_gNm, R_gTp, R_gS0, R_gS1, WS_rz, R_KRz, WS_star, R_KSt, WS_setIx, R_KSx, R_SxA, R_KSx2, R_SxB, WS_try, R_TyE, R_LPn, R_LPc, R_LPb, R_LPr, W_fLcE, R_KLbt, R_KLbf, R_KLt, W_fYes, q_bxA, q_bxK, q_addI, q_addS, q_addL, q_addT, q_subI, q_mulI, q_mulS, q_mulL, q_mod, q_div, q_pow, q_neg, q_not, q_lt, q_le, q_gt, q_ge, q_eqI, q_neI, q_eqS, q_neS, q_eqB, q_neB, q_eqTn, q_eqLn, q_inSg, q_ninSg, q_ixL, q_ixT, q_ixR, q_ixS, R_KCh, q_at0, q_at1, q_at2, q_lenS, q_lenT, q_lenL, q_lenR, q_max2, q_min2, q_min2E, q_max2E, q_abs, q_intI, q_intB, q_strS, q_ordc, q_tup, q_lst, q_listT, q_listL, q_tupT, q_tupL, q_slS, q_slL, q_slR, q_slT, q_revT, q_dct0, q_mkv, q_app', W_isT2, isN_n, isN_b, isN_i, isN_s, isN_t, isN_l, sets_nil, sets_cons, W_fFld, R_LFl, R_lk, R_hush, R_hush0, R_hushd, R_husho, R_hushn, R_hushb, R_finr, R_finn, R_finb, R_finc, Nat.reduceLT, Nat.reduceSub, Nat.reduceAdd, Nat.reduceLeDiff, Nat.reduceMul, if_true, if_false, List.map_cons, List.map_nil, List.length_cons, List.length_nil, List.getElem?_cons_zero, List.getElem?_cons_succ, List.set_cons_zero, List.set_cons_succ, Option.getD_some, List.nodup_cons, List.nodup_nil, List.not_mem_nil, List.mem_cons, List.mem_singleton, not_false_eq_true, true_and, and_true, and_self, Bool.not_true, Bool.not_false, decide_true, decide_false, List.take_succ_cons, List.take_zero, List.cons_append, List.nil_append, List.replicate_succ, List.replicate_zero, slOf, wipeD, backD, List.foldr_cons, List.foldr_nil, eq_self_iff_true, or_false, false_or, ite_true, ite_false, reduceIte, Int.reduceNeg, Int.reduceLT, Int.reduceLE, Int.reduceAdd, Int.reduceSub, Int.reduceMul, reduceCtorEq, not_true_eq_false, Nat.lt_irrefl, Nat.not_lt_zero, Nat.le_refl, List.getElem?_nil, Int.reduceToNat, true_or, or_true, List.isEmpty_nil, List.isEmpty_cons, Int.toNat_natCast, lim_eq, isi_int_int, isi_int_bool, isi_NoneType_int, isi_bool_int, isi_bool_bool, isi_str_int, isi_tuple_int, isi_list_int, isi_dict_int, isi_exc_int])
local macro_rules | `(tactic| wp_walk using $[$ts:term],*) => `(tactic| simp only [W_ok, W_no, WS_ok, WS_no, VQ_some, LV_d, LF_d, LF_o, LW_d, LW_o, W_fC, W_fV, W_fVF, W_fVW, toD_l, toD_c, eD_d, eD_o, sl_d, sl_o, W_fD, R_KD, W_fX, R_KX, W_f1, R_K1, W_f2, R_K2, R_K2b, W_fN, R_KN, W_fW, R_KW, W_fNil, W_fCons, R_KC, R_KCb, W_fB, R_KB, W_fBv, R_KBv, W_fNotB, R_KNB, W_fAndB, R_KABt, R_KABf, W_fOrB, R_KOBt, R_KOBf, W_fAnd, R_KAt, R_KAf, W_fOr, R_KOt, R_KOf, W_fIf, R_KIt, R_KIf, W_fIsN, R_KIN, W_fNotN, R_KNN, W_fChain, R_KH1, R_KH2, R_KH3t, R_KH3f, W_fM1, R_KM1, R_KM1b, W_fIxN, R_IxAd, R_IxAo, R_KIx, R_IxBo, R_IxBd, W_fMt, R_MtA, R_KMt, R_MtB, R_MtC, W_fSl, R_KSl1, R_KSl2, R_KSl3, W_oNone, W_oSome, R_KOs, W_fItems, R_KItl, R_KIts, W_fItemsT, R_KItT, W_fSigns, R_KSg, W_fRng1, R_KR1, W_aNil, W_aCons, R_KAc, R_KAb, R_KAi, W_aBor, R_ABd, R_ABo, W_fCall, R_KCl, R_KP, R_pb0, R_pbd, R_pbb, keep_o, keep_d, R_asd, R_asb, R_bi0, R_bid, R_bib, R_RPr, R_RPn, WS_nil, WS_seq, R_SQn, R_SQr, R_SQb, R_SQc, WS_set, R_KS, WS_ret, R_KRt, WS_expr, R_KEx, WS_if, R_SIt, R_SIf, WS_for, WS_par, R_KPar, R_KPa, WS_asg, R_KAs, AsQ_some, R_gNm, R_gTp, R_gS0, R_gS1, WS_rz, R_KRz, WS_star, R_KSt, WS_setIx, R_KSx, R_SxA, R_KSx2, R_SxB, WS_try, R_TyE, R_LPn, R_LPc, R_LPb, R_LPr, W_fLcE, R_KLbt, R_KLbf, R_KLt, W_fYes, q_bxA, q_bxK, q_addI, q_addS, q_addL, q_addT, q_subI, q_mulI, q_mulS, q_mulL, q_mod, q_div, q_pow, q_neg, q_not, q_lt, q_le, q_gt, q_ge, q_eqI, q_neI, q_eqS, q_neS, q_eqB, q_neB, q_eqTn, q_eqLn, q_inSg, q_ninSg, q_ixL, q_ixT, q_ixR, q_ixS, R_KCh, q_at0, q_at1, q_at2, q_lenS, q_lenT, q_lenL, q_lenR, q_max2, q_min2, q_min2E, q_max2E, q_abs, q_intI, q_intB, q_strS, q_ordc, q_tup, q_lst, q_listT, q_listL, q_tupT, q_tupL, q_slS, q_slL, q_slR, q_slT, q_revT, q_dct0, q_mkv, q_app', W_isT2, isN_n, isN_b, isN_i, isN_s, isN_t, isN_l, sets_nil, sets_cons, W_fFld, R_LFl, R_lk, R_hush, R_hush0, R_hushd, R_husho, R_hushn, R_hushb, R_finr, R_finn, R_finb, R_finc, Nat.reduceLT, Nat.reduceSub, Nat.reduceAdd, Nat.reduceLeDiff, Nat.reduceMul, if_true, if_false, List.map_cons, List.map_nil, List.length_cons, List.length_nil, List.getElem?_cons_zero, List.getElem?_cons_succ, List.set_cons_zero, List.set_cons_succ, Option.getD_some, List.nodup_cons, List.nodup_nil, List.not_mem_nil, List.mem_cons, List.mem_singleton, not_false_eq_true, true_and, and_true, and_self, Bool.not_true, Bool.not_false, decide_true, decide_false, List.take_succ_cons, List.take_zero, List.cons_append, List.nil_append, List.replicate_succ, List.replicate_zero, slOf, wipeD, backD, List.foldr_cons, List.foldr_nil, eq_self_iff_true, or_false, false_or, ite_true, ite_false, reduceIte, Int.reduceNeg, Int.reduceLT, Int.reduceLE, Int.reduceAdd, Int.reduceSub, Int.reduceMul, reduceCtorEq, not_true_eq_false, Nat.lt_irrefl, Nat.not_lt_zero, Nat.le_refl, List.getElem?_nil, Int.reduceToNat, true_or, or_true, List.isEmpty_nil, List.isEmpty_cons, Int.toNat_natCast, lim_eq, isi_int_int, isi_int_bool, isi_NoneType_int, isi_bool_int, isi_bool_bool, isi_str_int, isi_tuple_int, isi_list_int, isi_dict_int, isi_exc_int, $[$ts:term],*])
local macro_rules | `(tactic| walk_at "sd") => `(tactic| first | omega | (simp only [len_app, len_one, len_rng, rep_len', Int.reduceToNat, List.length_append, List.length_cons, List.length_nil, List.length_replicate]; omega) | decide +kernel)
local macro_rules | `(tactic| walk_at "go") => `(tactic| ((try walk_at "ev"); repeat (with_reducible refine And.intro (by walk_at "sd") ?_; try walk_at "ev")))
theorem numS_b {i : Int} (h : i.natAbs < 1000000000000000000000000000000000000000000) : b1900 i = true := by
  have := log2_small h
  unfold b1900
  simp; omega
theorem w_word {i : Int} (h : i.natAbs < 1000000000000000000000000000000000000000000) {Q : EV → Dv → Prop} {E : EC} (k : Q (.d (.str (numS i))) [.d (.int i)]) : W (fn_number_word [.d (.int i)]) Q E := by
  have hb := numS_b h
  unfold fn_number_word g_number_word
  rw [W_run]
  walk_at "go"
  refine VQ_eq (z := .str (numS i)) (by unfold vStr; simp only [hb, if_true]; rfl) ?_
  walk_at "go"
  exact k
/-- what is no number is refused -/
theorem w_word_no {d : D} (h : vIsi2 [d, .ty "int"] = some (.bl false) ∨ ∃ b, d = .bl b) {Q : EV → Dv → Prop} {E : EC} (k : E "NoNumber" [("found", d)]) : W (fn_number_word [.d d]) Q E := by
  unfold fn_number_word g_number_word
  rw [W_run]
  rcases h with h | ⟨b, rfl⟩
  · wp_walk using h
    exact k
  · walk_at "go"
    exact k
theorem w_refused {d : D} (h : vIsi2 [d, .ty "int"] = some (.bl false) ∨ ∃ b, d = .bl b) (hs : Shows d) {Q : EV → Dv → Prop} {E : EC} (k : Q (.d (.bl true)) [.d d]) : W (fn_law_refused [.d d]) Q E := by
  obtain ⟨x, hx⟩ := hs
  unfold fn_law_refused g_law_refused
  rw [W_run]
  walk_at "go"
  refine w_word_no h ?_
  walk_at "go"
  refine cgo_yes (o' := .rt (.d (.bl true)) [.d d, .no]) (by decide) (fun a d' => ?_) ?_
  · dsimp only
    wp_walk using hx
  · walk_at "go"
    exact k
theorem fig_get : ∀ d, d ∈ List.range 10 → (Str.ofString "0123456789").cps.toList[d]? = some (48 + d) := by decide +kernel
theorem len_fig : (Str.ofString "0123456789").length = 10 := by decide +kernel
theorem len_mi : (Str.ofString "-").length = 1 := by decide +kernel
theorem cs_rep_mi (b : Bool) : cs (repS (Str.ofString "-") (if b = true then 1 else 0)) = if b = true then [45] else [] := by
  cases b <;> decide +kernel
def FgI (N : Nat) (j : Nat) (z : Str × Nat × Sl) : Prop := (z.2.1 * 10 ^ j ≤ N ∧ z.1.length ≤ j) ∧ (((j = 0 ∨ 0 < z.2.1) ∧ figs N = figs z.2.1 ++ cs z.1) ∨ (0 < j ∧ z.2.1 = 0 ∧ figs N = cs z.1))
theorem fg_step {N j left : Nat} {fd : Str} {s3 s3' : Sl} (h : FgI N j (fd, left, s3)) (hc : j = 0 ∨ 0 < left) : FgI N (j + 1) ((⟨#[48 + left % 10]⟩ : Str) ++ fd, left / 10, s3') := by
  obtain ⟨⟨h1, h2⟩, h3⟩ := h
  dsimp only at h1 h2 h3
  have hN : figs N = figs left ++ cs fd := by
    rcases h3 with ⟨_, h⟩ | ⟨ha, hb, _⟩
    · exact h
    · omega
  refine ⟨⟨?_, ?_⟩, ?_⟩
  · dsimp only
    have : left / 10 * 10 ^ (j + 1) = (left / 10 * 10) * 10 ^ j := by rw [Nat.pow_succ, Nat.mul_comm (10 ^ j) 10, ← Nat.mul_assoc]
    rw [this]
    exact Nat.le_trans (Nat.mul_le_mul_right _ (by omega)) h1
  · dsimp only
    rw [len_app, len_one]; omega
  · dsimp only
    rw [cs_append, sg_ext]
    by_cases h10 : 10 ≤ left
    · refine .inl ⟨.inr (by omega), ?_⟩
      rw [hN, figs_ge h10, List.append_assoc]
    · refine .inr ⟨by omega, by omega, ?_⟩
      rw [hN, figs_lt (by omega), show left % 10 = left by omega]
theorem w_figures {i : Int} (h : i.natAbs < 10000000000000000000000000000000) {Q : EV → Dv → Prop} {E : EC} (k : Q (.d (.str (numS i))) [.d (.int i)]) : W (fn_law_figures [.d (.int i)]) Q E := by
  unfold fn_law_figures g_law_figures
  rw [W_run]
  walk_at "go"
  have ea : (if i < 0 then -i else i) = (i.natAbs : Int) := by split <;> omega
  rw [ea]
  refine KFo_up (fun z : Str × Nat × Sl => [(1, .d (.str z.1)), (2, .d (.int z.2.1)), (3, z.2.2)]) (FgI i.natAbs) (Str.ofString "", i.natAbs, .no) rfl ⟨⟨by simp, by show (Str.ofString "").length ≤ 0; decide +kernel⟩, .inl ⟨.inl rfl, by rw [show cs (Str.ofString "") = [] by unfold cs; rw [lit_nil], List.append_nil]⟩⟩ ?_ ?_
  · rintro x j ⟨fd, left, s3⟩ hx hk
    have hj : j < 31 := by
      have := (List.getElem?_eq_some_iff.mp hx).1
      rw [len_rng] at this
      exact this
    have ex : x = .int j := by
      have := (List.getElem?_eq_some_iff.mp hx).2
      rw [← this]; simp [rngL]
    subst ex
    have h2 := hk.1.2
    dsimp only at h2
    walk_at "go"
    refine KOB_by (fun hb => ?_) fun hb => ?_
    · walk_at "go"
      refine at_eq (x := 48 + left % 10) (by omega) ?_ ?_
      · have := fig_get (left % 10) (List.mem_range.mpr (by omega))
        rw [show ((left : Int) % 10).toNat = left % 10 by omega]
        exact this
      · walk_at "go"
        refine ⟨(_, left / 10, _), ?_, fg_step (s3' := .d (.int j)) hk (.inr (by simpa using hb))⟩
        rw [show (left : Int) / 10 = ((left / 10 : Nat) : Int) by omega]
    · walk_at "go"
      refine SI_by (fun hc => ?_) fun hc => ?_
      · walk_at "go"
        refine at_eq (x := 48 + left % 10) (by omega) ?_ ?_
        · have := fig_get (left % 10) (List.mem_range.mpr (by omega))
          rw [show ((left : Int) % 10).toNat = left % 10 by omega]
          exact this
        · walk_at "go"
          refine ⟨(_, left / 10, _), ?_, fg_step (s3' := .d (.int j)) hk (.inl (by simpa using hc))⟩
          rw [show (left : Int) / 10 = ((left / 10 : Nat) : Int) by omega]
      · walk_at "go"
        refine ⟨(fd, left, .d (.int j)), rfl, ⟨?_, by dsimp only; omega⟩, ?_⟩
        · have h0 : left = 0 := by simpa using hb
          dsimp only; rw [h0]; simp
        · have h0 : left = 0 := by simpa using hb
          rcases hk.2 with ⟨hx, _⟩ | ⟨_, _, h⟩
          · dsimp only at hx
            have : ¬ j = 0 := by simpa using hc
            omega
          · exact .inr ⟨by omega, h0, h⟩
  · rintro ⟨fd, left, s3⟩ ⟨⟨h1, h2⟩, h3⟩
    dsimp only at h1 h2 h3
    rw [len_rng] at h1 h2 h3
    have hl0 : left = 0 := by
      have e31 : (10 : Nat) ^ 31 = 10000000000000000000000000000000 := by decide
      rw [e31] at h1
      by_cases h0 : left = 0
      · exact h0
      · have : 1 * 10000000000000000000000000000000 ≤ left * 10000000000000000000000000000000 := Nat.mul_le_mul_right _ (by omega)
        omega
    subst hl0
    clear h1
    have hN : figs i.natAbs = cs fd := by
      rcases h3 with ⟨ha, _⟩ | ⟨_, _, h⟩
      · omega
      · exact h
    walk_at "go"
    have er : numS i = repS (Str.ofString "-") (if decide (i < 0) = true then 1 else 0) ++ fd := by
      apply str_ext
      rw [cs_numS, cs_append, cs_rep_mi]
      unfold numL
      rw [hN]
      by_cases hi : i < 0 <;> simp [hi]
    have lm := len_mi
    have hif : (if decide (i < 0) = true then (1 : Int) else 0) = 0 ∨ (if decide (i < 0) = true then (1 : Int) else 0) = 1 := by
      by_cases hi : i < 0 <;> simp [hi]
    rw [er] at k
    generalize (if decide (i < 0) = true then (1 : Int) else 0) = u at hif k
    refine ⟨⟨by omega, by omega, ?_⟩, ?_, k⟩
    · rw [lm]; omega
    · rw [rep_len', lm]; omega
end FD
end
section
set_option Elab.async false
set_option linter.all false
set_option maxRecDepth 100000
set_option maxHeartbeats 4000000
namespace FD
open PySem L2 PySem.NumText
local macro_rules | `(tactic| walk_at "ev") => `(tactic| simp only [W_ok, W_no, WS_ok, WS_no, VQ_some, LV_d, LF_d, LF_o, LW_d, LW_o, W_fC, W_fV, W_fVF, W_fVW, toD_l, toD_c, eD_d, eD_o, sl_d, sl_o, W_fD, R_KD, W_fX, R_KX, W_f1, R_K1, W_f2, R_K2, R_K2b, W_fN, R_KN, W_fW, R_KW, W_fNil, W_fCons, R_KC, R_KCb, W_fB, R_KB, W_fBv, R_KBv, W_fNotB, R_KNB, W_fAndB, R_KABt, R_KABf, W_fOrB, R_KOBt, R_KOBf, W_fAnd, R_KAt, R_KAf, W_fOr, R_KOt, R_KOf, W_fIf, R_KIt, R_KIf, W_fIsN, R_KIN, W_fNotN, R_KNN, W_fChain, R_KH1, R_KH2, R_KH3t, R_KH3f, W_fM1, R_KM1, R_KM1b, W_fIxN, R_IxAd, R_IxAo, R_KIx, R_IxBo, R_IxBd, W_fMt, R_MtA, R_KMt, R_MtB, R_MtC, W_fSl, R_KSl1, R_KSl2, R_KSl3, W_oNone, W_oSome, R_KOs, W_fItems, R_KItl, R_KIts, W_fItemsT, R_KItT, W_fSigns, R_KSg, W_fRng1, R_KR1, W_aNil, W_aCons, R_KAc, R_KAb, R_KAi, W_aBor, R_ABd, R_ABo, W_fCall, R_KCl, R_KP, R_pb0, R_pbd, R_pbb, keep_o, keep_d, R_asd, R_asb, R_bi0, R_bid, R_bib, R_RPr, R_RPn, WS_nil, WS_seq, R_SQn, R_SQr, R_SQb, R_SQc, WS_set, R_KS, WS_ret, R_KRt, WS_expr, R_KEx, WS_if, R_SIt, R_SIf, WS_for, WS_par, R_KPar, R_KPa, WS_asg, R_KAs, AsQ_some, R_gNm, R_gTp, R_gS0, R_gS1, WS_rz, R_KRz, WS_star, R_KSt, WS_setIx, R_KSx, R_SxA, R_KSx2, R_SxB, WS_try, R_TyE, R_LPn, R_LPc, R_LPb, R_LPr, W_fLcE, R_KLbt, R_KLbf, R_KLt, W_fYes, q_bxA, q_bxK, q_addI, q_addS, q_addL, q_addT, q_subI, q_mulI, q_mulS, q_mulL, q_mod, q_div, q_pow, q_neg, q_not, q_lt, q_le, q_gt, q_ge, q_eqI, q_neI, q_eqS, q_neS, q_eqB, q_neB, q_eqTn, q_eqLn, q_inSg, q_ninSg, q_ixL, q_ixT, q_ixR, q_ixS, R_KCh, q_at0, q_at1, q_at2, q_lenS, q_lenT, q_lenL, q_lenR, q_max2, q_min2, q_min2E, q_max2E, q_abs, q_intI, q_intB, q_strS, q_ordc, q_tup, q_lst, q_listT, q_listL, q_tupT, q_tupL, q_slS, q_slL, q_slR, q_slT, q_revT, q_dct0, q_mkv, q_app', W_isT2, isN_n, isN_b, isN_i, isN_s, isN_t, isN_l, sets_nil, sets_cons, W_fFld, R_LFl, R_lk, R_hush, R_hush0, R_hushd, R_husho, R_hushn, R_hushb, R_finr, R_finn, R_finb, R_finc, Nat.reduceLT, Nat.reduceSub, Nat.reduceAdd, Nat.reduceLeDiff, Nat.reduceMul, if_true, if_false, List.map_cons, List.map_nil, List.length_cons, List.length_nil, List.getElem?_cons_zero, List.getElem?_cons_succ, List.set_cons_zero, List.set_cons_succ, Option.getD_some, List.nodup_cons, List.nodup_nil, List.not_mem_nil, List.mem_cons, List.mem_singleton, not_false_eq_true, true_and, and_true, and_self, Bool.not_true, Bool.not_false, decide_true, decide_false, List.take_succ_cons, List.take_zero, List.cons_append, List.nil_append, List.replicate_succ, List.replicate_zero, slOf, wipeD, backD, List.foldr_cons, List.foldr_nil, eq_self_iff_true, or_false, false_or, ite_true, ite_false, reduceIte, Int.reduceNeg, Int.reduceLT, Int.reduceLE, Int.reduceAdd, Int.reduceSub, Int.reduceMul, reduceCtorEq, not_true_eq_false, Nat.lt_irrefl, Nat.not_lt_zero, Nat.le_refl, List.getElem?_nil, Int.reduceToNat, true_or, or_true, List.isEmpty_nil, List.isEmpty_cons, Int.toNat_natCast, lim_eq, bo_sl])
local macro_rules | `(tactic| wp_walk using $[$ts:term],*) => `(tactic| simp only [W_ok, W_no, WS_ok, WS_no, VQ_some, LV_d, LF_d, LF_o, LW_d, LW_o, W_fC, W_fV, W_fVF, W_fVW, toD_l, toD_c, eD_d, eD_o, sl_d, sl_o, W_fD, R_KD, W_fX, R_KX, W_f1, R_K1, W_f2, R_K2, R_K2b, W_fN, R_KN, W_fW, R_KW, W_fNil, W_fCons, R_KC, R_KCb, W_fB, R_KB, W_fBv, R_KBv, W_fNotB, R_KNB, W_fAndB, R_KABt, R_KABf, W_fOrB, R_KOBt, R_KOBf, W_fAnd, R_KAt, R_KAf, W_fOr, R_KOt, R_KOf, W_fIf, R_KIt, R_KIf, W_fIsN, R_KIN, W_fNotN, R_KNN, W_fChain, R_KH1, R_KH2, R_KH3t, R_KH3f, W_fM1, R_KM1, R_KM1b, W_fIxN, R_IxAd, R_IxAo, R_KIx, R_IxBo, R_IxBd, W_fMt, R_MtA, R_KMt, R_MtB, R_MtC, W_fSl, R_KSl1, R_KSl2, R_KSl3, W_oNone, W_oSome, R_KOs, W_fItems, R_KItl, R_KIts, W_fItemsT, R_KItT, W_fSigns, R_KSg, W_fRng1, R_KR1, W_aNil, W_aCons, R_KAc, R_KAb, R_KAi, W_aBor, R_ABd, R_ABo, W_fCall, R_KCl, R_KP, R_pb0, R_pbd, R_pbb, keep_o, keep_d, R_asd, R_asb, R_bi0, R_bid, R_bib, R_RPr, R_RPn, WS_nil, WS_seq, R_SQn, R_SQr, R_SQb, R_SQc, WS_set, R_KS, WS_ret, R_KRt, WS_expr, R_KEx, WS_if, R_SIt, R_SIf, WS_for, WS_par, R_KPar, R_KPa, WS_asg, R_KAs, AsQ_some, R_gNm, R_gTp, R_gS0, R_gS1, WS_rz, R_KRz, WS_star, R_KSt, WS_setIx, R_KSx, R_SxA, R_KSx2, R_SxB, WS_try, R_TyE, R_LPn, R_LPc, R_LPb, R_LPr, W_fLcE, R_KLbt, R_KLbf, R_KLt, W_fYes, q_bxA, q_bxK, q_addI, q_addS, q_addL, q_addT, q_subI, q_mulI, q_mulS, q_mulL, q_mod, q_div, q_pow, q_neg, q_not, q_lt, q_le, q_gt, q_ge, q_eqI, q_neI, q_eqS, q_neS, q_eqB, q_neB, q_eqTn, q_eqLn, q_inSg, q_ninSg, q_ixL, q_ixT, q_ixR, q_ixS, R_KCh, q_at0, q_at1, q_at2, q_lenS, q_lenT, q_lenL, q_lenR, q_max2, q_min2, q_min2E, q_max2E, q_abs, q_intI, q_intB, q_strS, q_ordc, q_tup, q_lst, q_listT, q_listL, q_tupT, q_tupL, q_slS, q_slL, q_slR, q_slT, q_revT, q_dct0, q_mkv, q_app', W_isT2, isN_n, isN_b, isN_i, isN_s, isN_t, isN_l, sets_nil, sets_cons, W_fFld, R_LFl, R_lk, R_hush, R_hush0, R_hushd, R_husho, R_hushn, R_hushb, R_finr, R_finn, R_finb, R_finc, Nat.reduceLT, Nat.reduceSub, Nat.reduceAdd, Nat.reduceLeDiff, Nat.reduceMul, if_true, if_false, List.map_cons, List.map_nil, List.length_cons, List.length_nil, List.getElem?_cons_zero, List.getElem?_cons_succ, List.set_cons_zero, List.set_cons_succ, Option.getD_some, List.nodup_cons, List.nodup_nil, List.not_mem_nil, List.mem_cons, List.mem_singleton, not_false_eq_true, true_and, and_true, and_self, Bool.not_true, Bool.not_false, decide_true, decide_false, List.take_succ_cons, List.take_zero, List.cons_append, List.nil_append, List.replicate_succ, List.replicate_zero, slOf, wipeD, backD, List.foldr_cons, List.foldr_nil, eq_self_iff_true, or_false, false_or, ite_true, ite_false, reduceIte, Int.reduceNeg, Int.reduceLT, Int.reduceLE, Int.reduceAdd, Int.reduceSub, Int.reduceMul, reduceCtorEq, not_true_eq_false, Nat.lt_irrefl, Nat.not_lt_zero, Nat.le_refl, List.getElem?_nil, Int.reduceToNat, true_or, or_true, List.isEmpty_nil, List.isEmpty_cons, Int.toNat_natCast, lim_eq, bo_sl, $[$ts:term],*])
local macro_rules | `(tactic| walk_at "sd") => `(tactic| first | omega | (simp only [len_app, len_one, len_rng, rep_len', Int.reduceToNat, List.length_append, List.length_cons, List.length_nil, List.length_replicate]; omega) | decide +kernel)
local macro_rules | `(tactic| walk_at "go") => `(tactic| ((try walk_at "ev"); repeat (with_reducible refine And.intro (by walk_at "sd") ?_; try walk_at "ev")))
theorem w_number {n : Nat} {q : Bo} {Q : EV → Dv → Prop} {E : EC} (h : Bok n q) (hn : n ≤ 800000) (k : ∀ i q', i.natAbs < 10000000000000000000000000000000 → Bok (n + 10) q' → Q (.d (.int i)) [bx q']) : W (fn_law_number [bx q]) Q E := by
  unfold fn_law_number g_law_number
  rw [W_run]
  walk_at "go"
  refine s_take2 h (by omega) (by omega) (by omega) fun r1 q1 a1 b1 h1 => ?_
  walk_at "go"
  refine at_any a1 (by simpa using b1) fun x hx _ => ?_
  obtain ⟨many, rfl, m1, m2⟩ := ints_in (lo := 1) (hi := 30) hx (by
    simp only [mem_ints, List.not_mem_nil, false_imp_iff, implies_true, and_true]
    refine ⟨⟨_, rfl, ?_, ?_⟩, ⟨_, rfl, ?_, ?_⟩, ⟨_, rfl, ?_, ?_⟩, ⟨_, rfl, ?_, ?_⟩, ⟨_, rfl, ?_, ?_⟩, ⟨_, rfl, ?_, ?_⟩⟩ <;> omega)
  walk_at "go"
  refine KFo_up (fun z : Int × Sl => [(2, .d (.int z.1)), (3, z.2)]) (fun j z => 1 ≤ z.1 ∧ z.1 ≤ ((10 ^ j : Nat) : Int)) (1, .no) rfl ⟨by simp, by simp⟩ ?_ ?_
  · rintro x j ⟨top, s3⟩ hx ⟨t1, t2⟩
    dsimp only at t1 t2
    walk_at "go"
    refine ⟨(top * 10, _), rfl, ?_, ?_⟩
    · dsimp only; omega
    · dsimp only; rw [Nat.pow_succ, Int.natCast_mul]; omega
  · rintro ⟨top, s3⟩ ⟨t1, t2⟩
    dsimp only at t1 t2
    have t3 : top ≤ 100000000000000000000000000000 := by
      have e : (10 : Nat) ^ (rngL 0 (many - 1).toNat).length ≤ 10 ^ 29 := Nat.pow_le_pow_right (by omega) (by rw [len_rng]; omega)
      have e29 : (10 : Nat) ^ 29 = 100000000000000000000000000000 := by decide
      rw [e29] at e
      generalize (10 : Nat) ^ (rngL 0 (many - 1).toNat).length = w at e t2
      omega
    clear t2
    walk_at "go"
    refine s_take2 h1 (by omega) (by omega) (by omega) fun r2 q2 a2 b2 h2 => ?_
    walk_at "go"
    refine s_take2 h2 (by omega) (by omega) (by omega) fun r3 q3 a3 b3 h3 => ?_
    walk_at "go"
    refine at_any a3 (by simpa using b3) fun x hx _ => ?_
    obtain ⟨v, rfl, v1, v2⟩ := ints_in (lo := 0) (hi := 1000000000000000000000000000000) hx (by
      simp only [mem_ints, List.not_mem_nil, false_imp_iff, implies_true, and_true]
      refine ⟨⟨_, rfl, ?_, ?_⟩, ⟨_, rfl, ?_, ?_⟩, ⟨_, rfl, ?_, ?_⟩, ⟨_, rfl, ?_, ?_⟩, ⟨_, rfl, ?_, ?_⟩⟩ <;> omega)
    walk_at "go"
    refine s_take2 h3 (by omega) (by omega) (by omega) fun r4 q4 a4 b4 h4 => ?_
    walk_at "go"
    refine at_any a4 (by simpa using b4) fun x hx _ => ?_
    obtain ⟨u, rfl, u1, u2⟩ := ints_in (lo := -1000000000000000000000000000000) (hi := 1000000000000000000000000000000) hx (by
      simp only [mem_ints, List.not_mem_nil, false_imp_iff, implies_true, and_true]
      refine ⟨⟨_, rfl, ?_, ?_⟩, ⟨_, rfl, ?_, ?_⟩⟩ <;> omega)
    walk_at "go"
    exact k _ _ (by omega) (h4.mono (by omega))
theorem strs_in {l : List D} {x : D} {n : Nat} (hx : x ∈ l) (h : ∀ y ∈ l, Small n y) : ∃ s : Str, x = .str s ∧ Small n (.str s) := by
  have := h x hx
  obtain ⟨t, rfl, h1⟩ := this
  exact ⟨t, rfl, t, rfl, h1⟩
theorem w_bent2 {n : Nat} {q : Bo} {s : Str} {Q : EV → Dv → Prop} {E : EC} (h : Bok n q) (hn : n ≤ 800000) (hs : Small 40 (.str s)) (k : ∀ t q', Small 90 (.str t) → Bok (n + 5) q' → Q (.d (.str t)) [bx q', .d (.str s)]) : W (fn_law_bent_two [bx q, .d (.str s)]) Q E := by
  have hl := hs.len
  unfold fn_law_bent_two g_law_bent_two
  rw [W_run]
  walk_at "go"
  refine s_take2 h (by omega) (by omega) (by omega) fun r1 q1 a1 b1 h1 => ?_
  walk_at "go"
  refine s_take2 h1 (by omega) (by omega) (by omega) fun r2 q2 a2 b2 h2 => ?_
  walk_at "go"
  refine at_any a2 (by simpa using b2) fun x hx _ => ?_
  obtain ⟨sg, rfl, hsg⟩ := strs_in (n := 2) hx (by
    simp only [mem_ints, List.not_mem_nil, false_imp_iff, implies_true, and_true]
    refine ⟨?_, ?_, ?_, ?_, ?_, ?_, ?_, ?_, ?_, ?_, ?_⟩ <;> exact lit_small 2 (by decide +kernel))
  have hsl := hsg.len
  have c1 := (small_cut none (some r1) hs).len
  have c2 := (small_cut (some r1) none hs).len
  have c3 := (small_cut (some (r1 + 1)) none hs).len
  walk_at "go"
  refine s_take2 h2 (by omega) (by omega) (by omega) fun r3 q3 a3 b3 h3 => ?_
  walk_at "go"
  refine at_any a3 (by simpa using b3) fun x hx _ => ?_
  obtain ⟨t, rfl, ht⟩ := strs_in (n := 90) hx (by
    simp only [mem_ints, List.not_mem_nil, false_imp_iff, implies_true, and_true]
    exact ⟨(small_app (small_app (small_cut _ _ hs) hsg) (small_cut _ _ hs)).mono (by omega), (small_app (small_cut _ _ hs) (small_cut _ _ hs)).mono (by omega), (small_app hsg hs).mono (by omega), (small_app hs hsg).mono (by omega)⟩)
  walk_at "go"
  exact k _ _ ht (h3.mono (by omega))
end FD
end
section
set_option Elab.async false
set_option linter.all false
set_option maxRecDepth 100000
set_option maxHeartbeats 4000000
namespace FD
open PySem L2 PySem.NumText
local macro_rules | `(tactic| walk_at "ev") => `(tactic| simp only [W_ok, W_no, WS_ok, WS_no, VQ_some, LV_d, LF_d, LF_o, LW_d, LW_o, W_fC, W_fV, W_fVF, W_fVW, toD_l, toD_c, eD_d, eD_o, sl_d, sl_o, W_fD, R_KD, W_fX, R_KX, W_f1, R_K1, W_f2, R_K2, R_K2b, W_fN, R_KN, W_fW, R_KW, W_fNil, W_fCons, R_KC, R_KCb, W_fB, R_KB, W_fBv, R_KBv, W_fNotB, R_KNB, W_fAndB, R_KABt, R_KABf, W_fOrB, R_KOBt, R_KOBf, W_fAnd, R_KAt, R_KAf, W_fOr, R_KOt, R_KOf, W_fIf, R_KIt, R_KIf, W_fIsN, R_KIN, W_fNotN, R_KNN, W_fChain, R_KH1, R_KH2, R_KH3t, R_KH3f, W_fM1, R_KM1, R_KM1b, W_fIxN, R_IxAd, R_IxAo, R_KIx, R_IxBo, R_IxBd, W_fMt, R_MtA, R_KMt, R_MtB, R_MtC, W_fSl, R_KSl1, R_KSl2, R_KSl3, W_oNone, W_oSome, R_KOs, W_fItems, R_KItl, R_KIts, W_fItemsT, R_KItT, W_fSigns, R_KSg, W_fRng1, R_KR1, W_aNil, W_aCons, R_KAc, R_KAb, R_KAi, W_aBor, R_ABd, R_ABo, W_fCall, R_KCl, R_KP, R_pb0, R_pbd, R_pbb, keep_o, keep_d, R_asd, R_asb, R_bi0, R_bid, R_bib, R_RPr, R_RPn, WS_nil, WS_seq, R_SQn, R_SQr, R_SQb, R_SQc, WS_set, R_KS, WS_ret, R_KRt, WS_expr, R_KEx, WS_if, R_SIt, R_SIf, WS_for, WS_par, R_KPar, R_KPa, WS_asg, R_KAs, AsQ_some, R_gNm, R_gTp, R_gS0, R_gS1, WS_rz, R_KRz, WS_star, R_KSt, WS_setIx, R_KSx, R_SxA, R_KSx2, R_SxB, WS_try, R_TyE, R_LPn, R_LPc, R_LPb, R_LPr, W_fLcE, R_KLbt, R_KLbf, R_KLt, W_fYes, q_bxA, q_bxK, q_addI, q_addS, q_addL, q_addT, q_subI, q_mulI, q_mulS, q_mulL, q_mod, q_div, q_pow, q_neg, q_not, q_lt, q_le, q_gt, q_ge, q_eqI, q_neI, q_eqS, q_neS, q_eqB, q_neB, q_eqTn, q_eqLn, q_inSg, q_ninSg, q_ixL, q_ixT, q_ixR, q_ixS, R_KCh, q_at0, q_at1, q_at2, q_lenS, q_lenT, q_lenL, q_lenR, q_max2, q_min2, q_min2E, q_max2E, q_abs, q_intI, q_intB, q_strS, q_ordc, q_tup, q_lst, q_listT, q_listL, q_tupT, q_tupL, q_slS, q_slL, q_slR, q_slT, q_revT, q_dct0, q_mkv, q_app', W_isT2, isN_n, isN_b, isN_i, isN_s, isN_t, isN_l, sets_nil, sets_cons, W_fFld, R_LFl, R_lk, R_hush, R_hush0, R_hushd, R_husho, R_hushn, R_hushb, R_finr, R_finn, R_finb, R_finc, Nat.reduceLT, Nat.reduceSub, Nat.reduceAdd, Nat.reduceLeDiff, Nat.reduceMul, if_true, if_false, List.map_cons, List.map_nil, List.length_cons, List.length_nil, List.getElem?_cons_zero, List.getElem?_cons_succ, List.set_cons_zero, List.set_cons_succ, Option.getD_some, List.nodup_cons, List.nodup_nil, List.not_mem_nil, List.mem_cons, List.mem_singleton, not_false_eq_true, true_and, and_true, and_self, Bool.not_true, Bool.not_false, decide_true, decide_false, List.take_succ_cons, List.take_zero, List.cons_append, List.nil_append, List.replicate_succ, List.replicate_zero, slOf, wipeD, backD, List.foldr_cons, List.foldr_nil, eq_self_iff_true, or_false, false_or, ite_true, ite_false, reduceIte, Int.reduceNeg, Int.reduceLT, Int.reduceLE, Int.reduceAdd, Int.reduceSub, Int.reduceMul, reduceCtorEq, not_true_eq_false, Nat.lt_irrefl, Nat.not_lt_zero, Nat.le_refl, List.getElem?_nil, Int.reduceToNat, true_or, or_true, List.isEmpty_nil, List.isEmpty_cons, Int.toNat_natCast, lim_eq, bo_sl, isi_NoneType_str, isi_bool_str, isi_int_str, isi_str_str, isi_list_str])
local macro_rules | `(tactic| wp_walk using $[$ts:term],*) => `(tactic| simp only [W_ok, W_no, WS_ok, WS_no, VQ_some, LV_d, LF_d, LF_o, LW_d, LW_o, W_fC, W_fV, W_fVF, W_fVW, toD_l, toD_c, eD_d, eD_o, sl_d, sl_o, W_fD, R_KD, W_fX, R_KX, W_f1, R_K1, W_f2, R_K2, R_K2b, W_fN, R_KN, W_fW, R_KW, W_fNil, W_fCons, R_KC, R_KCb, W_fB, R_KB, W_fBv, R_KBv, W_fNotB, R_KNB, W_fAndB, R_KABt, R_KABf, W_fOrB, R_KOBt, R_KOBf, W_fAnd, R_KAt, R_KAf, W_fOr, R_KOt, R_KOf, W_fIf, R_KIt, R_KIf, W_fIsN, R_KIN, W_fNotN, R_KNN, W_fChain, R_KH1, R_KH2, R_KH3t, R_KH3f, W_fM1, R_KM1, R_KM1b, W_fIxN, R_IxAd, R_IxAo, R_KIx, R_IxBo, R_IxBd, W_fMt, R_MtA, R_KMt, R_MtB, R_MtC, W_fSl, R_KSl1, R_KSl2, R_KSl3, W_oNone, W_oSome, R_KOs, W_fItems, R_KItl, R_KIts, W_fItemsT, R_KItT, W_fSigns, R_KSg, W_fRng1, R_KR1, W_aNil, W_aCons, R_KAc, R_KAb, R_KAi, W_aBor, R_ABd, R_ABo, W_fCall, R_KCl, R_KP, R_pb0, R_pbd, R_pbb, keep_o, keep_d, R_asd, R_asb, R_bi0, R_bid, R_bib, R_RPr, R_RPn, WS_nil, WS_seq, R_SQn, R_SQr, R_SQb, R_SQc, WS_set, R_KS, WS_ret, R_KRt, WS_expr, R_KEx, WS_if, R_SIt, R_SIf, WS_for, WS_par, R_KPar, R_KPa, WS_asg, R_KAs, AsQ_some, R_gNm, R_gTp, R_gS0, R_gS1, WS_rz, R_KRz, WS_star, R_KSt, WS_setIx, R_KSx, R_SxA, R_KSx2, R_SxB, WS_try, R_TyE, R_LPn, R_LPc, R_LPb, R_LPr, W_fLcE, R_KLbt, R_KLbf, R_KLt, W_fYes, q_bxA, q_bxK, q_addI, q_addS, q_addL, q_addT, q_subI, q_mulI, q_mulS, q_mulL, q_mod, q_div, q_pow, q_neg, q_not, q_lt, q_le, q_gt, q_ge, q_eqI, q_neI, q_eqS, q_neS, q_eqB, q_neB, q_eqTn, q_eqLn, q_inSg, q_ninSg, q_ixL, q_ixT, q_ixR, q_ixS, R_KCh, q_at0, q_at1, q_at2, q_lenS, q_lenT, q_lenL, q_lenR, q_max2, q_min2, q_min2E, q_max2E, q_abs, q_intI, q_intB, q_strS, q_ordc, q_tup, q_lst, q_listT, q_listL, q_tupT, q_tupL, q_slS, q_slL, q_slR, q_slT, q_revT, q_dct0, q_mkv, q_app', W_isT2, isN_n, isN_b, isN_i, isN_s, isN_t, isN_l, sets_nil, sets_cons, W_fFld, R_LFl, R_lk, R_hush, R_hush0, R_hushd, R_husho, R_hushn, R_hushb, R_finr, R_finn, R_finb, R_finc, Nat.reduceLT, Nat.reduceSub, Nat.reduceAdd, Nat.reduceLeDiff, Nat.reduceMul, if_true, if_false, List.map_cons, List.map_nil, List.length_cons, List.length_nil, List.getElem?_cons_zero, List.getElem?_cons_succ, List.set_cons_zero, List.set_cons_succ, Option.getD_some, List.nodup_cons, List.nodup_nil, List.not_mem_nil, List.mem_cons, List.mem_singleton, not_false_eq_true, true_and, and_true, and_self, Bool.not_true, Bool.not_false, decide_true, decide_false, List.take_succ_cons, List.take_zero, List.cons_append, List.nil_append, List.replicate_succ, List.replicate_zero, slOf, wipeD, backD, List.foldr_cons, List.foldr_nil, eq_self_iff_true, or_false, false_or, ite_true, ite_false, reduceIte, Int.reduceNeg, Int.reduceLT, Int.reduceLE, Int.reduceAdd, Int.reduceSub, Int.reduceMul, reduceCtorEq, not_true_eq_false, Nat.lt_irrefl, Nat.not_lt_zero, Nat.le_refl, List.getElem?_nil, Int.reduceToNat, true_or, or_true, List.isEmpty_nil, List.isEmpty_cons, Int.toNat_natCast, lim_eq, bo_sl, isi_NoneType_str, isi_bool_str, isi_int_str, isi_str_str, isi_list_str, $[$ts:term],*])
local macro_rules | `(tactic| walk_at "sd") => `(tactic| first | omega | (simp only [len_app, len_one, len_rng, rep_len', Int.reduceToNat, List.length_append, List.length_cons, List.length_nil, List.length_replicate]; omega) | decide +kernel)
local macro_rules | `(tactic| walk_at "go") => `(tactic| ((try walk_at "ev"); repeat (with_reducible refine And.intro (by walk_at "sd") ?_; try walk_at "ev")))
theorem w_number_no {d : D} (h : vIsi2 [d, .ty "str"] = some (.bl false)) {Q : EV → Dv → Prop} {E : EC} (k : Q (.d .non) [.d d]) : W (fn_number_in [.d d]) Q E := by
  unfold fn_number_in g_number_in
  rw [W_run]
  wp_walk using h
  exact k
theorem small_shows {s : Str} {n : Nat} (h : Small n (.str s)) (hn : n ≤ 1000) : Shows (.str s) := ((g_small (p := 0) h hn).top (by omega) (by omega)).2
theorem int_shows {i : Int} (h : i.natAbs < 1000000000000000000000000000000000000000000) : Shows (.int i) := ((g_int (p := 0) h).top (by omega) (by omega)).2
theorem numS_small {i : Int} (h : i.natAbs < 10000000000000000000000000000000) : Small 40 (.str (numS i)) := by
  have e31 : (10 : Nat) ^ 31 = 10000000000000000000000000000000 := by decide
  have hl := figs_len (n := i.natAbs) (k := 31) (by rw [e31]; exact h) (by omega)
  refine ⟨_, rfl, ?_, fun c hc => ?_⟩
  · rw [length_cs, cs_numS]; unfold numL
    rw [List.length_append]
    split <;> simp <;> omega
  · rw [cs_numS] at hc
    unfold numL at hc
    rcases List.mem_append.mp hc with hc | hc
    · split at hc
      · rw [List.mem_singleton] at hc; omega
      · cases hc
    · have := figs_all _ c hc; omega
theorem nonumber_shows : Shows (.exc "NoNumber" [.int 7]) := by
  have c : (("NoNumber" : Str) ++ "(" ++ toString (7 : Int) ++ ")").length ≤ lim ∧ ("NoNumber" : Str).length ≤ 1000 ∧ (7 : Int).natAbs.log2 < 1920 := by
    refine ⟨?_, ?_, ?_⟩ <;> decide +kernel
  refine ⟨("NoNumber" : Str) ++ "(" ++ toString (7 : Int) ++ ")", ?_⟩
  unfold vRepr
  exact if_pos c
theorem rep_all {m c : Nat} (h : 48 ≤ c ∧ c ≤ 57) : AllDigits (List.replicate m c) := fun d hd => by rw [(List.mem_replicate.mp hd).2]; exact h
theorem numD_rep {m c : Nat} (h : 49 ≤ c ∧ c ≤ 57) (hm : 0 < m) : numD (List.replicate m c) = .int (digitsVal (List.replicate m c)) ∧ numD (45 :: List.replicate m c) = .int (-(digitsVal (List.replicate m c) : Int)) ∧ numD (48 :: List.replicate m c) = .non := by
  have ha := all_of (rep_all (m := m) (c := c) (by omega))
  obtain ⟨m, rfl⟩ : ∃ k, m = k + 1 := ⟨m - 1, by omega⟩
  have h1 : (List.replicate (m + 1) c).head? = some c := by simp [List.replicate_succ]
  have h2 : List.replicate (m + 1) c ≠ [] := by simp [List.replicate_succ]
  refine ⟨?_, ?_, ?_⟩
  · unfold numD
    have n1 : ¬ (List.replicate (m + 1) c).head? = some 45 := by rw [h1]; simp; omega
    have n2 : ¬ (List.replicate (m + 1) c).head? = some 48 := by rw [h1]; simp; omega
    simp only [if_neg n1, if_neg h2, ha]
    rw [if_neg (by simp), if_neg (fun z => n2 z.1)]
  · unfold numD
    have n2 : ¬ (List.replicate (m + 1) c).head? = some 48 := by rw [h1]; simp; omega
    simp only [List.head?_cons, if_true, List.tail_cons, if_neg h2, ha]
    rw [if_neg (by simp), if_neg (fun z => n2 z.1)]
  · unfold numD
    have n1 : ¬ (48 :: List.replicate (m + 1) c).head? = some 45 := by simp
    have ha2 := all_of (l := 48 :: List.replicate (m + 1) c) (fun d hd => by
      rcases List.mem_cons.mp hd with rfl | hd
      · omega
      · exact rep_all (m := m + 1) (c := c) (by omega) d hd)
    simp only [if_neg n1, ha2]
    rw [if_neg (by simp), if_neg (by simp), if_pos ⟨by simp, by simp [List.replicate_succ]⟩]
theorem cs_rep1 (c : Nat) (m : Int) : cs (repS ⟨#[c]⟩ m) = List.replicate m.toNat c := by
  unfold repS; rw [cs_mk]
  induction m.toNat with
  | zero => rfl
  | succ n ih => rw [List.replicate_succ, List.flatten_cons, ih]; rfl
theorem w_second {ns : List Int} (hn : ns.length ≤ 63) {Q : EV → Dv → Prop} {E : EC} (k : Q (.d (.bl true)) [.d (.scr (ns.map D.int))]) : W (fn_law_second [.d (.scr (ns.map D.int))]) Q E := by
  unfold fn_law_second g_law_second
  rw [W_run]
  walk_at "go"
  refine KFo_nm (fun l δ => (∃ s1 s2 s3 s4 s5 s6 s7 s8, δ = [.d (.scr (ns.map D.int)), s1, s2, s3, s4, s5, s6, s7, s8, .no]) ∧ ∀ x ∈ l, ∃ j : Nat, x = .int j) ⟨⟨_, _, _, _, _, _, _, _, rfl⟩, fun x hx => let ⟨j, _, e⟩ := mem_rng hx; ⟨j, e⟩⟩ ?_ ?_
  · rintro x l δ ⟨⟨s1, s2, s3, s4, s5, s6, s7, s8, rfl⟩, hl⟩
    obtain ⟨j, rfl⟩ := hl x (List.mem_cons_self ..)
    have hl' : ∀ x ∈ l, ∃ j : Nat, x = .int j := fun y hy => hl y (List.mem_cons_of_mem _ hy)
    walk_at "go"
    refine s_cell2 fun i => ?_
    walk_at "go"
    refine s_box fun q h => ?_
    walk_at "go"
    refine KFo_up (fun s : Bo × Sl × Sl × Sl × Sl => [(2, bx s.1), (3, s.2.1), (6, s.2.2.1), (7, s.2.2.2.1), (8, s.2.2.2.2)]) (fun k s => Bok (30 * k) s.1) (q, s3, s6, s7, s8) rfl h ?_ ?_
    · rintro x kk ⟨q, t3, t6, t7, t8⟩ hx hk
      have hk8 : kk < 4 := (List.getElem?_eq_some_iff.mp hx).1
      dsimp only at hk
      clear hx
      walk_at "go"
      refine w_number hk (by omega) fun v q1 hv h1 => ?_
      walk_at "go"
      refine w_figures hv ?_
      walk_at "go"
      have hsm := numS_small hv
      have hsl := hsm.len
      obtain ⟨x1, e1⟩ := small_shows hsm (by omega)
      obtain ⟨x2, e2⟩ := int_shows (i := v) (by omega)
      refine w_word (by omega) ?_
      wp_walk using e1
      refine w_number_in (by omega) ?_
      rw [cs_numS, numD_num]
      wp_walk using e2
      refine KFo_up (fun s : Bo × Str × Sl => [(2, bx s.1), (7, .d (.str s.2.1)), (8, s.2.2)]) (fun k s => Bok (30 * kk + 10 + 5 * k) s.1 ∧ Small 40 (.str s.2.1)) (q1, numS v, t8) rfl ⟨h1, hsm⟩ ?_ ?_
      · rintro y k3 ⟨q, t, t8⟩ hy ⟨hk, ht⟩
        have hk3 : k3 < 3 := (List.getElem?_eq_some_iff.mp hy).1
        dsimp only at hk ht
        clear hy
        walk_at "go"
        refine w_bent2 hk (by omega) ht fun u q2 hu h2 => ?_
        have hul := hu.len
        walk_at "go"
        have hc := (small_cut none (some 30) hu).upto (cutS_hi u 30)
        generalize cutS u none (some 30) = w at hc
        have hwl := hc.len
        obtain ⟨x3, e3⟩ := (numD_shows (l := cs w) (by rw [← length_cs]; omega)).1
        refine w_number_in (by omega) ?_
        wp_walk using e3
        obtain ⟨w', e4, h5, h6⟩ := hc
        cases e4
        refine w_writes (by omega) (fun c hc => h6 c hc) ?_
        wp_walk using e3
        refine ⟨(q2, w, _), rfl, h2.mono (by omega), w, rfl, by omega, h6⟩
      · rintro ⟨q, t, t8⟩ ⟨hk, ht⟩
        dsimp only at hk
        walk_at "go"
        exact ⟨(q, _, _, _, _), rfl, hk.mono (by simp [rngL]; omega)⟩
    · rintro ⟨q, t3, t6, t7, t8⟩ hk
      dsimp only at hk
      rw [show (rngL 0 4).length = 4 from rfl] at hk
      walk_at "go"
      refine s_take2 hk (by omega) (by omega) (by omega) fun r1 q1 a1 b1 h1 => ?_
      walk_at "go"
      have l9 : (Str.ofString "123456789").cps.toList.length = 9 := by decide +kernel
      refine at_any a1 (by rw [l9]; exact b1) fun c hc _ => ?_
      have hc9 : 49 ≤ c ∧ c ≤ 57 := by
        have all : ∀ c ∈ (Str.ofString "123456789").cps.toList, 49 ≤ c ∧ c ≤ 57 := by decide +kernel
        exact all c hc
      walk_at "go"
      refine s_take2 h1 (by omega) (by omega) (by omega) fun r2 q2 a2 b2 h2 => ?_
      have hL := cs_rep1 c (31 + r2)
      have hLl : (repS ⟨#[c]⟩ (31 + r2)).length ≤ 60 := by rw [length_cs, hL, List.length_replicate]; omega
      walk_at "go"
      generalize hw : repS (⟨#[c]⟩ : Str) (31 + r2) = L at hL hLl
      obtain ⟨n1, n2, n3⟩ := numD_rep (m := (31 + r2).toNat) hc9 (by omega)
      have hint : vInt [.str L] = some (.int (digitsVal (List.replicate (31 + r2).toNat c))) := by
        unfold vInt
        dsimp only
        have := intText_digits (x := L) (by rw [show L.cps.toList = cs L from rfl, hL]; exact rep_all (by omega)) (by rw [show L.cps.toList = cs L from rfl, hL]; obtain ⟨k, hk⟩ : ∃ k, (31 + r2).toNat = k + 1 := ⟨(30 + r2).toNat, by omega⟩; rw [hk]; simp [List.replicate_succ]) (by omega)
        rw [if_pos (by omega), this, show L.cps.toList = cs L from rfl, hL]
        rfl
      refine w_number_in (by omega) ?_
      rw [hL, n1]
      wp_walk using hint
      have cm : cs (Str.ofString "-") = [45] := by unfold cs; rw [lit_minus]
      have cz : cs (Str.ofString "0") = [48] := by unfold cs; rw [lit_zero]
      refine ⟨by rw [len_mi]; omega, ?_⟩
      refine w_number_in (by rw [len_app, len_mi]; omega) ?_
      rw [cs_append, cm, hL, show [45] ++ List.replicate (31 + r2).toNat c = 45 :: List.replicate (31 + r2).toNat c from rfl, n2]
      wp_walk using hint
      rw [show decide (-(digitsVal (List.replicate (31 + r2).toNat c) : Int) = 0 - (digitsVal (List.replicate (31 + r2).toNat c) : Int)) = true by simp]
      walk_at "go"
      have lz : (Str.ofString "0").length = 1 := by decide +kernel
      refine ⟨by rw [lz]; omega, ?_⟩
      refine w_number_in (by rw [len_app, lz]; omega) ?_
      rw [cs_append, cz, hL, show [48] ++ List.replicate (31 + r2).toNat c = 48 :: List.replicate (31 + r2).toNat c from rfl, n3]
      walk_at "go"
      refine s_take2 h2 (by omega) (by omega) (by omega) fun r3 q3 a3 b3 h3 => ?_
      walk_at "go"
      refine at_any a3 (by simpa using b3) fun od hod _ => ?_
      have hodd : (vIsi2 [od, .ty "int"] = some (.bl false) ∨ ∃ b, od = .bl b) ∧ Shows od := by
        simp only [List.mem_cons, List.not_mem_nil, or_false] at hod
        have g7 : G 300 2 (.int 7) := (g_int (p := 2) (by decide)).mono (by omega) (by omega)
        have gl7 := gl_cons (p := 2) (g_int (i := 7) (by decide)) gl_nil (by simp)
        rcases hod with rfl | rfl | rfl | rfl | rfl | rfl | rfl | rfl | rfl
        · exact ⟨.inl (by simp), ((g_non (p := 0)).top (by omega) (by omega)).2⟩
        · exact ⟨.inr ⟨_, rfl⟩, ((g_bl (p := 0)).top (by omega) (by omega)).2⟩
        · exact ⟨.inr ⟨_, rfl⟩, ((g_bl (p := 0)).top (by omega) (by omega)).2⟩
        · exact ⟨.inl (by simp), small_shows (lit_small 9 (by decide +kernel)) (by omega)⟩
        · exact ⟨.inl (by simp), small_shows (lit_small 9 (by decide +kernel)) (by omega)⟩
        · exact ⟨.inl (by simp), ((g_lst gl7).top (by omega) (by omega)).2⟩
        · exact ⟨.inl (by simp), ((g_tup gl7).top (by omega) (by omega)).2⟩
        · exact ⟨.inl (by simp), ((g_dct (p := 0)).top (by omega) (by omega)).2⟩
        · exact ⟨.inl (by simp), nonumber_shows⟩
      walk_at "go"
      refine w_refused hodd.1 hodd.2 ?_
      walk_at "go"
      have ne0 : vNe (.lst []) (.lst []) = some (.d (.bl false)) := ne_sgs (l := []) (by simp)
      refine KLc_pure (fun _ => false) id (by simp) rfl (fun x hx => ?_) ?_
      · have hno : vIsi2 [x, .ty "str"] = some (.bl false) := by
          simp only [List.mem_cons, List.not_mem_nil, or_false] at hx
          rcases hx with rfl | rfl | rfl <;> simp
        walk_at "go"
        refine ⟨w_number_no hno ?_, fun h => by cases h⟩
        walk_at "go"
      · rw [show ((List.filter (fun _ => false) [D.int 7, D.non, D.lst [D.str (Str.ofString "7")]]).map id) = [] by simp]
        wp_walk using ne0
        refine KLc_any (fun _ => false) id (by simp) (fun x hx => ?_) fun s => ?_
        · have hno : ∃ t : Str, x = .str t ∧ t.length ≤ 640 ∧ isNonD (numD (cs t)) = true := by
            simp only [List.mem_cons, List.not_mem_nil, or_false] at hx
            rcases hx with rfl | rfl | rfl | rfl | rfl | rfl | rfl <;> exact ⟨_, rfl, by decide +kernel, by decide +kernel⟩
          obtain ⟨t, rfl, ht, hno⟩ := hno
          walk_at "go"
          refine ⟨w_number_in ht ?_, fun h => by cases h⟩
          wp_walk using hno
        · rw [show (List.filter (fun _ => false) [D.str (Str.ofString ""), D.str (Str.ofString "-"), D.str (Str.ofString "-0"), D.str (Str.ofString "00"), D.str (Str.ofString " 1"), D.str (Str.ofString "1 "), D.str (Str.ofString "+1")]).map id = [] by simp]
          wp_walk using ne0
          exact ⟨⟨_, _, _, _, _, _, _, _, rfl⟩, hl'⟩
  · rintro δ ⟨⟨s1, s2, s3, s4, s5, s6, s7, s8, rfl⟩, _⟩
    walk_at "go"
    exact k
theorem law_true (ns : List Int) (h : ns.length ≤ 63) : ∃ δ, fn_law [.d (.scr (ns.map D.int))] = .ok (.d (.bl true), δ) := by
  have key : W (fn_law [.d (.scr (ns.map D.int))]) (fun z δ => z = .d (.bl true)) noE := by
    unfold fn_law g_law
    rw [W_run]
    walk_at "go"
    refine s_first h ?_
    walk_at "go"
    refine w_second h ?_
    walk_at "go"
  obtain ⟨z, δ, e, rfl⟩ := key.get
  exact ⟨δ, e⟩
end FD
end
section
set_option Elab.async false
set_option linter.all false
set_option maxRecDepth 100000
set_option maxHeartbeats 0
namespace FD
open PySem L2 PySem.Spec PyProof.Rows
def inCls (s : Stmt) (i : Nat) : Stmt := match s with
  | .ClassDef _ _ _ b _ _ _ _ _ _ _ => b.getD i (.Pass ⟨0, 0, 0, 0⟩)
  | _ => .Pass ⟨0, 0, 0, 0⟩
def d_is_whole : He.DefD := ⟨("is_whole", none), "is_whole", "is_whole", defArgs s_is_whole, defBody s_is_whole, defScope s_is_whole, [], []⟩
def d_is_name : He.DefD := ⟨("is_name", none), "is_name", "is_name", defArgs s_is_name, defBody s_is_name, defScope s_is_name, [], []⟩
def d_is_letter : He.DefD := ⟨("is_letter", none), "is_letter", "is_letter", defArgs s_is_letter, defBody s_is_letter, defScope s_is_letter, [], []⟩
def d_is_word : He.DefD := ⟨("is_word", none), "is_word", "is_word", defArgs s_is_word, defBody s_is_word, defScope s_is_word, [], []⟩
def d_are_unlike : He.DefD := ⟨("are_unlike", none), "are_unlike", "are_unlike", defArgs s_are_unlike, defBody s_are_unlike, defScope s_are_unlike, [], []⟩
def d_is_kind : He.DefD := ⟨("is_kind", none), "is_kind", "is_kind", defArgs s_is_kind, defBody s_is_kind, defScope s_is_kind, [], []⟩
def d_number_in : He.DefD := ⟨("number_in", none), "number_in", "number_in", defArgs s_number_in, defBody s_number_in, defScope s_number_in, [], []⟩
def d_number_word : He.DefD := ⟨("number_word", none), "number_word", "number_word", defArgs s_number_word, defBody s_number_word, defScope s_number_word, [], []⟩
def d_law_cell : He.DefD := ⟨("_law_cell", none), "_law_cell", "_law_cell", defArgs s_law_cell, defBody s_law_cell, defScope s_law_cell, [], []⟩
def d_law_box : He.DefD := ⟨("_law_box", none), "_law_box", "_law_box", defArgs s_law_box, defBody s_law_box, defScope s_law_box, [], []⟩
def d_law_take : He.DefD := ⟨("_law_take", none), "_law_take", "_law_take", defArgs s_law_take, defBody s_law_take, defScope s_law_take, [], []⟩
def d_law_name : He.DefD := ⟨("_law_name", none), "_law_name", "_law_name", defArgs s_law_name, defBody s_law_name, defScope s_law_name, [], []⟩
def d_law_names : He.DefD := ⟨("_law_names", none), "_law_names", "_law_names", defArgs s_law_names, defBody s_law_names, defScope s_law_names, [], []⟩
def d_law_kind : He.DefD := ⟨("_law_kind", none), "_law_kind", "_law_kind", defArgs s_law_kind, defBody s_law_kind, defScope s_law_kind, [], []⟩
def d_law_word : He.DefD := ⟨("_law_word", none), "_law_word", "_law_word", defArgs s_law_word, defBody s_law_word, defScope s_law_word, [], []⟩
def d_law_is_whole : He.DefD := ⟨("_law_is_whole", none), "_law_is_whole", "_law_is_whole", defArgs s_law_is_whole, defBody s_law_is_whole, defScope s_law_is_whole, [], []⟩
def d_law_is_name : He.DefD := ⟨("_law_is_name", none), "_law_is_name", "_law_is_name", defArgs s_law_is_name, defBody s_law_is_name, defScope s_law_is_name, [], []⟩
def d_law_is_word : He.DefD := ⟨("_law_is_word", none), "_law_is_word", "_law_is_word", defArgs s_law_is_word, defBody s_law_is_word, defScope s_law_is_word, [], []⟩
def d_law_is_kind : He.DefD := ⟨("_law_is_kind", none), "_law_is_kind", "_law_is_kind", defArgs s_law_is_kind, defBody s_law_is_kind, defScope s_law_is_kind, [], []⟩
def d_law_bent : He.DefD := ⟨("_law_bent", none), "_law_bent", "_law_bent", defArgs s_law_bent, defBody s_law_bent, defScope s_law_bent, [], []⟩
def d_law_right : He.DefD := ⟨("_law_right", none), "_law_right", "_law_right", defArgs s_law_right, defBody s_law_right, defScope s_law_right, [], []⟩
def d_law_first : He.DefD := ⟨("_law_first", none), "_law_first", "_law_first", defArgs s_law_first, defBody s_law_first, defScope s_law_first, [], []⟩
def d_law_cell_two : He.DefD := ⟨("_law_cell_two", none), "_law_cell_two", "_law_cell_two", defArgs s_law_cell_two, defBody s_law_cell_two, defScope s_law_cell_two, [], []⟩
def d_law_take_two : He.DefD := ⟨("_law_take_two", none), "_law_take_two", "_law_take_two", defArgs s_law_take_two, defBody s_law_take_two, defScope s_law_take_two, [], []⟩
def d_law_figures : He.DefD := ⟨("_law_figures", none), "_law_figures", "_law_figures", defArgs s_law_figures, defBody s_law_figures, defScope s_law_figures, [], []⟩
def d_law_number : He.DefD := ⟨("_law_number", none), "_law_number", "_law_number", defArgs s_law_number, defBody s_law_number, defScope s_law_number, [], []⟩
def d_law_writes : He.DefD := ⟨("_law_writes", none), "_law_writes", "_law_writes", defArgs s_law_writes, defBody s_law_writes, defScope s_law_writes, [], []⟩
def d_law_bent_two : He.DefD := ⟨("_law_bent_two", none), "_law_bent_two", "_law_bent_two", defArgs s_law_bent_two, defBody s_law_bent_two, defScope s_law_bent_two, [], []⟩
def d_law_refused : He.DefD := ⟨("_law_refused", none), "_law_refused", "_law_refused", defArgs s_law_refused, defBody s_law_refused, defScope s_law_refused, [], []⟩
def d_law_second : He.DefD := ⟨("_law_second", none), "_law_second", "_law_second", defArgs s_law_second, defBody s_law_second, defScope s_law_second, [], []⟩
def d_law : He.DefD := ⟨("law", none), "law", "law", defArgs s_law, defBody s_law, defScope s_law, [], []⟩
abbrev si_NoNumber : Stmt := inCls (top 2) 0
def di_NoNumber : He.DefD := ⟨("NoNumber", some "__init__"), "__init__", "NoNumber.__init__", defArgs si_NoNumber, defBody si_NoNumber, defScope si_NoNumber, [], []⟩
theorem sci_NoNumber : FnScope [("self" : Str), "found"] [("self" : Str), "found"] (defScope si_NoNumber) := ⟨rfl, rfl, rfl, by decide +kernel, rfl, by decide +kernel, by decide +kernel⟩
abbrev si_NoKind : Stmt := inCls (top 3) 0
def di_NoKind : He.DefD := ⟨("NoKind", some "__init__"), "__init__", "NoKind.__init__", defArgs si_NoKind, defBody si_NoKind, defScope si_NoKind, [], []⟩
theorem sci_NoKind : FnScope [("self" : Str), "found"] [("self" : Str), "found"] (defScope si_NoKind) := ⟨rfl, rfl, rfl, by decide +kernel, rfl, by decide +kernel, by decide +kernel⟩
def fnL : List He.DefD := [d_is_whole, d_is_name, d_is_letter, d_is_word, d_are_unlike, d_is_kind, d_number_in, d_number_word, d_law_cell, d_law_box, d_law_take, d_law_name, d_law_names, d_law_kind, d_law_word, d_law_is_whole, d_law_is_name, d_law_is_word, d_law_is_kind, d_law_bent, d_law_right, d_law_first, d_law_cell_two, d_law_take_two, d_law_figures, d_law_number, d_law_writes, d_law_bent_two, d_law_refused, d_law_second, d_law, di_NoNumber, di_NoKind]
def faL : List He.Fa := [.glo "is_whole", .glo "is_name", .glo "is_letter", .glo "is_word", .glo "are_unlike", .glo "is_kind", .glo "number_in", .glo "number_word", .glo "_law_cell", .glo "_law_box", .glo "_law_take", .glo "_law_name", .glo "_law_names", .glo "_law_kind", .glo "_law_word", .glo "_law_is_whole", .glo "_law_is_name", .glo "_law_is_word", .glo "_law_is_kind", .glo "_law_bent", .glo "_law_right", .glo "_law_first", .glo "_law_cell_two", .glo "_law_take_two", .glo "_law_figures", .glo "_law_number", .glo "_law_writes", .glo "_law_bent_two", .glo "_law_refused", .glo "_law_second", .glo "law", .glo "NoNumber", .glo "NoKind", .free "int", .free "isinstance", .free "bool", .free "str", .free "len", .free "all", .free "set", .free "tuple", .free "max", .free "range", .free "min", .free "ord", .free "list", .free "repr", .free "abs", .int "MOST_NAME" 8, .str "LETTERS" "abcdefghijklmnopqrstuvwxyz", .int "MOST_WORD" 40, .int "MOST_NUMBER" 999999, .int "MOST_NAMES" 8, .int "MOST_TEXT" 20, .str "FIGURES" "0123456789", .exm "NoNumber" "NoNumber" true]
def pB (K : PySem.W.Frag) : Bool := exB K "NoNumber" "found" && (exB K "NoKind" "found" && (exkB K (He.ga K "NoKind") "NoKind" && (exkB K (He.ga K "NoNumber") "NoNumber" && (true))))
def loose0 : List PySem.Str := [("CallError" : PySem.Str), ("NoNumber" : PySem.Str), ("NoKind" : PySem.Str), ("LETTERS" : PySem.Str), ("FIGURES" : PySem.Str), ("MOST_NAME" : PySem.Str), ("MOST_WORD" : PySem.Str), ("MOST_NUMBER" : PySem.Str), ("MOST_NAMES" : PySem.Str), ("MOST_TEXT" : PySem.Str), ("is_whole" : PySem.Str), ("is_name" : PySem.Str), ("is_letter" : PySem.Str), ("is_word" : PySem.Str), ("are_unlike" : PySem.Str), ("is_kind" : PySem.Str), ("number_word" : PySem.Str), ("number_in" : PySem.Str), ("_law_cell" : PySem.Str), ("_law_box" : PySem.Str), ("_law_take" : PySem.Str), ("_law_name" : PySem.Str), ("_law_names" : PySem.Str), ("_law_kind" : PySem.Str), ("_law_word" : PySem.Str), ("_law_is_whole" : PySem.Str), ("_law_is_name" : PySem.Str), ("_law_is_word" : PySem.Str), ("_law_is_kind" : PySem.Str), ("_law_bent" : PySem.Str), ("_law_right" : PySem.Str), ("_law_first" : PySem.Str), ("_law_cell_two" : PySem.Str), ("_law_take_two" : PySem.Str), ("_law_figures" : PySem.Str), ("_law_number" : PySem.Str), ("_law_writes" : PySem.Str), ("_law_bent_two" : PySem.Str), ("_law_refused" : PySem.Str), ("_law_second" : PySem.Str)]
abbrev R : PySem.W.OpenRow := PySem.W.OpenLaw.row PySem.Challenge.rw_callwide_k01_things_and_plain_numbers
abbrev hk : PySem.W.Hook := hookF 4 faL fnL pB
def ob (s : PySem.W.SharedT) : Bool × He.AlD := obsF 4 faL fnL pB (HandSHeadRun.getT s)
theorem ob_eq (s : PySem.W.SharedT) : ob s = hk.obs s.abs := obsF_eq (HandSHeadRun.getT_eq s)
theorem run (w : World) : HandSHeadRun.RunEq R (PySem.W.view R.prog [43]) hk ob 4000 loose0 w := by
  intro os
  kernel_rfl
theorem nm_NoKind : excReprHead (("NoKind" : Str)).toString = "NoKind" := by decide +kernel
theorem nm_NoNumber : excReprHead (("NoNumber" : Str)).toString = "NoNumber" := by decide +kernel
theorem facts {P : Program} {w : World} {K : PySem.W.Frag} {h : Heap} {mg : Str → Option Value} {f : Addr} (X : K.In h) (G0 : h.Ns mainGlobals mg) (hfa : mg ("law" : Str) = some (.ref f)) (c : He.SaysD faL fnL K) (px : pB K = true) :
    ∃ fd : FuncData, (∀ (s : Shared) (v : Value), BindsTo s fd ⟨[v], []⟩ [("script", v)]) ∧ ∀ base : Heap, K.In base → base.Ns mainGlobals mg → SysOk base → FnG P w K mg base 11 f fd ["script"] (spG K (He.ga K) fn_law) := by
  obtain ⟨fd0, F0⟩ := c.def_ 0 (d := d_is_whole) rfl
  obtain ⟨fd1, F1⟩ := c.def_ 1 (d := d_is_name) rfl
  obtain ⟨fd2, F2⟩ := c.def_ 2 (d := d_is_letter) rfl
  obtain ⟨fd3, F3⟩ := c.def_ 3 (d := d_is_word) rfl
  obtain ⟨fd4, F4⟩ := c.def_ 4 (d := d_are_unlike) rfl
  obtain ⟨fd5, F5⟩ := c.def_ 5 (d := d_is_kind) rfl
  obtain ⟨fd6, F6⟩ := c.def_ 6 (d := d_number_in) rfl
  obtain ⟨fd7, F7⟩ := c.def_ 7 (d := d_number_word) rfl
  obtain ⟨fd8, F8⟩ := c.def_ 8 (d := d_law_cell) rfl
  obtain ⟨fd9, F9⟩ := c.def_ 9 (d := d_law_box) rfl
  obtain ⟨fd10, F10⟩ := c.def_ 10 (d := d_law_take) rfl
  obtain ⟨fd11, F11⟩ := c.def_ 11 (d := d_law_name) rfl
  obtain ⟨fd12, F12⟩ := c.def_ 12 (d := d_law_names) rfl
  obtain ⟨fd13, F13⟩ := c.def_ 13 (d := d_law_kind) rfl
  obtain ⟨fd14, F14⟩ := c.def_ 14 (d := d_law_word) rfl
  obtain ⟨fd15, F15⟩ := c.def_ 15 (d := d_law_is_whole) rfl
  obtain ⟨fd16, F16⟩ := c.def_ 16 (d := d_law_is_name) rfl
  obtain ⟨fd17, F17⟩ := c.def_ 17 (d := d_law_is_word) rfl
  obtain ⟨fd18, F18⟩ := c.def_ 18 (d := d_law_is_kind) rfl
  obtain ⟨fd19, F19⟩ := c.def_ 19 (d := d_law_bent) rfl
  obtain ⟨fd20, F20⟩ := c.def_ 20 (d := d_law_right) rfl
  obtain ⟨fd21, F21⟩ := c.def_ 21 (d := d_law_first) rfl
  obtain ⟨fd22, F22⟩ := c.def_ 22 (d := d_law_cell_two) rfl
  obtain ⟨fd23, F23⟩ := c.def_ 23 (d := d_law_take_two) rfl
  obtain ⟨fd24, F24⟩ := c.def_ 24 (d := d_law_figures) rfl
  obtain ⟨fd25, F25⟩ := c.def_ 25 (d := d_law_number) rfl
  obtain ⟨fd26, F26⟩ := c.def_ 26 (d := d_law_writes) rfl
  obtain ⟨fd27, F27⟩ := c.def_ 27 (d := d_law_bent_two) rfl
  obtain ⟨fd28, F28⟩ := c.def_ 28 (d := d_law_refused) rfl
  obtain ⟨fd29, F29⟩ := c.def_ 29 (d := d_law_second) rfl
  obtain ⟨fd30, F30⟩ := c.def_ 30 (d := d_law) rfl
  obtain ⟨fd31, F31⟩ := c.def_ 31 (d := di_NoNumber) rfl
  obtain ⟨fd32, F32⟩ := c.def_ 32 (d := di_NoKind) rfl
  have G : Gls mg := ⟨He.free_ok X G0 (c.fact 33 (f := .free "int") rfl), He.free_ok X G0 (c.fact 34 (f := .free "isinstance") rfl), He.free_ok X G0 (c.fact 35 (f := .free "bool") rfl), He.free_ok X G0 (c.fact 36 (f := .free "str") rfl), He.free_ok X G0 (c.fact 37 (f := .free "len") rfl), He.free_ok X G0 (c.fact 38 (f := .free "all") rfl), He.free_ok X G0 (c.fact 39 (f := .free "set") rfl), He.free_ok X G0 (c.fact 40 (f := .free "tuple") rfl), He.free_ok X G0 (c.fact 41 (f := .free "max") rfl), He.free_ok X G0 (c.fact 42 (f := .free "range") rfl), He.free_ok X G0 (c.fact 43 (f := .free "min") rfl), He.free_ok X G0 (c.fact 44 (f := .free "ord") rfl), He.free_ok X G0 (c.fact 45 (f := .free "list") rfl), He.free_ok X G0 (c.fact 46 (f := .free "repr") rfl), He.free_ok X G0 (c.fact 47 (f := .free "abs") rfl), He.int_ok X G0 (c.fact 48 (f := .int "MOST_NAME" 8) rfl), He.str_ok X G0 (c.fact 49 (f := .str "LETTERS" "abcdefghijklmnopqrstuvwxyz") rfl), He.int_ok X G0 (c.fact 50 (f := .int "MOST_WORD" 40) rfl), He.int_ok X G0 (c.fact 51 (f := .int "MOST_NUMBER" 999999) rfl), He.int_ok X G0 (c.fact 52 (f := .int "MOST_NAMES" 8) rfl), He.int_ok X G0 (c.fact 53 (f := .int "MOST_TEXT" 20) rfl), He.str_ok X G0 (c.fact 54 (f := .str "FIGURES" "0123456789") rfl)⟩
  have g0 := He.glo_ok X G0 (c.fact 0 (f := .glo "is_whole") rfl)
  have g1 := He.glo_ok X G0 (c.fact 1 (f := .glo "is_name") rfl)
  have g2 := He.glo_ok X G0 (c.fact 2 (f := .glo "is_letter") rfl)
  have g3 := He.glo_ok X G0 (c.fact 3 (f := .glo "is_word") rfl)
  have g4 := He.glo_ok X G0 (c.fact 4 (f := .glo "are_unlike") rfl)
  have g5 := He.glo_ok X G0 (c.fact 5 (f := .glo "is_kind") rfl)
  have g6 := He.glo_ok X G0 (c.fact 6 (f := .glo "number_in") rfl)
  have g7 := He.glo_ok X G0 (c.fact 7 (f := .glo "number_word") rfl)
  have g8 := He.glo_ok X G0 (c.fact 8 (f := .glo "_law_cell") rfl)
  have g9 := He.glo_ok X G0 (c.fact 9 (f := .glo "_law_box") rfl)
  have g10 := He.glo_ok X G0 (c.fact 10 (f := .glo "_law_take") rfl)
  have g11 := He.glo_ok X G0 (c.fact 11 (f := .glo "_law_name") rfl)
  have g12 := He.glo_ok X G0 (c.fact 12 (f := .glo "_law_names") rfl)
  have g13 := He.glo_ok X G0 (c.fact 13 (f := .glo "_law_kind") rfl)
  have g14 := He.glo_ok X G0 (c.fact 14 (f := .glo "_law_word") rfl)
  have g15 := He.glo_ok X G0 (c.fact 15 (f := .glo "_law_is_whole") rfl)
  have g16 := He.glo_ok X G0 (c.fact 16 (f := .glo "_law_is_name") rfl)
  have g17 := He.glo_ok X G0 (c.fact 17 (f := .glo "_law_is_word") rfl)
  have g18 := He.glo_ok X G0 (c.fact 18 (f := .glo "_law_is_kind") rfl)
  have g19 := He.glo_ok X G0 (c.fact 19 (f := .glo "_law_bent") rfl)
  have g20 := He.glo_ok X G0 (c.fact 20 (f := .glo "_law_right") rfl)
  have g21 := He.glo_ok X G0 (c.fact 21 (f := .glo "_law_first") rfl)
  have g22 := He.glo_ok X G0 (c.fact 22 (f := .glo "_law_cell_two") rfl)
  have g23 := He.glo_ok X G0 (c.fact 23 (f := .glo "_law_take_two") rfl)
  have g24 := He.glo_ok X G0 (c.fact 24 (f := .glo "_law_figures") rfl)
  have g25 := He.glo_ok X G0 (c.fact 25 (f := .glo "_law_number") rfl)
  have g26 := He.glo_ok X G0 (c.fact 26 (f := .glo "_law_writes") rfl)
  have g27 := He.glo_ok X G0 (c.fact 27 (f := .glo "_law_bent_two") rfl)
  have g28 := He.glo_ok X G0 (c.fact 28 (f := .glo "_law_refused") rfl)
  have g29 := He.glo_ok X G0 (c.fact 29 (f := .glo "_law_second") rfl)
  have g30 := He.glo_ok X G0 (c.fact 30 (f := .glo "law") rfl)
  have gx_NoNumber := He.glo_ok X G0 (c.fact 31 (f := .glo "NoNumber") rfl)
  have gx_NoKind := He.glo_ok X G0 (c.fact 32 (f := .glo "NoKind") rfl)
  have x_NoNumber_NoNumber := He.exm_ok (c.fact 55 (f := .exm "NoNumber" "NoNumber" true) rfl)
  obtain ⟨p0, q0⟩ := Bool.and_eq_true_iff.mp px
  obtain ⟨p1, q1⟩ := Bool.and_eq_true_iff.mp q0
  obtain ⟨p2, q2⟩ := Bool.and_eq_true_iff.mp q1
  obtain ⟨p3, q3⟩ := Bool.and_eq_true_iff.mp q2
  cases hfa.symm.trans g30
  refine ⟨fd30, fun s v => FunD.bindsA (ps := ["script"]) F30 (fun _ _ _ _ _ _ us hl => match us, hl with | [_], _ => rfl) s [v] rfl, fun base _ _ SY => ?_⟩
  have b0 := exB_ok p0
  have e_NoNumber : ExF P w K mg base (He.ga K) "NoNumber" "found" := ⟨exc_made b0.T b0.no gx_NoNumber b0.iC b0.tI F31 sci_NoNumber (fun _ _ _ _ _ _ us hl => match us, hl with | [_, _], _ => rfl) (Or.inl rfl) (Or.inl rfl) (by decide) (by decide), b0.xf, b0.no⟩
  have b1 := exB_ok p1
  have e_NoKind : ExF P w K mg base (He.ga K) "NoKind" "found" := ⟨exc_made b1.T b1.no gx_NoKind b1.iC b1.tI F32 sci_NoKind (fun _ _ _ _ _ _ us hl => match us, hl with | [_, _], _ => rfl) (Or.inl rfl) (Or.inl rfl) (by decide) (by decide), b1.xf, b1.no⟩
  have k_NoKind : ExK K (He.ga K "NoKind") "NoKind" := exkB_ok p2 nm_NoKind
  have k_NoNumber : ExK K (He.ga K "NoNumber") "NoNumber" := exkB_ok p3 nm_NoNumber
  have c_is_whole := ok_is_whole (P := P) (w := w) (base := base) (cls := He.ga K) G SY F0 g0
  have c_is_name := ok_is_name (P := P) (w := w) (base := base) (cls := He.ga K) G SY F1 g1
  have c_is_letter := ok_is_letter (P := P) (w := w) (base := base) (cls := He.ga K) G SY F2 g2 c_is_name
  have c_is_word := ok_is_word (P := P) (w := w) (base := base) (cls := He.ga K) G SY F3 g3
  have c_are_unlike := ok_are_unlike (P := P) (w := w) (base := base) (cls := He.ga K) G SY F4 g4
  have c_is_kind := ok_is_kind (P := P) (w := w) (base := base) (cls := He.ga K) G SY F5 g5 c_is_whole c_is_name c_are_unlike
  have c_number_in := ok_number_in (P := P) (w := w) (base := base) (cls := He.ga K) G SY F6 g6
  have c_number_word := ok_number_word (P := P) (w := w) (base := base) (cls := He.ga K) G SY F7 g7 e_NoNumber
  have c__law_cell := ok_law_cell (P := P) (w := w) (base := base) (cls := He.ga K) G SY F8 g8
  have c__law_box := ok_law_box (P := P) (w := w) (base := base) (cls := He.ga K) G SY F9 g9
  have c__law_take := ok_law_take (P := P) (w := w) (base := base) (cls := He.ga K) G SY F10 g10
  have c__law_name := ok_law_name (P := P) (w := w) (base := base) (cls := He.ga K) G SY F11 g11 c__law_take
  have c__law_names := ok_law_names (P := P) (w := w) (base := base) (cls := He.ga K) G SY F12 g12 c__law_name c__law_take
  have c__law_kind := ok_law_kind (P := P) (w := w) (base := base) (cls := He.ga K) G SY F13 g13 c__law_take c__law_names c__law_name
  have c__law_word := ok_law_word (P := P) (w := w) (base := base) (cls := He.ga K) G SY F14 g14 c__law_take
  have c__law_is_whole := ok_law_is_whole (P := P) (w := w) (base := base) (cls := He.ga K) G SY F15 g15
  have c__law_is_name := ok_law_is_name (P := P) (w := w) (base := base) (cls := He.ga K) G SY F16 g16
  have c__law_is_word := ok_law_is_word (P := P) (w := w) (base := base) (cls := He.ga K) G SY F17 g17
  have c__law_is_kind := ok_law_is_kind (P := P) (w := w) (base := base) (cls := He.ga K) G SY F18 g18 c__law_is_whole c__law_is_name
  have c__law_bent := ok_law_bent (P := P) (w := w) (base := base) (cls := He.ga K) G SY F19 g19 c__law_take 8
  have c__law_right := ok_law_right (P := P) (w := w) (base := base) (cls := He.ga K) G SY F20 g20 c__law_is_name c__law_is_word c__law_is_kind c__law_is_whole c_is_name c_is_letter c_is_word c_is_kind c_is_whole
  have c__law_first := ok_law_first (P := P) (w := w) (base := base) (cls := He.ga K) G SY F21 g21 c__law_cell c__law_box c__law_take c__law_kind c__law_name c__law_word c__law_names c__law_right c__law_bent e_NoKind k_NoKind
  have c__law_cell_two := ok_law_cell_two (P := P) (w := w) (base := base) (cls := He.ga K) G SY F22 g22
  have c__law_take_two := ok_law_take_two (P := P) (w := w) (base := base) (cls := He.ga K) G SY F23 g23
  have c__law_figures := ok_law_figures (P := P) (w := w) (base := base) (cls := He.ga K) G SY F24 g24
  have c__law_number := ok_law_number (P := P) (w := w) (base := base) (cls := He.ga K) G SY F25 g25 c__law_take_two
  have c__law_writes := ok_law_writes (P := P) (w := w) (base := base) (cls := He.ga K) G SY F26 g26
  have c__law_bent_two := ok_law_bent_two (P := P) (w := w) (base := base) (cls := He.ga K) G SY F27 g27 c__law_take_two
  have c__law_refused := ok_law_refused (P := P) (w := w) (base := base) (cls := He.ga K) G SY F28 g28 c_number_word e_NoNumber x_NoNumber_NoNumber
  have c__law_second := ok_law_second (P := P) (w := w) (base := base) (cls := He.ga K) G SY F29 g29 c__law_cell_two c__law_box c__law_number c__law_figures c_number_word c_number_in c__law_bent_two c__law_writes c__law_take_two c__law_refused e_NoNumber k_NoNumber
  exact fng_law (cls := He.ga K) G SY F30 g30 c__law_first c__law_second
end FD
open PySem PySem.W PySem.Calls PyProof.Rows
theorem PySem.Challenge.cw_callwide_k01_things_and_plain_numbers_holds : PySem.Challenge.rw_callwide_k01_things_and_plain_numbers.Holds := by
  w_on; o_law
  refine HandSHeadRun.head_any (r := OpenLaw.row PySem.Challenge.rw_callwide_k01_things_and_plain_numbers) (q := view (OpenLaw.row PySem.Challenge.rw_callwide_k01_things_and_plain_numbers).prog [43]) (H := FD.hk) (ob := FD.ob) (M := 4000) (loose := FD.loose0) (d := HandSHeadRun.topDef (OpenLaw.row PySem.Challenge.rw_callwide_k01_things_and_plain_numbers).prog 43) (kwd := []) FD.ob_eq
    (by kernel_rfl) (fun s => by kernel_rfl) FD.run (by kernel_rfl) (by kernel_rfl) (by kernel_rfl) (by rfl) (by first | assumption | decide +kernel) (by decide +kernel) ⟨rfl, rfl, rfl, rfl, rfl, by decide +kernel⟩ ?hw ?hc
  case hw => w_witness2
  case hc =>
    refine FD.walkG (l := PySem.Challenge.rw_callwide_k01_things_and_plain_numbers) (n := 63) (k := 11) (x := "script") rfl (by decide) (by kernel_rfl) ⟨rfl, by decide, by decide⟩ rfl ?F
    intro w mg fa h Y G hmg0
    obtain ⟨K, KX, c, px, sy⟩ := Y
    have hmg : mg ("law" : PySem.Str) = some (.ref fa) := by
      have e : (HandSHeadRun.topDef (OpenLaw.row PySem.Challenge.rw_callwide_k01_things_and_plain_numbers).prog 43).name = ("law" : PySem.Str) := by kernel_rfl
      rw [← e]
      exact hmg0
    obtain ⟨fd, hb, hF⟩ := FD.facts (P := (PySem.Challenge.rw_callwide_k01_things_and_plain_numbers).prog) (w := w) KX G hmg c px
    exact ⟨K, fd, FD.spG K (He.ga K) FD.fn_law, KX, hb, fun H a ns hl hO hS => FD.law_in hO hS (FD.law_true ns hl), sy, hF⟩
end
