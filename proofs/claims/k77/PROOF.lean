import PyProof.Rows.All
import Wide.All
import OpenK.AllK
import Wide.FinOn
import HandS.ForMost
import HandS.ForExc
import HandS.Zip
import HandS.Lambda
import HandS.TupAny
import HandS.TupMul
import HandS.TupLe
import HandS.Wide
import HandS.Style
import HandS.IsInst
import HandS.Deep
import KE.DataEq
import KE.DataCmp
import KE.DataIsa
import HandS.CallSlots
import HandS.Defaults
import KE.SortData
import HandS.Conv
import HandS.TupLen
import PyProof.ReprRoads
import HandS.RaiseMore
import KE.KDictPairs
import HandS.Rev
import HandS.Ends
import HandS.HeadEnd
import HandS.HeadHook1
import HandS.HeadHook2
import PyProof.Rows.ReprOcc
import KE.KIntText
import KE.KxLen
import HandS.TupSets
import KE.DataMinMax
import PyProof.Claim2Refuses
import KE.KSuper
import KE.KExcSuper
import HandS.ExcInit
import HandS.ExcIs
import HandS.ExcField
import KE.KStateDown
import HandS.Head0
import HandS.Head1
import HandS.Head2
import PySem.Challenge.RW_pointlots_k77_whole_lamps_lit_by_switche
section
set_option Elab.async false
set_option linter.all false
set_option maxRecDepth 100000
set_option autoImplicit false
namespace PL
open PySem PySem.Spec L2
open PyProof.Rows hiding St

/-! ### pure data -/
inductive D where
  | non | bl (b : Bool) | int (i : Int) | str (x : Str) | tup (xs : List D) | lst (xs : List D) | dct (t : Bool) (kvs : List (D × D)) | obj (t : Nat) (xs : List D) | raw (a : Addr) (d : Option Addr) (xs : List D)
  deriving Inhabited

/-- what a ghost cell says -/
inductive GO where
  | tup (vs : List V) | lst (vs : List V) | dK (es : List (Key × V)) | dT (es : List (List Key × V)) | dF (es : List (List Key × V)) | inv (t : Nat) (ds : List D) | priv (a : Addr) | code (q : Str)
abbrev Gh := Addr → Option GO
/-- what may be thawed -/
def Tmp : GO → Prop
  | .lst _ => True
  | .dK _ => True
  | .dT _ => True
  | _ => False
def gupd (G : Gh) (a : Addr) (o : GO) : Gh := fun b => if b = a then some o else G b
theorem gupd_same {G : Gh} {a : Addr} {o : GO} : gupd G a o a = some o := by unfold gupd; rw [if_pos rfl]
def gdel (G : Gh) (a : Addr) : Gh := fun b => if b = a then none else G b
theorem gdel_same {G : Gh} {a : Addr} : gdel G a a = none := by unfold gdel; rw [if_pos rfl]
theorem gdel_ne {G : Gh} {a b : Addr} (h : b ≠ a) : gdel G a b = G b := by unfold gdel; rw [if_neg h]
theorem gupd_ne {G : Gh} {a b : Addr} {o : GO} (h : b ≠ a) : gupd G a o b = G b := by unfold gupd; rw [if_neg h]

def keyD : Key → D
  | .inl i => .int i
  | .inr x => .str x

mutual
def Rep (G : Gh) : D → V → Prop
  | .non, v => v = .non
  | .bl b, v => v = .bl b
  | .int i, v => v = .int i
  | .str x, v => v = .str x
  | .tup ds, v => ∃ a vs, v = .ref a ∧ G a = some (.tup vs) ∧ Reps G ds vs
  | .lst ds, v => ∃ a vs, v = .ref a ∧ G a = some (.lst vs) ∧ Reps G ds vs
  | .dct false kvs, v => ∃ a es, v = .ref a ∧ G a = some (.dK es) ∧ RepK G kvs es
  | .dct true kvs, v => ∃ a es, v = .ref a ∧ (G a = some (.dT es) ∨ G a = some (.dF es)) ∧ RepT G kvs es
  | .obj t ds, v => ∃ a, v = .ref a ∧ G a = some (.inv t ds)
  | .raw a none _, v => v = .ref a
  | .raw a (some dx) ds, v => v = .ref a ∧ G dx = some (.inv 2 ds)
def Reps (G : Gh) : List D → List V → Prop
  | [], vs => vs = []
  | d :: ds, vs => ∃ v r, vs = v :: r ∧ Rep G d v ∧ Reps G ds r
def RepK (G : Gh) : List (D × D) → List (Key × V) → Prop
  | [], es => es = []
  | (k, d) :: kvs, es => ∃ key v r, es = (key, v) :: r ∧ k = keyD key ∧ Rep G d v ∧ RepK G kvs r
def RepT (G : Gh) : List (D × D) → List (List Key × V) → Prop
  | [], es => es = []
  | (k, d) :: kvs, es => ∃ key v r, es = (key, v) :: r ∧ k = .tup (key.map keyD) ∧ Rep G d v ∧ RepT G kvs r
end

def GLe (G G' : Gh) : Prop := ∀ a g, G a = some g → G' a = some g
theorem GLe.refl (G : Gh) : GLe G G := fun _ _ h => h
theorem GLe.trans {G G1 G2 : Gh} (a : GLe G G1) (b : GLe G1 G2) : GLe G G2 := fun c g h => b c g (a c g h)
theorem GLe.upd {G : Gh} {p : Addr} {g : GO} (h : G p = none) : GLe G (gupd G p g) := fun a x e => by
  rw [gupd_ne]
  · exact e
  · rintro rfl; rw [h] at e; cases e

mutual
theorem Rep.mono {G G' : Gh} (le : GLe G G') : ∀ (d : D) (v : V), Rep G d v → Rep G' d v
  | .non, v, h => by unfold Rep at h ⊢; exact h
  | .bl b, v, h => by unfold Rep at h ⊢; exact h
  | .int b, v, h => by unfold Rep at h ⊢; exact h
  | .str b, v, h => by unfold Rep at h ⊢; exact h
  | .tup ds, v, h => by
    unfold Rep at h ⊢; obtain ⟨a, vs, e, g, r⟩ := h; exact ⟨a, vs, e, le _ _ g, Reps.mono le ds vs r⟩
  | .lst ds, v, h => by
    unfold Rep at h ⊢; obtain ⟨a, vs, e, g, r⟩ := h; exact ⟨a, vs, e, le _ _ g, Reps.mono le ds vs r⟩
  | .dct false kvs, v, h => by
    unfold Rep at h ⊢; obtain ⟨a, es, e, g, r⟩ := h; exact ⟨a, es, e, le _ _ g, RepK.mono le kvs es r⟩
  | .dct true kvs, v, h => by
    unfold Rep at h ⊢; obtain ⟨a, es, e, g, r⟩ := h
    exact ⟨a, es, e, g.elim (fun g => .inl (le _ _ g)) (fun g => .inr (le _ _ g)), RepT.mono le kvs es r⟩
  | .obj t ds, v, h => by
    unfold Rep at h ⊢; obtain ⟨a, e, g⟩ := h; exact ⟨a, e, le _ _ g⟩
  | .raw _ none _, v, h => by unfold Rep at h ⊢; exact h
  | .raw _ (some _) _, v, h => by unfold Rep at h ⊢; exact ⟨h.1, le _ _ h.2⟩
theorem Reps.mono {G G' : Gh} (le : GLe G G') : ∀ (ds : List D) (vs : List V), Reps G ds vs → Reps G' ds vs
  | [], vs, h => by unfold Reps at h ⊢; exact h
  | d :: ds, vs, h => by
    unfold Reps at h ⊢; obtain ⟨v, r, e, h1, h2⟩ := h; exact ⟨v, r, e, Rep.mono le d v h1, Reps.mono le ds r h2⟩
theorem RepK.mono {G G' : Gh} (le : GLe G G') : ∀ (kvs : List (D × D)) (es : List (Key × V)), RepK G kvs es → RepK G' kvs es
  | [], vs, h => by unfold RepK at h ⊢; exact h
  | (k, d) :: ds, vs, h => by
    unfold RepK at h ⊢; obtain ⟨key, v, r, e, ek, h1, h2⟩ := h; exact ⟨key, v, r, e, ek, Rep.mono le d v h1, RepK.mono le ds r h2⟩
theorem RepT.mono {G G' : Gh} (le : GLe G G') : ∀ (kvs : List (D × D)) (es : List (List Key × V)), RepT G kvs es → RepT G' kvs es
  | [], vs, h => by unfold RepT at h ⊢; exact h
  | (k, d) :: ds, vs, h => by
    unfold RepT at h ⊢; obtain ⟨key, v, r, e, ek, h1, h2⟩ := h; exact ⟨key, v, r, e, ek, Rep.mono le d v h1, RepT.mono le ds r h2⟩
end

theorem Reps.length {G : Gh} : ∀ {ds : List D} {vs : List V}, Reps G ds vs → ds.length = vs.length
  | [], vs, h => by unfold Reps at h; subst h; rfl
  | d :: ds, vs, h => by unfold Reps at h; obtain ⟨v, r, e, h1, h2⟩ := h; subst e; rw [List.length_cons, List.length_cons, Reps.length h2]
theorem Reps.nil {G : Gh} : Reps G [] [] := by unfold Reps; rfl
theorem Reps.cons {G : Gh} {d : D} {v : V} {ds : List D} {vs : List V} (h : Rep G d v) (t : Reps G ds vs) : Reps G (d :: ds) (v :: vs) := by
  unfold Reps; exact ⟨v, vs, rfl, h, t⟩
theorem Reps.uncons {G : Gh} {d : D} {ds : List D} {vs : List V} (h : Reps G (d :: ds) vs) : ∃ v r, vs = v :: r ∧ Rep G d v ∧ Reps G ds r := by
  unfold Reps at h; exact h
theorem Reps.append {G : Gh} : ∀ {ds es : List D} {vs ws : List V}, Reps G ds vs → Reps G es ws → Reps G (ds ++ es) (vs ++ ws)
  | [], es, vs, ws, h, t => by unfold Reps at h; subst h; exact t
  | d :: ds, es, vs, ws, h, t => by
    obtain ⟨v, r, e, h1, h2⟩ := h.uncons; subst e; exact .cons h1 (Reps.append h2 t)
theorem Reps.get {G : Gh} : ∀ {ds : List D} {vs : List V} {i : Nat} {d : D}, Reps G ds vs → ds[i]? = some d → ∃ v, vs[i]? = some v ∧ Rep G d v
  | [], vs, i, d, h, e => by simp at e
  | d0 :: ds, vs, 0, d, h, e => by
    obtain ⟨v, r, e', h1, h2⟩ := h.uncons; subst e'; simp at e; subst e; exact ⟨v, rfl, h1⟩
  | d0 :: ds, vs, i + 1, d, h, e => by
    obtain ⟨v, r, e', h1, h2⟩ := h.uncons; subst e'; simp at e; obtain ⟨u, hu, ru⟩ := Reps.get h2 e; exact ⟨u, by simpa using hu, ru⟩
theorem Reps.get' {G : Gh} : ∀ {ds : List D} {vs : List V} {i : Nat} {v : V}, Reps G ds vs → vs[i]? = some v → ∃ d, ds[i]? = some d ∧ Rep G d v
  | [], vs, i, v, h, e => by unfold Reps at h; subst h; simp at e
  | d0 :: ds, vs, 0, v, h, e => by
    obtain ⟨v', r, e', h1, h2⟩ := h.uncons; subst e'; simp at e; subst e; exact ⟨d0, rfl, h1⟩
  | d0 :: ds, vs, i + 1, v, h, e => by
    obtain ⟨v', r, e', h1, h2⟩ := h.uncons; subst e'; simp at e; obtain ⟨u, hu, ru⟩ := Reps.get' h2 e; exact ⟨u, by simpa using hu, ru⟩
theorem Reps.take {G : Gh} : ∀ (n : Nat) {ds : List D} {vs : List V}, Reps G ds vs → Reps G (ds.take n) (vs.take n)
  | 0, _, _, _ => by simp [Reps.nil]
  | n + 1, [], vs, h => by unfold Reps at h; subst h; simp [Reps.nil]
  | n + 1, d :: ds, vs, h => by
    obtain ⟨v, r, e', h1, h2⟩ := h.uncons; subst e'; simpa using Reps.cons h1 (Reps.take n h2)
theorem Reps.drop {G : Gh} : ∀ (n : Nat) {ds : List D} {vs : List V}, Reps G ds vs → Reps G (ds.drop n) (vs.drop n)
  | 0, _, _, h => by simpa using h
  | n + 1, [], vs, h => by unfold Reps at h; subst h; simp [Reps.nil]
  | n + 1, d :: ds, vs, h => by
    obtain ⟨v, r, e', h1, h2⟩ := h.uncons; subst e'; simpa using Reps.drop n h2
theorem Reps.reverse {G : Gh} : ∀ {ds : List D} {vs : List V}, Reps G ds vs → Reps G ds.reverse vs.reverse
  | [], vs, h => by unfold Reps at h; subst h; simp [Reps.nil]
  | d :: ds, vs, h => by
    obtain ⟨v, r, e', h1, h2⟩ := h.uncons; subst e'; simpa using Reps.append (Reps.reverse h2) (Reps.cons h1 Reps.nil)
theorem Reps.set {G : Gh} {d : D} {v : V} (x : Rep G d v) : ∀ {ds : List D} {vs : List V} (i : Nat), Reps G ds vs → Reps G (ds.set i d) (vs.set i v)
  | [], vs, i, h => by unfold Reps at h; subst h; simp [Reps.nil]
  | d :: ds, vs, 0, h => by
    obtain ⟨v, r, e', h1, h2⟩ := h.uncons; subst e'; simpa using Reps.cons x h2
  | d :: ds, vs, i + 1, h => by
    obtain ⟨v, r, e', h1, h2⟩ := h.uncons; subst e'; simpa using Reps.cons h1 (Reps.set x i h2)

/-! ### coherence and steps -/
/-- not a tuple -/
def NT (o : HO) : Prop := ∀ xs, o ≠ .tup xs
abbrev JT := Nat → List D → Gh → Hp → Addr → Prop
/-- what an object's invariant leans on -/
structure JOk (J : JT) : Prop where
  mono : ∀ {t ds G H G' H' a}, J t ds G H a → GLe G G' → (∀ b, (b = a ∨ G b = some (.priv a)) → H' b = H b) → J t ds G' H' a
  dom : ∀ {t ds G H a}, J t ds G H a → ∃ o, H a = some o ∧ NT o
  del : ∀ {t ds G H a p g}, J t ds G H a → G p = some g → Tmp g → J t ds (gdel G p) H a
def CohAt (J : JT) (G : Gh) (H : Hp) (a : Addr) : GO → Prop
  | .tup vs => H a = some (.tup vs)
  | .lst vs => H a = some (.lst vs)
  | .dK es => H a = some (.dK es)
  | .dT es => H a = some (.dT es)
  | .dF es => H a = some (.dT es)
  | .inv t ds => J t ds G H a
  | .priv _ => ∃ o, H a = some o ∧ NT o
  | .code q => H a = some (LamX.CodeO a q)
/-- the code tables that the law's text has -/
def Stat (J : JT) (P : Addr) (ds : List D) : Prop := J 4 ds (fun _ => none) (fun _ => some (.lst [])) P
structure Coh (J : JT) (G : Gh) (H : Hp) : Prop where
  at_ : ∀ a g, G a = some g → CohAt J G H a g
  st : ∀ P ds, Stat J P ds → G P = some (.inv 3 ds)
instance {J : JT} {G : Gh} {H : Hp} : CoeFun (Coh J G H) (fun _ => ∀ a g, G a = some g → CohAt J G H a g) := ⟨Coh.at_⟩
theorem Coh.dom {J : JT} {G : Gh} {H : Hp} (jo : JOk J) (c : Coh J G H) {a : Addr} {g : GO} (e : G a = some g) : ∃ o, H a = some o := by
  have h := c a g e
  cases g with
  | tup vs => exact ⟨_, h⟩
  | lst vs => exact ⟨_, h⟩
  | dK vs => exact ⟨_, h⟩
  | dT vs => exact ⟨_, h⟩
  | dF vs => exact ⟨_, h⟩
  | inv t ds => obtain ⟨o, h, _⟩ := jo.dom h; exact ⟨o, h⟩
  | priv b => obtain ⟨o, h, _⟩ := h; exact ⟨o, h⟩
  | code q => exact ⟨_, h⟩
theorem Coh.fresh {J : JT} {G : Gh} {H : Hp} (jo : JOk J) (c : Coh J G H) {a : Addr} (e : H a = none) : G a = none := by
  cases q : G a with
  | none => rfl
  | some g => obtain ⟨o, h⟩ := c.dom jo q; rw [e] at h; cases h
/-- the heap grows, or changes outside of the ghost heap -/
theorem Coh.move {J : JT} {G : Gh} {H H' : Hp} (jo : JOk J) (c : Coh J G H) (h : ∀ a g, G a = some g → H' a = H a) : Coh J G H' := ⟨fun a g e => by
  have x := c a g e
  cases g with
  | tup vs => exact Eq.trans (h a _ e) (show H a = _ from x)
  | lst vs => exact Eq.trans (h a _ e) (show H a = _ from x)
  | dK vs => exact Eq.trans (h a _ e) (show H a = _ from x)
  | dT vs => exact Eq.trans (h a _ e) (show H a = _ from x)
  | dF vs => exact Eq.trans (h a _ e) (show H a = _ from x)
  | inv t ds =>
    refine jo.mono (H' := H') x (GLe.refl G) fun b hb => ?_
    rcases hb with hb | hb
    · subst hb; exact h _ _ e
    · exact h _ _ hb
  | priv b => obtain ⟨o, x, n⟩ := x; exact ⟨o, (h a _ e).trans x, n⟩
  | code q => exact Eq.trans (h a _ e) (show H a = _ from x), c.st⟩
/-- a new ghost cell -/
theorem Coh.add {J : JT} {G : Gh} {H : Hp} {p : Addr} {g : GO} (jo : JOk J) (c : Coh J G H) (n : G p = none) (new : CohAt J (gupd G p g) H p g) : Coh J (gupd G p g) H := ⟨fun a x e => by
  by_cases q : a = p
  · subst q; rw [gupd_same] at e; cases e; exact new
  · rw [gupd_ne q] at e
    have y := c a x e
    cases x with
    | tup vs => exact y
    | lst vs => exact y
    | dK vs => exact y
    | dT vs => exact y
    | dF vs => exact y
    | inv t ds => exact jo.mono y (GLe.upd n) fun b _ => rfl
    | priv b => exact y
    | code q => exact y, fun P ds h => GLe.upd n P _ (c.st P ds h)⟩

structure Step (J : JT) (G : Gh) (H : Hp) (G' : Gh) (H' : Hp) : Prop where
  le : GLe G G'
  coh : Coh J G' H'
  keep : ∀ a o, H a = some o → NT o → G a = none → H' a = some o ∧ G' a = none
  tups : ∀ a xs, H a = some (.tup xs) → H' a = some (.tup xs)
theorem Step.frame {J : JT} {G G' : Gh} {H H' : Hp} (s : Step J G H G' H') (a : Addr) (o : HO) (h : H a = some o) (n : G a = none) (nt : NT o := by intro _ z; cases z) : H' a = some o ∧ G' a = none := s.keep a o h nt n
theorem Step.refl {J : JT} {G : Gh} {H : Hp} (c : Coh J G H) : Step J G H G H := ⟨GLe.refl G, c, fun _ _ h _ n => ⟨h, n⟩, fun _ _ h => h⟩
theorem Step.trans {J : JT} {G G1 G2 : Gh} {H H1 H2 : Hp} (a : Step J G H G1 H1) (b : Step J G1 H1 G2 H2) : Step J G H G2 H2 :=
  ⟨a.le.trans b.le, b.coh, fun c o h nt n => let ⟨h1, n1⟩ := a.keep c o h nt n; b.keep c o h1 nt n1, fun c xs h => b.tups c xs (a.tups c xs h)⟩
theorem Step.dom {J : JT} {G G1 : Gh} {H H1 : Hp} (jo : JOk J) (a : Step J G H G1 H1) {p : Addr} (n : H1 p = none) : H p = none := by
  cases q : H p with
  | none => rfl
  | some o =>
    cases e : G p with
    | none =>
      exfalso
      by_cases ht : ∃ xs, o = .tup xs
      · obtain ⟨xs, rfl⟩ := ht
        have := a.tups p xs q; rw [n] at this; cases this
      · have := (a.keep p o q (fun xs z => ht ⟨xs, z⟩) e).1; rw [n] at this; cases this
    | some g => obtain ⟨o', h⟩ := a.coh.dom jo (a.le p g e); rw [n] at h; cases h
/-- a new object, frozen -/
theorem Step.new {J : JT} {G : Gh} {H : Hp} {p : Addr} {o : HO} {g : GO} (jo : JOk J) (c : Coh J G H) (n : H p = none) (new : CohAt J (gupd G p g) (upd H p o) p g) : Step J G H (gupd G p g) (upd H p o) := by
  have ng := c.fresh jo n
  refine ⟨GLe.upd ng, Coh.add jo (c.move jo fun a x e => upd_ne ?_) ng new, fun a x h _ z => ⟨?_, ?_⟩, fun a xs h => by rw [upd_ne (ne_of_none h n)]; exact h⟩
  · rintro rfl; rw [ng] at e; cases e
  · rw [upd_ne (ne_of_none h n)]; exact h
  · rw [gupd_ne (ne_of_none h n)]; exact z
/-- a new object, owned -/
theorem Step.newOwn {J : JT} {G : Gh} {H : Hp} {p : Addr} {o : HO} (jo : JOk J) (c : Coh J G H) (n : H p = none) : Step J G H G (upd H p o) := by
  have ng := c.fresh jo n
  refine ⟨GLe.refl G, c.move jo fun a x e => upd_ne ?_, fun a x h _ z => ⟨?_, z⟩, fun a xs h => by rw [upd_ne (ne_of_none h n)]; exact h⟩
  · rintro rfl; rw [ng] at e; cases e
  · rw [upd_ne (ne_of_none h n)]; exact h

/-! ### results and slots -/
inductive R where
  | val (d : D) | own (ds : List D) | ownd (t : Bool) (kvs : List (D × D))
  deriving Inhabited
@[reducible] def R.toD : R → D
  | .val d => d
  | .own ds => .lst ds
  | .ownd t kvs => .dct t kvs
@[simp] theorem R.toD_val (d : D) : (R.val d).toD = d := rfl
@[simp] theorem R.toD_own (d : List D) : (R.own d).toD = .lst d := rfl
@[simp] theorem R.toD_ownd (t : Bool) (d : List (D × D)) : (R.ownd t d).toD = .dct t d := rfl
def R.isOwn : R → Bool
  | .val _ => false
  | _ => true
def RepR (Hf : Hp) (G : Gh) (H : Hp) (v : V) : R → Prop
  | .val d => Rep G d v
  | .own ds => ∃ p vs, v = .ref p ∧ Hf p = none ∧ G p = none ∧ H p = some (.lst vs) ∧ Reps G ds vs
  | .ownd false kvs => ∃ p es, v = .ref p ∧ Hf p = none ∧ G p = none ∧ H p = some (.dK es) ∧ RepK G kvs es
  | .ownd true kvs => ∃ p es, v = .ref p ∧ Hf p = none ∧ G p = none ∧ H p = some (.dT es) ∧ RepT G kvs es
theorem RepR.step {J : JT} {Hf H H' : Hp} {G G' : Gh} {v : V} : ∀ {r : R}, RepR Hf G H v r → Step J G H G' H' → RepR Hf G' H' v r
  | .val d, h, s => Rep.mono s.le d v h
  | .own ds, ⟨p, vs, e, f, n, q, r⟩, s => ⟨p, vs, e, f, (s.frame p _ q n).2, (s.frame p _ q n).1, Reps.mono s.le _ _ r⟩
  | .ownd false kvs, ⟨p, vs, e, f, n, q, r⟩, s => ⟨p, vs, e, f, (s.frame p _ q n).2, (s.frame p _ q n).1, RepK.mono s.le _ _ r⟩
  | .ownd true kvs, ⟨p, vs, e, f, n, q, r⟩, s => ⟨p, vs, e, f, (s.frame p _ q n).2, (s.frame p _ q n).1, RepT.mono s.le _ _ r⟩
/-- an owned result frozen -/
theorem RepR.freezeX {J : JT} {G0 G : Gh} {H0 H Hf : Hp} {v : V} (jo : JOk J) (s : Step J G0 H0 G H) (hf : ∀ p, Hf p = none → H0 p = none) : ∀ {r : R}, RepR Hf G H v r →
    ∃ G', Step J G0 H0 G' H ∧ GLe G G' ∧ Rep G' r.toD v ∧ ∀ q, (r.isOwn = true → v ≠ V.ref q) → G' q = G q
  | .val d, h => ⟨G, s, GLe.refl _, h, fun _ _ => rfl⟩
  | .own ds, ⟨p, vs, e, f, n, q, r⟩ => by
    refine ⟨gupd G p (.lst vs), ⟨s.le.trans (GLe.upd n), Coh.add jo s.coh n q, fun a o h nt z => ?_, s.tups⟩, GLe.upd n, ?_, fun q hq => gupd_ne fun z => ?_⟩
    · have ne : a ≠ p := by rintro rfl; rw [hf a f] at h; cases h
      rw [gupd_ne ne]; exact s.keep a o h nt z
    · unfold R.toD Rep; exact ⟨p, vs, e, gupd_same, Reps.mono (GLe.upd n) _ _ r⟩
    · exact hq rfl (by rw [e, z])
  | .ownd false kvs, ⟨p, vs, e, f, n, q, r⟩ => by
    refine ⟨gupd G p (.dK vs), ⟨s.le.trans (GLe.upd n), Coh.add jo s.coh n q, fun a o h nt z => ?_, s.tups⟩, GLe.upd n, ?_, fun q hq => gupd_ne fun z => ?_⟩
    · have ne : a ≠ p := by rintro rfl; rw [hf a f] at h; cases h
      rw [gupd_ne ne]; exact s.keep a o h nt z
    · unfold R.toD Rep; exact ⟨p, vs, e, gupd_same, RepK.mono (GLe.upd n) _ _ r⟩
    · exact hq rfl (by rw [e, z])
  | .ownd true kvs, ⟨p, vs, e, f, n, q, r⟩ => by
    refine ⟨gupd G p (.dT vs), ⟨s.le.trans (GLe.upd n), Coh.add jo s.coh n q, fun a o h nt z => ?_, s.tups⟩, GLe.upd n, ?_, fun q hq => gupd_ne fun z => ?_⟩
    · have ne : a ≠ p := by rintro rfl; rw [hf a f] at h; cases h
      rw [gupd_ne ne]; exact s.keep a o h nt z
    · unfold R.toD Rep; exact ⟨p, vs, e, .inl gupd_same, RepT.mono (GLe.upd n) _ _ r⟩
    · exact hq rfl (by rw [e, z])
theorem RepR.freeze {J : JT} {G0 G : Gh} {H0 H Hf : Hp} {v : V} {r : R} (jo : JOk J) (s : Step J G0 H0 G H) (hf : ∀ p, Hf p = none → H0 p = none) (h : RepR Hf G H v r) : ∃ G', Step J G0 H0 G' H ∧ GLe G G' ∧ Rep G' r.toD v :=
  let ⟨G', s', le, rd, _⟩ := h.freezeX jo s hf; ⟨G', s', le, rd⟩

abbrev Rho := List (Option R)
structure SRep (H0 : Hp) (G : Gh) (H : Hp) (σ : St) (ρ : Rho) : Prop where
  len : σ.length = ρ.length
  at_ : ∀ (i : Nat) (r : R), ρ[i]? = some (some r) → ∃ v, σ[i]? = some (some v) ∧ RepR H0 G H v r
  apart : ∀ (i j : Nat) (r r' : R) (p : Addr), ρ[i]? = some (some r) → ρ[j]? = some (some r') → r.isOwn = true → r'.isOwn = true → σ[i]? = some (some (V.ref p)) → σ[j]? = some (some (V.ref p)) → i = j
theorem SRep.step {J : JT} {H0 H H' : Hp} {G G' : Gh} {σ : St} {ρ : Rho} (s : SRep H0 G H σ ρ) (t : Step J G H G' H') : SRep H0 G' H' σ ρ :=
  ⟨s.len, fun i r e => let ⟨v, h1, h2⟩ := s.at_ i r e; ⟨v, h1, h2.step t⟩, s.apart⟩
theorem SRep.get {H0 H : Hp} {G : Gh} {σ : St} {ρ : Rho} {i : Nat} {r : R} (s : SRep H0 G H σ ρ) (h : ρ[i]? = some (some r)) : ∃ v, σ[i]? = some (some v) ∧ RepR H0 G H v r := s.at_ i r h
/-- a slot is set to a value -/
theorem SRep.setVal {H0 H : Hp} {G : Gh} {σ : St} {ρ : Rho} (s : SRep H0 G H σ ρ) (i : Nat) {v : V} {d : D} (h : Rep G d v) : SRep H0 G H (σ.set i (some v)) (ρ.set i (some (.val d))) := by
  refine ⟨by rw [List.length_set, List.length_set, s.len], fun j r e => ?_, fun j k r r' p e e' o o' h1 h2 => ?_⟩
  · by_cases hj : i = j
    · subst hj
      rw [List.getElem?_set] at e ⊢
      rw [if_pos rfl] at e ⊢
      rw [s.len]
      split at e
      · rw [if_pos ‹_›]; cases e; exact ⟨v, rfl, h⟩
      · cases e
    · rw [List.getElem?_set_ne hj] at e ⊢
      exact s.at_ j r e
  · by_cases hj : i = j
    · subst hj
      rw [List.getElem?_set, if_pos rfl] at e
      split at e <;> cases e
      cases o
    · by_cases hk : i = k
      · subst hk
        rw [List.getElem?_set, if_pos rfl] at e'
        split at e' <;> cases e'
        cases o'
      · rw [List.getElem?_set_ne hj] at e h1
        rw [List.getElem?_set_ne hk] at e' h2
        exact s.apart j k r r' p e e' o o' h1 h2
/-- a slot is set to something new: its address is none of the others' -/
theorem SRep.setR {H0 H : Hp} {G : Gh} {σ : St} {ρ : Rho} (s : SRep H0 G H σ ρ) (i : Nat) {v : V} {r : R} (h : RepR H0 G H v r) (ne : r.isOwn = true → ∀ (j : Nat) (r' : R), j ≠ i → ρ[j]? = some (some r') → r'.isOwn = true → σ[j]? ≠ some (some v)) : SRep H0 G H (σ.set i (some v)) (ρ.set i (some r)) := by
  refine ⟨by rw [List.length_set, List.length_set, s.len], fun j r e => ?_, fun j k r1 r2 p e e' o o' h1 h2 => ?_⟩
  · by_cases hj : i = j
    · subst hj
      rw [List.getElem?_set] at e ⊢
      rw [if_pos rfl] at e ⊢
      rw [s.len]
      split at e
      · rw [if_pos ‹_›]; cases e; exact ⟨v, rfl, h⟩
      · cases e
    · rw [List.getElem?_set_ne hj] at e ⊢
      exact s.at_ j r e
  · by_cases hj : i = j
    · by_cases hk : i = k
      · rw [← hj, ← hk]
      · exfalso
        subst hj
        rw [List.getElem?_set, if_pos rfl] at e h1
        rw [List.getElem?_set_ne hk] at e' h2
        split at e <;> cases e
        split at h1 <;> cases h1
        exact ne o k r2 (fun z => hk z.symm) e' o' h2
    · by_cases hk : i = k
      · exfalso
        subst hk
        rw [List.getElem?_set, if_pos rfl] at e' h2
        rw [List.getElem?_set_ne hj] at e h1
        split at e' <;> cases e'
        split at h2 <;> cases h2
        exact ne o' j r1 (fun z => hj z.symm) e o h1
      · rw [List.getElem?_set_ne hj] at e h1
        rw [List.getElem?_set_ne hk] at e' h2
        exact s.apart j k r1 r2 p e e' o o' h1 h2
/-- where an owned slot stands, the heap is not empty -/
theorem SRep.ownAt {H0 H : Hp} {G : Gh} {σ : St} {ρ : Rho} (s : SRep H0 G H σ ρ) {i : Nat} {r : R} {p : Addr} (e : ρ[i]? = some (some r)) (o : r.isOwn = true) (h : σ[i]? = some (some (V.ref p))) : ∃ x, H p = some x := by
  obtain ⟨v, h1, h2⟩ := s.at_ i r e
  rw [h] at h1; cases h1
  cases r with
  | val d => cases o
  | own ds => obtain ⟨p', vs, e', _, _, q, _⟩ := h2; cases e'; exact ⟨_, q⟩
  | ownd t kvs => cases t <;> (obtain ⟨p', vs, e', _, _, q, _⟩ := h2; cases e'; exact ⟨_, q⟩)
end PL
end
section
set_option Elab.async false
set_option linter.all false
set_option maxRecDepth 100000
set_option autoImplicit false
namespace PL
open PySem PySem.Spec L2
open PyProof.Rows hiding St

/-! ### what code is worth: predicate transformers over slots -/
structure Exc where
  cls : Str
  fs : List (Str × D)
abbrev XP := Exc → Prop
abbrev WE := Rho → (R → Prop) → XP → Prop
abbrev WT := Rho → (Bool → Prop) → XP → Prop
structure WEnds where
  nx : Rho → Prop
  rt : R → Prop
  bk : Rho → Prop
  ct : Rho → Prop
abbrev WS := WEnds → XP → Rho → Prop

/-- the ground: objects' invariants, the module's names, the entry, the wish of exceptions -/
structure Pc where
  J : JT
  jo : JOk J
  mg : Str → Option Value
  H0 : Hp
  G0 : Gh
  W : WX

def XRep (mg : Str → Option Value) (G : Gh) (H : Hp) (x : Exc) (cls : Value) (d : Option Addr) : Prop :=
  (∃ C, cls = .ref C ∧ mg x.cls = some (.ref C)) ∧ match x.fs with
    | [] => d = none
    | (n, f) :: _ => ∃ dx, d = some dx ∧ G dx = some (.inv 2 [.str n, f])
def XQ (c : Pc) (E : XP) (G : Gh) (H : Hp) (σ : L2.St) : Prop := ∀ x, E x → ∀ cls d G' H', Step c.J G H G' H' → XRep c.mg G' H' x cls d → c.W cls d σ H'
theorem XQ.step {c : Pc} {E : XP} {G G1 : Gh} {H H1 : Hp} {σ : L2.St} (q : XQ c E G H σ) (s : Step c.J G H G1 H1) : XQ c E G1 H1 σ := fun x h cls d G' H' t r => q x h cls d G' H' (s.trans t) r

def tWE (c : Pc) (f : WE) : TE := fun σ H Q => ∃ G ρ P E, Coh c.J G H ∧ SRep c.H0 G H σ ρ ∧ f ρ P E ∧ (∀ r, P r → ∀ v G' H', Step c.J G H G' H' → RepR H G' H' v r → Q v H') ∧ XQ c E G H σ
/-- results as data -/
def tWD (c : Pc) (f : WE) : TE := fun σ H Q => ∃ G ρ P E, Coh c.J G H ∧ SRep c.H0 G H σ ρ ∧ f ρ P E ∧ (∀ r, P r → ∀ v G' H', Step c.J G H G' H' → Rep G' r.toD v → Q v H') ∧ XQ c E G H σ
def tWT (c : Pc) (f : WT) : TT := fun σ H Q => ∃ G ρ P E, Coh c.J G H ∧ SRep c.H0 G H σ ρ ∧ f ρ P E ∧ (∀ b, P b → ∀ G' H', Step c.J G H G' H' → Q b H') ∧ XQ c E G H σ

theorem PE.imp {X : Cx} {e : Expr} {t t' : TE} (h : PE X e t) (i : ∀ σ H Q, t' σ H Q → t σ H Q) : PE X e t' := ⟨fun pins s σ H Q I q => h.run pins s σ H Q I (i σ H Q q)⟩
theorem PT.imp {X : Cx} {e : Expr} {t t' : TT} (h : PT X e t) (i : ∀ σ H Q, t' σ H Q → t σ H Q) : PT X e t' := ⟨fun pins s σ H Q I q => h.run pins s σ H Q I (i σ H Q q)⟩
theorem PW.imp {X : Cx} {e : Expr} {t t' : TT} (h : PW X e t) (i : ∀ σ H Q, t' σ H Q → t σ H Q) : PW X e t' := ⟨fun wh pins s σ H Q I q => h.run wh pins s σ H Q I (i σ H Q q)⟩
theorem PS.imp {X : Cx} {e : Stmt} {t t' : TS} (h : PS X e t) (i : ∀ D σ H, t' D σ H → t D σ H) : PS X e t' := ⟨fun pins s σ H D I q => h.run pins s σ H D I (i D σ H q)⟩
theorem PSs.imp {X : Cx} {e : List Stmt} {t t' : TS} (h : PSs X e t) (i : ∀ D σ H, t' D σ H → t D σ H) : PSs X e t' := ⟨fun pins s σ H D I q => h.run pins s σ H D I (i D σ H q)⟩
theorem PA.imp {X : Cx} {e : List Expr} {t t' : TA} (h : PA X e t) (i : ∀ σ H Q, t' σ H Q → t σ H Q) : PA X e t' := ⟨fun pos pins s σ H Q I q => h.run pos pins s σ H Q I (i σ H Q q)⟩

section
variable {X : Cx} {c : Pc} {e a b : Expr} {fa fb f : WE} {pos : Pos}

theorem tWD_E {σ : L2.St} {H : Hp} {Q : VK} (h : tWD c f σ H Q) : tWE c f σ H Q := by
  obtain ⟨G, ρ, P, E, co, sr, hf, hp, hx⟩ := h
  refine ⟨G, ρ, P, E, co, sr, hf, fun r pr v G' H' st rr => ?_, hx⟩
  obtain ⟨G2, st2, le, rd⟩ := rr.freeze c.jo st (fun _ h => h)
  exact hp r pr v G2 H' st2 rd
theorem pdD (h : PE X e (tWE c f)) : PE X e (tWD c f) := PE.imp h fun _ _ _ => tWD_E

/-- one operand: what a rule asks of it, by what it is worth -/
theorem opnd {σ : L2.St} {H : Hp} {G : Gh} {ρ : Rho} {P : R → Prop} {E : XP} {Q : VK} (co : Coh c.J G H) (sr : SRep c.H0 G H σ ρ) (hx : XQ c E G H σ) (h : fa ρ P E)
    (k : ∀ r, P r → ∀ v G' H', Step c.J G H G' H' → Rep G' r.toD v → Coh c.J G' H' → SRep c.H0 G' H' σ ρ → XQ c E G' H' σ → Q v H') : tWD c fa σ H Q :=
  ⟨G, ρ, P, E, co, sr, h, fun r pr v G' H' st rd => k r pr v G' H' st rd st.coh (sr.step st) (hx.step st), hx⟩

/-! ### names and constants -/
def wVar (i : Nat) : WE := fun ρ P _ => ∃ d, ρ[i]? = some (some (.val d)) ∧ P (.val d)
theorem pd_var (i : Nat) {x : Str} {pos : Pos} (hN : X.N[i]? = some x := by rfl) (hv : Vis X.env.scope x := by first | exact Or.inl rfl | exact Or.inr (Or.inl rfl) | exact Or.inr (Or.inr rfl)) (hd : (x == ("__debug__" : Str)) = false := by decide)
    (hcd : (x == ("__classdict__" : Str)) = false := by decide) : PE X (.Name x pos) (tWE c (wVar i)) := PE.imp (pe_var hN hv hd hcd) fun σ H Q h => by
  obtain ⟨G, ρ, P, E, co, sr, ⟨d, hd, pd⟩, hp, hx⟩ := h
  obtain ⟨v, h1, h2⟩ := sr.get hd
  exact ⟨v, h1, hp _ pd v G H (Step.refl co) h2⟩
def wC (d : D) : WE := fun _ P _ => P (.val d)
theorem pd_int {i j pos} : PE X (.Constant (.int i) j pos) (tWE c (wC (.int i))) := PE.imp pe_int fun σ H Q ⟨G, ρ, P, E, co, sr, h, hp, hx⟩ => hp _ h _ G H (Step.refl co) (by unfold RepR Rep; rfl)
theorem pd_bl {i j pos} : PE X (.Constant (.bool i) j pos) (tWE c (wC (.bl i))) := PE.imp pe_bl fun σ H Q ⟨G, ρ, P, E, co, sr, h, hp, hx⟩ => hp _ h _ G H (Step.refl co) (by unfold RepR Rep; rfl)
theorem pd_non {j pos} : PE X (.Constant .none j pos) (tWE c (wC .non)) := PE.imp pe_non fun σ H Q ⟨G, ρ, P, E, co, sr, h, hp, hx⟩ => hp _ h _ G H (Step.refl co) (by unfold RepR Rep; rfl)
theorem pd_str {x j pos} : PE X (.Constant (.str x) j pos) (tWE c (wC (.str x))) := PE.imp pe_str fun σ H Q ⟨G, ρ, P, E, co, sr, h, hp, hx⟩ => hp _ h _ G H (Step.refl co) (by unfold RepR Rep; rfl)
/-- a module's constant int -/
theorem pd_globI {x : Str} {i : Int} {t : Tok} {pos : Pos} (hg : Gl X x) (hm : X.mg x = some (.int i t)) (hd : (x == ("__debug__" : Str)) = false := by decide) : PE X (.Name x pos) (tWE c (wC (.int i))) :=
  PE.imp (pe_glob (v := .int i) hg hm ⟨t, rfl⟩ hd) fun σ H Q ⟨G, ρ, P, E, co, sr, h, hp, hx⟩ => hp _ h _ G H (Step.refl co) (by unfold RepR Rep; rfl)

/-! ### argument lists -/
def wArgs : List WE → Rho → List D → (List D → Prop) → XP → Prop
  | [], _, acc, P, _ => P acc
  | f :: fs, ρ, acc, P, E => f ρ (fun r => wArgs fs ρ (acc ++ [r.toD]) P E) E
def tWA (c : Pc) (fs : List WE) : TA := fun σ H Q => ∃ G ρ P E acc vacc, Coh c.J G H ∧ SRep c.H0 G H σ ρ ∧ wArgs fs ρ acc P E ∧ Reps G acc vacc ∧
  (∀ ds, P ds → ds.length = acc.length + fs.length → ∀ vs G' H', Step c.J G H G' H' → Reps G' ds (vacc ++ vs) → Q vs H') ∧ XQ c E G H σ
theorem pa_nil' : PA X [] (tWA c []) := PA.imp pa_nil fun σ H Q ⟨G, ρ, P, E, acc, vacc, co, sr, h, ra, hp, hx⟩ => hp acc h (by simp) [] G H (Step.refl co) (by simpa using ra)
theorem pa_cons' {es : List Expr} {fs : List WE} (he : PE X e (tWE c f)) (hr : PA X es (tWA c fs)) (hs : starEach (e :: es) X.env = (false, eval e X.env) :: starEach es X.env := by rfl) : PA X (e :: es) (tWA c (f :: fs)) :=
  PA.imp (pa_cons (pdD he) hr hs) fun σ H Q ⟨G, ρ, P, E, acc, vacc, co, sr, h, ra, hp, hx⟩ => by
    refine opnd co sr hx h fun r pr v G1 H1 st rd co1 sr1 hx1 => ?_
    refine ⟨G1, ρ, P, E, acc ++ [r.toD], vacc ++ [v], co1, sr1, pr, (Reps.mono st.le _ _ ra).append (.cons rd .nil), fun ds pd hl vs G2 H2 st2 rs => ?_, hx1⟩
    refine hp ds pd ?_ (v :: vs) G2 H2 (st.trans st2) (by simpa using rs)
    simp only [List.length_append, List.length_cons, List.length_nil] at hl ⊢
    omega
/-- argument lists for a rule: from nothing -/
theorem args {fs : List WE} {σ : L2.St} {H : Hp} {G : Gh} {ρ : Rho} {P : List D → Prop} {E : XP} {Q : List V → Hp → Prop} (co : Coh c.J G H) (sr : SRep c.H0 G H σ ρ) (hx : XQ c E G H σ) (h : wArgs fs ρ [] P E)
    (k : ∀ ds, P ds → ds.length = fs.length → ∀ vs G' H', Step c.J G H G' H' → Reps G' ds vs → Coh c.J G' H' → SRep c.H0 G' H' σ ρ → XQ c E G' H' σ → Q vs H') : tWA c fs σ H Q :=
  ⟨G, ρ, P, E, [], [], co, sr, h, .nil, fun ds pd hl vs G' H' st rs => k ds pd (by simpa using hl) vs G' H' st (by simpa using rs) st.coh (sr.step st) (hx.step st), hx⟩

theorem Reps.vlen {G : Gh} {ds : List D} {vs : List V} (h : Reps G ds vs) : vs.length = ds.length := h.length.symm
theorem rep_tup {G : Gh} {p : Addr} {vs : List V} {ds : List D} (n : G p = none) (r : Reps G ds vs) : Rep (gupd G p (.tup vs)) (.tup ds) (.ref p) := by
  unfold Rep; exact ⟨p, vs, rfl, gupd_same, Reps.mono (GLe.upd n) _ _ r⟩
/-- a new tuple -/
theorem newTup {G : Gh} {H : Hp} {p : Addr} {vs : List V} (jo : JOk c.J) (co : Coh c.J G H) (n : H p = none) : Step c.J G H (gupd G p (.tup vs)) (upd H p (.tup vs)) := Step.new jo co n upd_same
theorem newLst {G : Gh} {H : Hp} {p : Addr} {vs : List V} (jo : JOk c.J) (co : Coh c.J G H) (n : H p = none) : Step c.J G H (gupd G p (.lst vs)) (upd H p (.lst vs)) := Step.new jo co n upd_same
theorem repR_own {Hf : Hp} {G : Gh} {H : Hp} {p : Addr} {vs : List V} {ds : List D} (f : Hf p = none) (n : G p = none) (r : Reps G ds vs) : RepR Hf G (upd H p (.lst vs)) (.ref p) (.own ds) := ⟨p, vs, rfl, f, n, upd_same, r⟩

def wTup (fs : List WE) : WE := fun ρ P E => wArgs fs ρ [] (fun ds => P (.val (.tup ds))) E
def wLst (fs : List WE) : WE := fun ρ P E => wArgs fs ρ [] (fun ds => P (.own ds)) E
theorem pd_tup {es : List Expr} {fs : List WE} {x1} (h : PA X es (tWA c fs)) (hl : fs.length ≤ 1000 := by decide) : PE X (.Tuple es x1 pos) (tWE c (wTup fs)) := PE.imp (pe_tup h) fun σ H Q ⟨G, ρ, P, E, co, sr, h, hp, hx⟩ => by
  refine args co sr hx h fun ds pd hl2 vs G1 H1 st rs co1 sr1 hx1 => ⟨Nat.le_of_lt (small1000 (by rw [rs.vlen, hl2]; exact hl)), fun p np => ?_⟩
  exact hp _ pd (.ref p) _ _ (st.trans (newTup c.jo co1 np)) (rep_tup (co1.fresh c.jo np) rs)
theorem pd_lst {es : List Expr} {fs : List WE} (h : PA X es (tWA c fs)) (hl : fs.length ≤ 1000 := by decide) : PE X (.List es pos) (tWE c (wLst fs)) := PE.imp (pe_lst h) fun σ H Q ⟨G, ρ, P, E, co, sr, h, hp, hx⟩ => by
  refine args co sr hx h fun ds pd hl2 vs G1 H1 st rs co1 sr1 hx1 => ⟨Nat.le_of_lt (small1000 (by rw [rs.vlen, hl2]; exact hl)), fun p np => ?_⟩
  exact hp _ pd (.ref p) _ _ (st.trans (Step.newOwn c.jo co1 np)) (repR_own (st.dom c.jo np) (co1.fresh c.jo np) rs)

/-! ### operators by values -/
abbrev OpW := D → D → (R → Prop) → Prop
def OpOk (c : Pc) (r : R2) (g : OpW) : Prop := ∀ (G : Gh) (H : Hp) (dx dy : D) (x y : V) (P : R → Prop) (Q : VK), Coh c.J G H → Rep G dx x → Rep G dy y → g dx dy P →
  (∀ r, P r → ∀ v G' H', Step c.J G H G' H' → RepR H G' H' v r → Q v H') → r x y H Q
theorem OpOk.or {r r' : R2} {g g' : OpW} (h : OpOk c r g) (h' : OpOk c r' g') : OpOk c (fun x y H Q => r x y H Q ∨ r' x y H Q) (fun a b P => g a b P ∨ g' a b P) := fun G H dx dy x y P Q co rx ry q k => by
  rcases q with q | q
  · exact .inl (h G H dx dy x y P Q co rx ry q k)
  · exact .inr (h' G H dx dy x y P Q co rx ry q k)
theorem OpOk.imp {r : R2} {g g' : OpW} (h : OpOk c r g) (i : ∀ a b P, g' a b P → g a b P) : OpOk c r g' := fun G H dx dy x y P Q co rx ry q k => h G H dx dy x y P Q co rx ry (i _ _ _ q) k
def wBin (g : OpW) (fa fb : WE) : WE := fun ρ P E => fa ρ (fun r1 => fb ρ (fun r2 => g r1.toD r2.toD P) E) E
theorem tOp_of {r : R2} {g : OpW} (hg : OpOk c r g) {σ : L2.St} {H : Hp} {Q : VK} (h : tWE c (wBin g fa fb) σ H Q) : tOp r (tWD c fa) (tWD c fb) σ H Q := by
  obtain ⟨G, ρ, P, E, co, sr, h, hp, hx⟩ := h
  refine opnd co sr hx h fun r1 p1 x G1 H1 st1 rx co1 sr1 hx1 => opnd co1 sr1 hx1 p1 fun r2 p2 y G2 H2 st2 ry co2 sr2 hx2 => ?_
  exact hg G2 H2 _ _ x y P Q co2 (Rep.mono st2.le _ _ rx) ry p2 fun r pr v G' H' st rr => hp r pr v G' H' ((st1.trans st2).trans st) (by
    cases r with
    | val d => exact rr
    | own ds => obtain ⟨p, vs, e, f, n, q⟩ := rr; exact ⟨p, vs, e, (st1.trans st2).dom c.jo f, n, q⟩
    | ownd t ds => cases t <;> (obtain ⟨p, vs, e, f, n, q⟩ := rr; exact ⟨p, vs, e, (st1.trans st2).dom c.jo f, n, q⟩))
theorem pd_bin {op : Operator} {r : R2} {g : OpW} (ho : OpR X (binaryOp op) r) (hg : OpOk c r g) (ha : PE X a (tWE c fa)) (hb : PE X b (tWE c fb)) : PE X (.BinOp a op b pos) (tWE c (wBin g fa fb)) :=
  PE.imp (pe_op ho (pdD ha) (pdD hb)) fun _ _ _ h => tOp_of hg h
theorem pd_cmp {op : CmpOp} {r : R2} {g : OpW} (ho : OpR X (compareOp op) r) (hg : OpOk c r g) (ha : PE X a (tWE c fa)) (hb : PE X b (tWE c fb)) (hm : behindInMarks op b = false := by first | exact nomark _ | rfl) : PE X (.Compare a [op] [b] pos) (tWE c (wBin g fa fb)) :=
  PE.imp (pe_cmpR ho (pdD ha) (pdD hb) hm) fun _ _ _ h => tOp_of hg h
end
end PL
end
section
set_option Elab.async false
set_option linter.all false
set_option maxRecDepth 100000
set_option autoImplicit false
namespace PL
open PySem PySem.Spec L2
open PyProof.Rows hiding St

/-! ### data as the library's data -/
mutual
def toP : D → PyData
  | .non => .none
  | .bl b => .bool b
  | .int i => .int i
  | .str x => .str x
  | .tup xs => .tuple (toPs xs)
  | .lst xs => .list (toPs xs)
  | .dct _ _ => .dict []
  | .obj _ _ => .dict []
  | .raw _ _ _ => .dict []
def toPs : List D → List PyData
  | [] => []
  | x :: xs => toP x :: toPs xs
end
theorem toPs_map : ∀ xs : List D, toPs xs = xs.map toP
  | [] => by rw [toPs]; rfl
  | x :: xs => by rw [toPs, toPs_map xs]; rfl
abbrev pl (d : D) : Bool := (toP d).plain
abbrev dp (d : D) : Nat := (toP d).depth
theorem plain_all_cons {x : PyData} {xs : List PyData} (h : PyData.plainAll (x :: xs) = true) : x.plain = true ∧ PyData.plainAll xs = true := by
  unfold PyData.plainAll at h; simpa using h
mutual
theorem Rep.dp {J : JT} {G : Gh} {H : Hp} {K : PySem.W.Frag} (co : Coh J G H) : ∀ (d : D) (v : V), Rep G d v → pl d = true → Dp K H v (toP d)
  | .non, v, h, _ => by unfold Rep at h; subst h; unfold toP; exact .non
  | .bl b, v, h, _ => by unfold Rep at h; subst h; unfold toP; exact .bl b
  | .int b, v, h, _ => by unfold Rep at h; subst h; unfold toP; exact .int b
  | .str b, v, h, _ => by unfold Rep at h; subst h; unfold toP; exact .str b
  | .tup xs, v, h, q => by
    unfold Rep at h; obtain ⟨a, vs, rfl, g, r⟩ := h
    unfold toP
    unfold pl toP PyData.plain at q
    exact .tup (.inl (.inl (co a _ g))) (Reps.dp co xs vs r q)
  | .lst xs, v, h, q => by
    unfold Rep at h; obtain ⟨a, vs, rfl, g, r⟩ := h
    unfold toP
    unfold pl toP PyData.plain at q
    exact .lst (.inl (.inl (co a _ g))) (Reps.dp co xs vs r q)
  | .dct _ kvs, v, h, q => by unfold pl toP PyData.plain at q; cases q
  | .obj t ds, v, h, q => by unfold pl toP PyData.plain at q; cases q
  | .raw _ _ _, v, h, q => by unfold pl toP PyData.plain at q; cases q
theorem Reps.dp {J : JT} {G : Gh} {H : Hp} {K : PySem.W.Frag} (co : Coh J G H) : ∀ (ds : List D) (vs : List V), Reps G ds vs → PyData.plainAll (toPs ds) = true → DpAll K H vs (toPs ds)
  | [], vs, h, _ => by unfold Reps at h; subst h; unfold toPs; exact .nil
  | d :: ds, vs, h, q => by
    obtain ⟨v, r, rfl, h1, h2⟩ := h.uncons
    unfold toPs at q ⊢
    obtain ⟨q1, q2⟩ := plain_all_cons q
    exact .cons (Rep.dp co d v h1 q1) (Reps.dp co ds r h2 q2)
end
theorem Rep.sqT {J : JT} {G : Gh} {H : Hp} {K : PySem.W.Frag} (co : Coh J G H) {xs : List D} {v : V} (h : Rep G (.tup xs) v) : ∃ a vs, v = .ref a ∧ SqT K H a vs ∧ Reps G xs vs ∧ G a = some (.tup vs) := by
  unfold Rep at h; obtain ⟨a, vs, e, g, r⟩ := h; exact ⟨a, vs, e, .inl (.inl (co a _ g)), r, g⟩
theorem Rep.sqL {J : JT} {G : Gh} {H : Hp} (co : Coh J G H) {xs : List D} {v : V} (h : Rep G (.lst xs) v) : ∃ a vs, v = .ref a ∧ H a = some (.lst vs) ∧ Reps G xs vs ∧ G a = some (.lst vs) := by
  unfold Rep at h; obtain ⟨a, vs, e, g, r⟩ := h; exact ⟨a, vs, e, co a _ g, r, g⟩
theorem Rep.int_ {G : Gh} {i : Int} {v : V} (h : Rep G (.int i) v) : v = .int i := by unfold Rep at h; exact h
theorem Rep.bl_ {G : Gh} {i : Bool} {v : V} (h : Rep G (.bl i) v) : v = .bl i := by unfold Rep at h; exact h
theorem Rep.str_ {G : Gh} {i : Str} {v : V} (h : Rep G (.str i) v) : v = .str i := by unfold Rep at h; exact h
theorem Rep.non_ {G : Gh} {v : V} (h : Rep G .non v) : v = .non := by unfold Rep at h; exact h
theorem rep_int {G : Gh} (i : Int) : Rep G (.int i) (.int i) := by unfold Rep; rfl
theorem rep_bl {G : Gh} (i : Bool) : Rep G (.bl i) (.bl i) := by unfold Rep; rfl
theorem rep_str {G : Gh} (i : Str) : Rep G (.str i) (.str i) := by unfold Rep; rfl
theorem rep_non {G : Gh} : Rep G .non .non := by unfold Rep; rfl
theorem rr_int {Hf H : Hp} {G : Gh} {i : Int} : RepR Hf G H (.int i) (.val (.int i)) := rep_int (G := G) i
theorem rr_bl {Hf H : Hp} {G : Gh} {i : Bool} : RepR Hf G H (.bl i) (.val (.bl i)) := rep_bl (G := G) i
theorem rr_str {Hf H : Hp} {G : Gh} {i : Str} : RepR Hf G H (.str i) (.val (.str i)) := rep_str (G := G) i
theorem rr_non {Hf H : Hp} {G : Gh} : RepR Hf G H .non (.val .non) := rep_non (G := G)

section
variable {X : Cx} {c : Pc}
/-! ### operators -/
def intOp (C : Int → Int → Prop) (g : Int → Int → Int) : OpW := fun a b P => ∃ i j, a = .int i ∧ b = .int j ∧ C i j ∧ P (.val (.int (g i j)))
theorem ok_intOp {C : Int → Int → Prop} {g : Int → Int → Int} : OpOk c (rI C fun i j => .int (g i j)) (intOp C g) := fun G H dx dy x y P Q co rx ry ⟨i, j, ea, eb, hc, p⟩ k => by
  subst ea; subst eb
  exact ⟨i, j, rx.int_, ry.int_, hc, k _ p _ G H (Step.refl co) rr_int⟩
def intOp0 (g : Int → Int → Int) : OpW := fun a b P => ∃ i j, a = .int i ∧ b = .int j ∧ P (.val (.int (g i j)))
theorem ok_intOp0 {g : Int → Int → Int} : OpOk c (rI0 fun i j => .int (g i j)) (intOp0 g) := fun G H dx dy x y P Q co rx ry ⟨i, j, ea, eb, p⟩ k => by
  subst ea; subst eb
  exact ⟨i, j, rx.int_, ry.int_, k _ p _ G H (Step.refl co) rr_int⟩
def cmpOp0 (g : Int → Int → Bool) : OpW := fun a b P => ∃ i j, a = .int i ∧ b = .int j ∧ P (.val (.bl (g i j)))
theorem ok_cmpOp0 {g : Int → Int → Bool} : OpOk c (rI0 fun i j => .bl (g i j)) (cmpOp0 g) := fun G H dx dy x y P Q co rx ry ⟨i, j, ea, eb, p⟩ k => by
  subst ea; subst eb
  exact ⟨i, j, rx.int_, ry.int_, k _ p _ G H (Step.refl co) rr_bl⟩

/-- a + b -/
def addW : OpW := fun a b P => match a, b with
  | .int i, .int j => P (.val (.int (i + j)))
  | .lst xs, .lst ys => xs.length + ys.length ≤ sizeLine ∧ P (.own (xs ++ ys))
  | .tup xs, .tup ys => xs.length + ys.length ≤ sizeLine ∧ P (.val (.tup (xs ++ ys)))
  | .str x, .str y => x.length + y.length ≤ sizeLine ∧ P (.val (.str (x ++ y)))
  | _, _ => False
abbrev rAdd (K : PySem.W.Frag) : R2 := fun x y H Q => rI0 (fun i j => .int (i + j)) x y H Q ∨ (rCat x y H Q ∨ (rCatA K x y H Q ∨ (∃ i j, x = .str i ∧ y = .str j ∧ i.length + j.length ≤ sizeLine ∧ Q (.str (i ++ j)) H)))
theorem op_addD : OpR X (binaryOp .Add) (rAdd X.K) := op_add.or (op_cat.or (op_catA.or op_add_str))
theorem ok_addD : OpOk c (rAdd X.K) addW := fun G H dx dy x y P Q co rx ry p k => by
  unfold addW at p
  split at p
  · exact .inl ⟨_, _, rx.int_, ry.int_, k _ p _ G H (Step.refl co) rr_int⟩
  · obtain ⟨z, p⟩ := p
    obtain ⟨a, vs, rfl, h1, r1, _⟩ := rx.sqL co
    obtain ⟨b, ws, rfl, h2, r2, _⟩ := ry.sqL co
    exact .inr (.inl ⟨a, b, vs, ws, rfl, rfl, h1, h2, by rw [r1.vlen, r2.vlen]; exact z, fun q nq => k _ p _ _ _ (Step.newOwn c.jo co nq) (repR_own nq (co.fresh c.jo nq) (r1.append r2))⟩)
  · obtain ⟨z, p⟩ := p
    obtain ⟨a, vs, rfl, h1, r1, g1⟩ := rx.sqT (K := X.K) co
    obtain ⟨b, ws, rfl, h2, r2, g2⟩ := ry.sqT (K := X.K) co
    refine .inr (.inr (.inl ⟨a, b, vs, ws, rfl, rfl, h1, h2, by rw [r1.vlen, r2.vlen]; exact z, fun e => ?_, fun _ e => ?_, fun _ _ q nq => ?_⟩))
    · subst e
      refine k _ p _ G H (Step.refl co) ?_
      have := r1.vlen; simp at this; have e2 := List.eq_nil_of_length_eq_zero this.symm
      subst e2; exact ry
    · subst e
      refine k _ p _ G H (Step.refl co) ?_
      have := r2.vlen; simp at this; have e2 := List.eq_nil_of_length_eq_zero this.symm
      subst e2; rw [List.append_nil]; exact rx
    · exact k _ p _ _ _ (newTup c.jo co nq) (rep_tup (co.fresh c.jo nq) (r1.append r2))
  · obtain ⟨z, p⟩ := p
    exact .inr (.inr (.inr ⟨_, _, rx.str_, ry.str_, z, k _ p _ G H (Step.refl co) rr_str⟩))
  · exact p.elim
abbrev subW : OpW := intOp0 fun i j => i - j
/-- a * b -/
def mulW : OpW := fun a b P => match a, b with
  | .int i, .int j => (CMul i j ∨ CMulW i j) ∧ P (.val (.int (i * j)))
  | .lst xs, .int k => -(2 ^ 63) ≤ k ∧ k < 2 ^ 63 ∧ xs.length * k.toNat ≤ sizeLine ∧ P (.own (List.replicate k.toNat xs).flatten)
  | .tup xs, .int k => xs ≠ [] ∧ 2 ≤ k ∧ k ≤ 1000 ∧ xs.length ≤ 1000 ∧ P (.val (.tup (List.replicate k.toNat xs).flatten))
  | _, _ => False
abbrev rMulD (K : PySem.W.Frag) : R2 := fun x y H Q => (rI CMul (fun i j => .int (i * j)) x y H Q ∨ rI CMulW (fun i j => .int (i * j)) x y H Q) ∨ (rRep x y H Q ∨ rRepT K x y H Q)
theorem op_mulD : OpR X (binaryOp .Mult) (rMulD X.K) := (op_mul.or op_mulW).or (op_rep.or op_repT)
theorem Reps.flat {G : Gh} {ds : List D} {vs : List V} (r : Reps G ds vs) : ∀ n : Nat, Reps G (List.replicate n ds).flatten (List.replicate n vs).flatten
  | 0 => by simpa using Reps.nil
  | n + 1 => by rw [List.replicate_succ, List.replicate_succ, List.flatten_cons, List.flatten_cons]; exact r.append (Reps.flat r n)
theorem ok_mulD : OpOk c (rMulD X.K) mulW := fun G H dx dy x y P Q co rx ry p k => by
  unfold mulW at p
  split at p
  · obtain ⟨z, p⟩ := p
    rcases z with z | z
    · exact .inl (.inl ⟨_, _, rx.int_, ry.int_, z, k _ p _ G H (Step.refl co) rr_int⟩)
    · exact .inl (.inr ⟨_, _, rx.int_, ry.int_, z, k _ p _ G H (Step.refl co) rr_int⟩)
  · obtain ⟨z1, z2, z3, p⟩ := p
    obtain ⟨a, vs, rfl, h1, r1, _⟩ := rx.sqL co
    exact .inr (.inl ⟨a, _, vs, rfl, ry.int_, h1, z1, z2, by rw [r1.vlen]; exact z3, fun q nq => k _ p _ _ _ (Step.newOwn c.jo co nq) (repR_own nq (co.fresh c.jo nq) (r1.flat _))⟩)
  · obtain ⟨z0, z1, z2, z3, p⟩ := p
    obtain ⟨a, vs, rfl, h1, r1, _⟩ := rx.sqT (K := X.K) co
    refine .inr (.inr ⟨a, _, vs, rfl, ry.int_, h1, fun e => z0 ?_, z1, z2, by rw [r1.vlen]; exact z3, fun q nq => k _ p _ _ _ (newTup c.jo co nq) (rep_tup (co.fresh c.jo nq) (r1.flat _))⟩)
    subst e; have := r1.vlen; simp at this; exact List.eq_nil_of_length_eq_zero this.symm
  · exact p.elim
/-- a // b, a % b, a ** b, a << b -/
def fdivW : OpW := fun a b P => (intOp CDivW (fun i j => i / j) a b P) ∨ (intOp CDivN (fun i j => i.fdiv j) a b P)
theorem op_fdivD : OpR X (binaryOp .FloorDiv) (fun x y H Q => rI CDivW (fun i j => .int (i / j)) x y H Q ∨ rI CDivN (fun i j => .int (i.fdiv j)) x y H Q) := op_fdivW.or op_fdivN
theorem ok_fdivD : OpOk c (fun x y H Q => rI CDivW (fun i j => .int (i / j)) x y H Q ∨ rI CDivN (fun i j => .int (i.fdiv j)) x y H Q) fdivW := OpOk.or ok_intOp ok_intOp
def modW : OpW := fun a b P => (intOp (fun _ j => 0 < j) (fun i j => i % j) a b P) ∨ (intOp (fun _ j => j ≠ 0) (fun i j => i.fmod j) a b P)
theorem op_modD : OpR X (binaryOp .Mod) (fun x y H Q => rI (fun _ j => 0 < j) (fun i j => .int (i % j)) x y H Q ∨ rI (fun _ j => j ≠ 0) (fun i j => .int (i.fmod j)) x y H Q) := op_mod.or op_modN
theorem ok_modD : OpOk c (fun x y H Q => rI (fun _ j => 0 < j) (fun i j => .int (i % j)) x y H Q ∨ rI (fun _ j => j ≠ 0) (fun i j => .int (i.fmod j)) x y H Q) modW := OpOk.or ok_intOp ok_intOp
abbrev powW : OpW := intOp CPow fun i j => i ^ j.toNat
abbrev shlW : OpW := intOp CPow fun i j => i * 2 ^ j.toNat

/-! ### comparisons -/
/-- a == b of plain data -/
def eqW : OpW := fun a b P => pl a = true ∧ pl b = true ∧ min (dp a) (dp b) ≤ 60 ∧ P (.val (.bl (PyData.eqv (toP a) (toP b))))
def neW : OpW := fun a b P => pl a = true ∧ pl b = true ∧ min (dp a) (dp b) ≤ 60 ∧ P (.val (.bl (!PyData.eqv (toP a) (toP b))))
def rEqP (K : PySem.W.Frag) : R2 := fun x y H Q => ∃ d e, Dp K H x d ∧ Dp K H y e ∧ d.plain = true ∧ e.plain = true ∧ min d.depth e.depth ≤ 60 ∧ Q (.bl (PyData.eqv d e)) H
def rNeP (K : PySem.W.Frag) : R2 := fun x y H Q => ∃ d e, Dp K H x d ∧ Dp K H y e ∧ d.plain = true ∧ e.plain = true ∧ min d.depth e.depth ≤ 60 ∧ Q (.bl (!PyData.eqv d e)) H
theorem op_eqP (hu : X.A.units + 64 < cLine) : OpR X (compareOp .Eq) (rEqP X.K) := by
  intro pins s σ H x y v u Q I rx ry h
  obtain ⟨d, e, hd, he, sd, se, z, q⟩ := h
  obtain ⟨as, r1⟩ := Dp.reads I d x v hd rx
  obtain ⟨bs, r2⟩ := Dp.reads I e y u he ry
  exact PySem.SeqAt.eq_plain r1 r2 sd se (by omega) ⟨.bl _, H, I, rfl, q⟩
theorem op_neP (hu : X.A.units + 64 < cLine) : OpR X (compareOp .NotEq) (rNeP X.K) := by
  intro pins s σ H x y v u Q I rx ry h
  obtain ⟨d, e, hd, he, sd, se, z, q⟩ := h
  obtain ⟨as, r1⟩ := Dp.reads I d x v hd rx
  obtain ⟨bs, r2⟩ := Dp.reads I e y u he ry
  exact PySem.SeqAt.ne_plain r1 r2 sd se (by omega) ⟨.bl _, H, I, rfl, q⟩
theorem ok_eqP : OpOk c (rEqP X.K) eqW := fun G H dx dy x y P Q co rx ry ⟨h1, h2, h3, p⟩ k =>
  ⟨toP dx, toP dy, Rep.dp co _ _ rx h1, Rep.dp co _ _ ry h2, h1, h2, h3, k _ p _ G H (Step.refl co) rr_bl⟩
theorem ok_neP : OpOk c (rNeP X.K) neW := fun G H dx dy x y P Q co rx ry ⟨h1, h2, h3, p⟩ k =>
  ⟨toP dx, toP dy, Rep.dp co _ _ rx h1, Rep.dp co _ _ ry h2, h1, h2, h3, k _ p _ G H (Step.refl co) rr_bl⟩

/-- a < b of alike data; the others -/
def ordW (g : PyData → PyData → Bool) : OpW := fun a b P => pl a = true ∧ pl b = true ∧ PySem.W.alike (toP a) (toP b) = true ∧ toP a ≠ .none ∧ min (dp a) (dp b) ≤ 60 ∧ P (.val (.bl (g (toP a) (toP b))))
abbrev ltW : OpW := ordW fun a b => PySem.W.dataLt a b
abbrev gtW : OpW := ordW fun a b => PySem.W.dataLt b a
abbrev leW : OpW := ordW fun a b => !PySem.W.dataLt b a
abbrev geW : OpW := ordW fun a b => !PySem.W.dataLt a b
def rOrd (K : PySem.W.Frag) (g : PyData → PyData → Bool) : R2 := fun x y H Q => ∃ d e, Dp K H x d ∧ Dp K H y e ∧ d.plain = true ∧ e.plain = true ∧ PySem.W.alike d e = true ∧ d ≠ .none ∧ min d.depth e.depth ≤ 60 ∧ Q (.bl (g d e)) H
theorem op_ltP (hu : X.A.units + 64 < cLine) : OpR X (compareOp .Lt) (rOrd X.K fun a b => PySem.W.dataLt a b) := by
  intro pins s σ H x y v u Q I rx ry h
  obtain ⟨d, e, hd, he, sd, se, al, nn, z, q⟩ := h
  obtain ⟨as, r1⟩ := Dp.reads I d x v hd rx
  obtain ⟨bs, r2⟩ := Dp.reads I e y u he ry
  exact PySem.W.lt_data r1 r2 al nn (by omega) ⟨.bl _, H, I, rfl, q⟩
theorem op_gtP (hu : X.A.units + 64 < cLine) : OpR X (compareOp .Gt) (rOrd X.K fun a b => PySem.W.dataLt b a) := by
  intro pins s σ H x y v u Q I rx ry h
  obtain ⟨d, e, hd, he, sd, se, al, nn, z, q⟩ := h
  obtain ⟨as, r1⟩ := Dp.reads I d x v hd rx
  obtain ⟨bs, r2⟩ := Dp.reads I e y u he ry
  exact PySem.W.gt_data r1 r2 al nn (by omega) ⟨.bl _, H, I, rfl, q⟩
theorem op_leP (hu : X.A.units + 64 < cLine) : OpR X (compareOp .LtE) (rOrd X.K fun a b => !PySem.W.dataLt b a) := by
  intro pins s σ H x y v u Q I rx ry h
  obtain ⟨d, e, hd, he, sd, se, al, nn, z, q⟩ := h
  obtain ⟨as, r1⟩ := Dp.reads I d x v hd rx
  obtain ⟨bs, r2⟩ := Dp.reads I e y u he ry
  exact PySem.W.le_data r1 r2 al nn (by omega) ⟨.bl _, H, I, rfl, q⟩
theorem op_geP (hu : X.A.units + 64 < cLine) : OpR X (compareOp .GtE) (rOrd X.K fun a b => !PySem.W.dataLt a b) := by
  intro pins s σ H x y v u Q I rx ry h
  obtain ⟨d, e, hd, he, sd, se, al, nn, z, q⟩ := h
  obtain ⟨as, r1⟩ := Dp.reads I d x v hd rx
  obtain ⟨bs, r2⟩ := Dp.reads I e y u he ry
  exact PySem.W.ge_data r1 r2 al nn (by omega) ⟨.bl _, H, I, rfl, q⟩
theorem ok_ord {g : PyData → PyData → Bool} : OpOk c (rOrd X.K g) (ordW g) := fun G H dx dy x y P Q co rx ry ⟨h1, h2, h3, h4, h5, p⟩ k =>
  ⟨toP dx, toP dy, Rep.dp co _ _ rx h1, Rep.dp co _ _ ry h2, h1, h2, h3, h4, h5, k _ p _ G H (Step.refl co) rr_bl⟩
/-- numbers: the same words by themselves -/
def numOp (g : Int → Int → Bool) (o : OpW) : OpW := fun a b P => match a, b with
  | .int i, .int j => P (.val (.bl (g i j)))
  | a, b => o a b P
theorem ok_num {g : Int → Int → Bool} {r : R2} {o : OpW} (h : OpOk c r o) : OpOk c (fun x y H Q => rI0 (fun i j => .bl (g i j)) x y H Q ∨ r x y H Q) (numOp g o) := fun G H dx dy x y P Q co rx ry p k => by
  unfold numOp at p
  split at p
  · exact .inl ⟨_, _, rx.int_, ry.int_, k _ p _ G H (Step.refl co) rr_bl⟩
  · exact .inr (h G H dx dy x y P Q co rx ry p k)
abbrev wLt : OpW := numOp (fun i j => decide (i < j)) ltW
abbrev wLe : OpW := numOp (fun i j => decide (i ≤ j)) leW
abbrev wGt : OpW := numOp (fun i j => decide (j < i)) gtW
abbrev wGe : OpW := numOp (fun i j => decide (j ≤ i)) geW
theorem op_ltD (hu : X.A.units + 64 < cLine) : OpR X (compareOp .Lt) (fun x y H Q => rI0 (fun i j => .bl (decide (i < j))) x y H Q ∨ rOrd X.K (fun a b => PySem.W.dataLt a b) x y H Q) := op_lt.or (op_ltP hu)
theorem op_leD (hu : X.A.units + 64 < cLine) : OpR X (compareOp .LtE) (fun x y H Q => rI0 (fun i j => .bl (decide (i ≤ j))) x y H Q ∨ rOrd X.K (fun a b => !PySem.W.dataLt b a) x y H Q) := op_le.or (op_leP hu)
theorem op_gtD (hu : X.A.units + 64 < cLine) : OpR X (compareOp .Gt) (fun x y H Q => rI0 (fun i j => .bl (decide (j < i))) x y H Q ∨ rOrd X.K (fun a b => PySem.W.dataLt b a) x y H Q) := op_gt.or (op_gtP hu)
theorem op_geD (hu : X.A.units + 64 < cLine) : OpR X (compareOp .GtE) (fun x y H Q => rI0 (fun i j => .bl (decide (j ≤ i))) x y H Q ∨ rOrd X.K (fun a b => !PySem.W.dataLt a b) x y H Q) := op_ge.or (op_geP hu)

/-- x in xs, x not in xs: lists and tuples of plain data -/
def inW (neg : Bool) : OpW := fun a b P => match b with
  | .lst xs => pl a = true ∧ xs.all pl = true ∧ dp a ≤ 60 ∧ P (.val (.bl (xor neg (xs.any fun y => PyData.eqv (toP y) (toP a)))))
  | .tup xs => pl a = true ∧ xs.all pl = true ∧ dp a ≤ 60 ∧ P (.val (.bl (xor neg (xs.any fun y => PyData.eqv (toP y) (toP a)))))
  | _ => False
def rInP (K : PySem.W.Frag) (neg : Bool) : R2 := fun x y H Q => ∃ d ds, Dp K H x d ∧ (Dp K H y (.list ds) ∨ Dp K H y (.tuple ds)) ∧ d.plain = true ∧ PyData.plainAll ds = true ∧ d.depth ≤ 60 ∧ Q (.bl (xor neg (ds.any fun z => PyData.eqv z d))) H
theorem op_inP (hu : X.A.units + 64 < cLine) : OpR X (compareOp .In) (rInP X.K false) := by
  intro pins s σ H x y v u Q I rx ry h
  obtain ⟨d, ds, hd, he, sd, se, z, q⟩ := h
  obtain ⟨as, r1⟩ := Dp.reads I d x v hd rx
  have hm : min (PyData.depthAll ds) d.depth ≤ d.depth := Nat.min_le_right _ _
  simp only [Bool.false_xor] at q
  rcases he with he | he
  · obtain ⟨bs, r2⟩ := Dp.reads I _ y u he ry
    exact PySem.SeqAt.in_list_data r2 r1 se sd (by omega) ⟨.bl _, H, I, rfl, q⟩
  · obtain ⟨bs, r2⟩ := Dp.reads I _ y u he ry
    exact PySem.SeqAt.in_tuple_data r2 r1 se sd (by omega) ⟨.bl _, H, I, rfl, q⟩
theorem op_notInP (hu : X.A.units + 64 < cLine) : OpR X (compareOp .NotIn) (rInP X.K true) := by
  intro pins s σ H x y v u Q I rx ry h
  obtain ⟨d, ds, hd, he, sd, se, z, q⟩ := h
  obtain ⟨as, r1⟩ := Dp.reads I d x v hd rx
  have hm : min (PyData.depthAll ds) d.depth ≤ d.depth := Nat.min_le_right _ _
  simp only [Bool.true_xor] at q
  rcases he with he | he
  · obtain ⟨bs, r2⟩ := Dp.reads I _ y u he ry
    exact PySem.SeqAt.notIn_list_data r2 r1 se sd (by omega) ⟨.bl _, H, I, rfl, q⟩
  · obtain ⟨bs, r2⟩ := Dp.reads I _ y u he ry
    exact PySem.SeqAt.notIn_tuple_data r2 r1 se sd (by omega) ⟨.bl _, H, I, rfl, q⟩
theorem plainAll_all : ∀ xs : List D, xs.all pl = true → PyData.plainAll (toPs xs) = true
  | [], _ => by unfold toPs PyData.plainAll; rfl
  | x :: xs, h => by
    simp only [List.all_cons, Bool.and_eq_true] at h
    unfold toPs PyData.plainAll
    rw [show (toP x).plain = true from h.1, plainAll_all xs h.2]; rfl
theorem ok_inP {neg : Bool} : OpOk c (rInP X.K neg) (inW neg) := fun G H dx dy x y P Q co rx ry p k => by
  unfold inW at p
  split at p
  · obtain ⟨h1, h2, h3, p⟩ := p
    have h2' := plainAll_all _ h2
    refine ⟨toP dx, toPs _, Rep.dp co _ _ rx h1, .inl (by have := Rep.dp (K := X.K) co _ _ ry (by unfold pl toP PyData.plain; exact h2'); unfold toP at this; exact this), h1, h2', h3, ?_⟩
    rw [toPs_map, List.any_map]
    exact k _ p _ G H (Step.refl co) rr_bl
  · obtain ⟨h1, h2, h3, p⟩ := p
    have h2' := plainAll_all _ h2
    refine ⟨toP dx, toPs _, Rep.dp co _ _ rx h1, .inr (by have := Rep.dp (K := X.K) co _ _ ry (by unfold pl toP PyData.plain; exact h2'); unfold toP at this; exact this), h1, h2', h3, ?_⟩
    rw [toPs_map, List.any_map]
    exact k _ p _ G H (Step.refl co) rr_bl
  · exact p.elim

/-- a is None, a is not None; a is True .. -/
def isNonW (neg : Bool) : OpW := fun a b P => b = .non ∧ P (.val (.bl (xor neg (match a with | .non => true | _ => false))))
def isNonV : V → Bool
  | .non => true
  | _ => false
theorem Rep.isNon {G : Gh} : ∀ {d : D} {v : V}, Rep G d v → decide (v = .non) = (match d with | .non => true | _ => false)
  | .non, v, h => by rw [h.non_]; rfl
  | .bl b, v, h => by rw [h.bl_]; rfl
  | .int b, v, h => by rw [h.int_]; rfl
  | .str b, v, h => by rw [h.str_]; rfl
  | .tup b, v, h => by unfold Rep at h; obtain ⟨a, _, e, _⟩ := h; rw [e]; rfl
  | .lst b, v, h => by unfold Rep at h; obtain ⟨a, _, e, _⟩ := h; rw [e]; rfl
  | .dct false b, v, h => by unfold Rep at h; obtain ⟨a, _, e, _⟩ := h; rw [e]; rfl
  | .dct true b, v, h => by unfold Rep at h; obtain ⟨a, _, e, _⟩ := h; rw [e]; rfl
  | .obj t b, v, h => by unfold Rep at h; obtain ⟨a, e, _⟩ := h; rw [e]; rfl
  | .raw _ none _, v, h => by unfold Rep at h; rw [h]; rfl
  | .raw _ (some _) _, v, h => by unfold Rep at h; rw [h.1]; rfl
theorem ok_isN : OpOk c (fun x y H Q => y = .non ∧ Q (.bl (decide (x = .non))) H) (isNonW false) := fun G H dx dy x y P Q co rx ry ⟨e, p⟩ k => by
  subst e; refine ⟨ry.non_, ?_⟩; rw [rx.isNon]; simp only [Bool.false_xor] at p; exact k _ p _ G H (Step.refl co) rr_bl
theorem ok_notN : OpOk c (fun x y H Q => y = .non ∧ Q (.bl (!decide (x = .non))) H) (isNonW true) := fun G H dx dy x y P Q co rx ry ⟨e, p⟩ k => by
  subst e; refine ⟨ry.non_, ?_⟩; rw [rx.isNon]; simp only [Bool.true_xor] at p; exact k _ p _ G H (Step.refl co) rr_bl
def isBlW (neg : Bool) : OpW := fun a b P => ∃ i j, a = .bl i ∧ b = .bl j ∧ P (.val (.bl (xor neg (i == j))))
theorem ok_isBl : OpOk c rIsB (isBlW false) := fun G H dx dy x y P Q co rx ry ⟨i, j, ea, eb, p⟩ k => by
  subst ea; subst eb
  refine ⟨i, j, rx.bl_, ry.bl_, ?_⟩
  simp only [Bool.false_xor] at p
  exact k _ p _ G H (Step.refl co) (by cases i <;> cases j <;> exact rr_bl)
theorem ok_notBl : OpOk c rNotB (isBlW true) := fun G H dx dy x y P Q co rx ry ⟨i, j, ea, eb, p⟩ k => by
  subst ea; subst eb
  refine ⟨i, j, rx.bl_, ry.bl_, ?_⟩
  simp only [Bool.true_xor] at p
  exact k _ p _ G H (Step.refl co) (by cases i <;> cases j <;> exact rr_bl)
end
end PL
end
section
set_option Elab.async false
set_option linter.all false
set_option maxRecDepth 100000
set_option autoImplicit false
namespace PL
open PySem PySem.Spec L2
open PyProof.Rows hiding St

section
variable {X : Cx} {c : Pc} {e a b : Expr} {fa fb f : WE} {ta tb : WT} {pos : Pos}

/-! ### subscripts -/
def ixW : OpW := fun a b P => match a, b with
  | .lst xs, .int i => ∃ d, atI xs i = some d ∧ P (.val d)
  | .tup xs, .int i => ∃ d, atI xs i = some d ∧ P (.val d)
  | _, _ => False
theorem Reps.atI {G : Gh} {ds : List D} {vs : List V} {i : Int} {d : D} (r : Reps G ds vs) (h : L2.atI ds i = some d) : ∃ v, L2.atI vs i = some v ∧ Rep G d v := by
  unfold L2.atI at h ⊢
  rw [r.vlen]
  cases e : ixN ds.length i with
  | none => rw [e] at h; cases h
  | some j => rw [e] at h; exact r.get h
theorem ok_ix : OpOk c (fun x y H Q => rIxL X.K x y H Q ∨ rIxT X.K x y H Q) ixW := fun G H dx dy x y P Q co rx ry p k => by
  unfold ixW at p
  split at p
  · obtain ⟨d, h, p⟩ := p
    obtain ⟨a, vs, rfl, h1, r1, _⟩ := rx.sqL co
    obtain ⟨v, hv, rv⟩ := r1.atI h
    exact .inl ⟨a, vs, _, v, rfl, ry.int_, .inl (.inl h1), hv, k _ p _ G H (Step.refl co) rv⟩
  · obtain ⟨d, h, p⟩ := p
    obtain ⟨a, vs, rfl, h1, r1, _⟩ := rx.sqT (K := X.K) co
    obtain ⟨v, hv, rv⟩ := r1.atI h
    exact .inr ⟨a, vs, _, v, rfl, ry.int_, h1, hv, k _ p _ G H (Step.refl co) rv⟩
  · exact p.elim
theorem pd_ix (ha : PE X a (tWE c fa)) (hb : PE X b (tWE c fb)) (hs : PlainIx b := by intro _ _; rfl) : PE X (.Subscript a b pos) (tWE c (wBin ixW fa fb)) :=
  PE.imp (pe_ix (ix_list.or ix_tup) (pdD ha) (pdD hb) hs) fun _ _ _ h => tOp_of ok_ix h

/-! ### slices -/
def wPart : Option WE → Rho → (Option Int → Prop) → XP → Prop
  | none, _, P, _ => P none
  | some f, ρ, P, E => f ρ (fun r => ∃ i, r.toD = .int i ∧ P (some i)) E
def cutD {α : Type} (xs : List α) (lo hi : Option Int) : List α := (xs.drop (HT.sIx xs.length 0 lo)).take (HT.sIx xs.length xs.length hi - HT.sIx xs.length 0 lo)
def sliceW (a : D) (lo hi : Option Int) (P : R → Prop) : Prop := match a with
  | .lst xs => P (.own (cutD xs lo hi))
  | .tup xs => P (.val (.tup (cutD xs lo hi)))
  | _ => False
def wSlice (f : WE) (lo hi : Option WE) : WE := fun ρ P E => f ρ (fun r => wPart lo ρ (fun l => wPart hi ρ (fun h => sliceW r.toD l h P) E) E) E
def tWO (c : Pc) (f : Option WE) : TO := fun σ H Q => ∃ G ρ P E, Coh c.J G H ∧ SRep c.H0 G H σ ρ ∧ wPart f ρ P E ∧ (∀ o, P o → ∀ G' H', Step c.J G H G' H' → Q o H') ∧ XQ c E G H σ
theorem po_no : PO X none (tWO c none) := ⟨fun pins s σ H Q I ⟨G, ρ, P, E, co, sr, h, hp, hx⟩ => po_none.run pins s σ H Q I (hp none h G H (Step.refl co))⟩
theorem po_yes (ha : PE X e (tWE c f)) : PO X (some e) (tWO c (some f)) := ⟨fun pins s σ H Q I ⟨G, ρ, P, E, co, sr, h, hp, hx⟩ => (po_some (pdD ha)).run pins s σ H Q I
  (opnd co sr hx h fun r pr v G1 H1 st rd co1 sr1 hx1 => by
    obtain ⟨i, ei, pi⟩ := pr
    rw [ei] at rd
    exact ⟨i, rd.int_, hp _ pi G1 H1 st⟩)⟩
theorem Reps.cut {G : Gh} {ds : List D} {vs : List V} (r : Reps G ds vs) (lo hi : Option Int) : Reps G (cutD ds lo hi) (cutV vs lo hi) := by
  unfold cutD cutV
  rw [r.vlen]
  exact (r.drop _).take _
theorem cut_whole {α : Type} {xs : List α} {lo hi : Option Int} (h : HT.sIx xs.length 0 lo = 0 ∧ HT.sIx xs.length xs.length hi = xs.length) : cutD xs lo hi = xs := by
  unfold cutD; rw [h.1, h.2]; simp
theorem pd_slice {lo hi : Option Expr} {fl fh : Option WE} {p2 : Pos} (he : PE X e (tWE c f)) (hl : PO X lo (tWO c fl)) (hh : PO X hi (tWO c fh)) : PE X (.Subscript e (.Slice lo hi none p2) pos) (tWE c (wSlice f fl fh)) :=
  PE.imp (pe_slice (sl_list.or sl_tupA) (pdD he) hl hh) fun σ H Q ⟨G, ρ, P, E, co, sr, h, hp, hx⟩ => by
    refine opnd co sr hx h fun r pr x G1 H1 st1 rd co1 sr1 hx1 => ?_
    refine ⟨G1, ρ, _, E, co1, sr1, pr, fun l pl G2 H2 st2 => ?_, hx1⟩
    refine ⟨G2, ρ, _, E, st2.coh, sr1.step st2, pl, fun u pu G3 H3 st3 => ?_, hx1.step st2⟩
    have st := (st1.trans st2).trans st3
    have rd3 := Rep.mono (st2.trans st3).le _ _ rd
    have co3 := st3.coh
    unfold sliceW at pu
    split at pu
    · rename_i xs e1
      rw [e1] at rd3
      obtain ⟨a, vs, rfl, h1, r1, _⟩ := rd3.sqL co3
      exact .inl ⟨a, vs, rfl, .inl (.inl h1), fun p np => hp _ pu _ _ _ (st.trans (Step.newOwn c.jo co3 np)) (repR_own (st.dom c.jo np) (co3.fresh c.jo np) (r1.cut _ _))⟩
    · rename_i xs e1
      rw [e1] at rd3
      obtain ⟨a, vs, rfl, h1, r1, _⟩ := rd3.sqT (K := X.K) co3
      refine .inr ⟨a, vs, rfl, h1, fun hw => ?_, fun _ p np => hp _ pu _ _ _ (st.trans (newTup c.jo co3 np)) (rep_tup (co3.fresh c.jo np) (r1.cut _ _))⟩
      rw [r1.vlen] at hw
      rw [cut_whole hw] at pu
      exact hp _ pu _ _ _ st rd3
    · exact pu.elim
/-- xs[::-1], a list -/
def wRevL (f : WE) : WE := fun ρ P E => f ρ (fun r => ∃ xs, r.toD = .lst xs ∧ P (.own xs.reverse)) E
theorem pd_revL {k : Nat} {p1 p2 p3 : Pos} (he : PE X e (tWE c f)) : PE X (.Subscript e (.Slice none none (some (.UnaryOp .USub (.Constant (.int 1) k p1) p2)) p3) pos) (tWE c (wRevL f)) :=
  PE.imp (pe_revL (pdD he)) fun σ H Q ⟨G, ρ, P, E, co, sr, h, hp, hx⟩ => opnd co sr hx h fun r pr x G1 H1 st1 rd co1 sr1 hx1 => by
    obtain ⟨xs, e1, p⟩ := pr
    rw [e1] at rd
    obtain ⟨a, vs, rfl, h1, r1, _⟩ := rd.sqL co1
    exact ⟨a, vs, rfl, .inl (.inl h1), fun q nq => hp _ p _ _ _ (st1.trans (Step.newOwn c.jo co1 nq)) (repR_own (st1.dom c.jo nq) (co1.fresh c.jo nq) r1.reverse)⟩

/-! ### -a, not a, and, or, a if t else b -/
def wNeg (f : WE) : WE := fun ρ P E => f ρ (fun r => ∃ i, r.toD = .int i ∧ P (.val (.int (-i)))) E
theorem pd_neg (ha : PE X a (tWE c fa)) : PE X (.UnaryOp .USub a pos) (tWE c (wNeg fa)) := PE.imp (pe_un un_neg (pdD ha)) fun σ H Q ⟨G, ρ, P, E, co, sr, h, hp, hx⟩ =>
  opnd co sr hx h fun r pr x G1 H1 st1 rd co1 sr1 hx1 => by
    obtain ⟨i, e1, p⟩ := pr; rw [e1] at rd
    exact ⟨i, rd.int_, hp _ p _ _ _ st1 rr_int⟩
def wNot (f : WE) : WE := fun ρ P E => f ρ (fun r => ∃ i, r.toD = .bl i ∧ P (.val (.bl (!i)))) E
theorem pd_not (ha : PE X a (tWE c fa)) : PE X (.UnaryOp .Not a pos) (tWE c (wNot fa)) := PE.imp (pe_not (pdD ha)) fun σ H Q ⟨G, ρ, P, E, co, sr, h, hp, hx⟩ =>
  opnd co sr hx h fun r pr x G1 H1 st1 rd co1 sr1 hx1 => by
    obtain ⟨i, e1, p⟩ := pr; rw [e1] at rd
    exact ⟨i, rd.bl_, hp _ p _ _ _ st1 rr_bl⟩
/-- a result as wanted from a later state -/
theorem RepR.back {J : JT} {H H1 H2 : Hp} {G G1 G2 : Gh} {v : V} {r : R} (jo : JOk J) (st : Step J G H G1 H1) (h : RepR H1 G2 H2 v r) : RepR H G2 H2 v r := by
  cases r with
  | val d => exact h
  | own ds => obtain ⟨p, vs, e, f, n, q⟩ := h; exact ⟨p, vs, e, st.dom jo f, n, q⟩
  | ownd t ds => cases t <;> (obtain ⟨p, vs, e, f, n, q⟩ := h; exact ⟨p, vs, e, st.dom jo f, n, q⟩)
def wAnd (f g : WE) : WE := fun ρ P E => f ρ (fun r => ∃ b, r.toD = .bl b ∧ if b = true then g ρ P E else P (.val (.bl false))) E
def wOr (f g : WE) : WE := fun ρ P E => f ρ (fun r => ∃ b, r.toD = .bl b ∧ if b = true then P (.val (.bl true)) else g ρ P E) E
theorem pd_one {op : BoolOp} (h : PE X a (tWE c fa)) : PE X (.BoolOp op [a] pos) (tWE c fa) := pe_one h
/-- go on with an expression from a later state -/
theorem goOn {σ : L2.St} {H H1 : Hp} {G G1 : Gh} {ρ : Rho} {P : R → Prop} {E : XP} {Q : VK} (st : Step c.J G H G1 H1) (sr : SRep c.H0 G1 H1 σ ρ) (hx : XQ c E G1 H1 σ)
    (hp : ∀ r, P r → ∀ v G' H', Step c.J G H G' H' → RepR H G' H' v r → Q v H') (h : fa ρ P E) : tWE c fa σ H1 Q :=
  ⟨G1, ρ, P, E, st.coh, sr, h, fun r pr v G' H' s2 rr => hp r pr v G' H' (st.trans s2) (rr.back c.jo st), hx⟩
theorem pd_and {rest : List Expr} (ha : PE X a (tWE c fa)) (hb : PE X (.BoolOp .And (b :: rest) pos) (tWE c fb)) : PE X (.BoolOp .And (a :: b :: rest) pos) (tWE c (wAnd fa fb)) :=
  PE.imp (pe_and (pdD ha) hb) fun σ H Q ⟨G, ρ, P, E, co, sr, h, hp, hx⟩ => opnd co sr hx h fun r pr x G1 H1 st1 rd co1 sr1 hx1 => by
    obtain ⟨k, e1, p⟩ := pr; rw [e1] at rd
    refine ⟨k, rd.bl_, ?_⟩
    cases k with
    | true => simp only [if_true] at p ⊢; exact goOn st1 sr1 hx1 hp p
    | false => simp only [Bool.false_eq_true, if_false] at p ⊢; exact hp _ p _ _ _ st1 rr_bl
theorem pd_or {rest : List Expr} (ha : PE X a (tWE c fa)) (hb : PE X (.BoolOp .Or (b :: rest) pos) (tWE c fb)) : PE X (.BoolOp .Or (a :: b :: rest) pos) (tWE c (wOr fa fb)) :=
  PE.imp (pe_or (pdD ha) hb) fun σ H Q ⟨G, ρ, P, E, co, sr, h, hp, hx⟩ => opnd co sr hx h fun r pr x G1 H1 st1 rd co1 sr1 hx1 => by
    obtain ⟨k, e1, p⟩ := pr; rw [e1] at rd
    refine ⟨k, rd.bl_, ?_⟩
    cases k with
    | true => simp only [if_true] at p ⊢; exact hp _ p _ _ _ st1 rr_bl
    | false => simp only [Bool.false_eq_true, if_false] at p ⊢; exact goOn st1 sr1 hx1 hp p

/-! ### tests -/
def wTst (f : WE) : WT := fun ρ P E => f ρ (fun r => ∃ b, r.toD = .bl b ∧ P b) E
theorem pt_bool (h : PE X e (tWE c f)) (he : ∀ whole, isTrue e X.env whole = (do let v ← whole; standAt e.pos; holding [v] (truthy v)) := by intro _; rfl) : PT X e (tWT c (wTst f)) :=
  PT.imp (pt_val (pdD h) he) fun σ H Q ⟨G, ρ, P, E, co, sr, h, hp, hx⟩ => opnd co sr hx h fun r pr x G1 H1 st1 rd co1 sr1 hx1 => by
    obtain ⟨k, e1, p⟩ := pr; rw [e1] at rd
    exact ⟨k, rd.bl_, hp _ p _ _ st1⟩
theorem pt_cmpD {op : CmpOp} {r : R2} {g : OpW} (ho : OpR X (compareOp op) r) (hg : OpOk c r g) (ha : PE X a (tWE c fa)) (hb : PE X b (tWE c fb)) (hm : behindInMarks op b = false := by first | exact nomark _ | rfl) : PT X (.Compare a [op] [b] pos) (tWT c (wTst (wBin g fa fb))) :=
  PT.imp (pt_cmpR ho (pdD ha) (pdD hb) hm) fun σ H Q ⟨G, ρ, P, E, co, sr, h, hp, hx⟩ => by
    refine tOp_of hg ⟨G, ρ, fun r => ∃ b, r.toD = .bl b ∧ P b, E, co, sr, h, fun r pr v G' H' st rr => ?_, hx⟩
    obtain ⟨k, e1, p⟩ := pr
    obtain ⟨G2, st2, le, rd⟩ := rr.freeze c.jo st (fun _ h => h)
    rw [e1] at rd
    exact ⟨k, rd.bl_, hp _ p _ _ st2⟩
def wNotT (t : WT) : WT := fun ρ P E => t ρ (fun b => P (!b)) E
def wAndT (t u : WT) : WT := fun ρ P E => t ρ (fun b => if b = true then u ρ P E else P false) E
def wOrT (t u : WT) : WT := fun ρ P E => t ρ (fun b => if b = true then P true else u ρ P E) E
theorem tGo {σ : L2.St} {H H1 : Hp} {G G1 : Gh} {ρ : Rho} {P : Bool → Prop} {E : XP} {Q : Bool → Hp → Prop} (st : Step c.J G H G1 H1) (sr : SRep c.H0 G H σ ρ) (hx : XQ c E G H σ)
    (hp : ∀ b, P b → ∀ G' H', Step c.J G H G' H' → Q b H') (h : ta ρ P E) : tWT c ta σ H1 Q :=
  ⟨G1, ρ, P, E, st.coh, sr.step st, h, fun r pr G' H' s2 => hp r pr G' H' (st.trans s2), hx.step st⟩
theorem pt_notD (h : PT X a (tWT c ta)) : PT X (.UnaryOp .Not a pos) (tWT c (wNotT ta)) := PT.imp (pt_not h) fun σ H Q ⟨G, ρ, P, E, co, sr, h, hp, hx⟩ =>
  ⟨G, ρ, _, E, co, sr, h, fun b pb G' H' st => hp _ pb G' H' st, hx⟩
theorem pw_andD {rest : List Expr} (ha : PT X a (tWT c ta)) (hb : PW X (.BoolOp .And (b :: rest) pos) (tWT c tb)) : PW X (.BoolOp .And (a :: b :: rest) pos) (tWT c (wAndT ta tb)) :=
  PW.imp (pw_and ha hb) fun σ H Q ⟨G, ρ, P, E, co, sr, h, hp, hx⟩ => ⟨G, ρ, _, E, co, sr, h, fun k pk G' H' st => by
    cases k with
    | true => simp only [if_true] at pk ⊢; exact tGo st sr hx hp pk
    | false => simp only [Bool.false_eq_true, if_false] at pk ⊢; exact hp _ pk _ _ st, hx⟩
theorem pw_orD {rest : List Expr} (ha : PT X a (tWT c ta)) (hb : PW X (.BoolOp .Or (b :: rest) pos) (tWT c tb)) : PW X (.BoolOp .Or (a :: b :: rest) pos) (tWT c (wOrT ta tb)) :=
  PW.imp (pw_or ha hb) fun σ H Q ⟨G, ρ, P, E, co, sr, h, hp, hx⟩ => ⟨G, ρ, _, E, co, sr, h, fun k pk G' H' st => by
    cases k with
    | true => simp only [if_true] at pk ⊢; exact hp _ pk _ _ st
    | false => simp only [Bool.false_eq_true, if_false] at pk ⊢; exact tGo st sr hx hp pk, hx⟩
theorem pw_and1D (ha : PT X a (tWT c ta)) : PW X (.BoolOp .And [a] pos) (tWT c ta) := pw_and1 ha
theorem pw_or1D (ha : PT X a (tWT c ta)) : PW X (.BoolOp .Or [a] pos) (tWT c ta) := pw_or1 ha
def wIf (t : WT) (f g : WE) : WE := fun ρ P E => t ρ (fun b => if b = true then f ρ P E else g ρ P E) E
theorem pd_if (ht : PT X e (tWT c ta)) (ha : PE X a (tWE c fa)) (hb : PE X b (tWE c fb)) : PE X (.IfExp e a b pos) (tWE c (wIf ta fa fb)) :=
  PE.imp (pe_ifExp ht ha hb) fun σ H Q ⟨G, ρ, P, E, co, sr, h, hp, hx⟩ => ⟨G, ρ, _, E, co, sr, h, fun k pk G' H' st => by
    cases k with
    | true => simp only [if_true] at pk ⊢; exact goOn st (sr.step st) (hx.step st) hp pk
    | false => simp only [Bool.false_eq_true, if_false] at pk ⊢; exact goOn st (sr.step st) (hx.step st) hp pk, hx⟩

/-! ### calls of built-ins, by values -/
abbrev CallW := List D → (R → Prop) → Prop
def CallOk (c : Pc) (r : List V → Hp → VK → Prop) (g : CallW) : Prop := ∀ (G : Gh) (H : Hp) (ds : List D) (vs : List V) (P : R → Prop) (Q : VK), Coh c.J G H → Reps G ds vs → g ds P →
  (∀ r, P r → ∀ v G' H', Step c.J G H G' H' → RepR H G' H' v r → Q v H') → r vs H Q
theorem CallR.or {f : Value} {r r' : List V → Hp → VK → Prop} (h : CallR X f r) (h' : CallR X f r') : CallR X f (fun vs H Q => r vs H Q ∨ r' vs H Q) := fun pins s σ H xs us Q I rv q => by
  rcases q with q | q
  · exact h pins s σ H xs us Q I rv q
  · exact h' pins s σ H xs us Q I rv q
theorem CallOk.or {r r' : List V → Hp → VK → Prop} {g g' : CallW} (h : CallOk c r g) (h' : CallOk c r' g') : CallOk c (fun vs H Q => r vs H Q ∨ r' vs H Q) (fun ds P => g ds P ∨ g' ds P) := fun G H ds vs P Q co rv q k => by
  rcases q with q | q
  · exact .inl (h G H ds vs P Q co rv q k)
  · exact .inr (h' G H ds vs P Q co rv q k)
theorem CallOk.imp {r : List V → Hp → VK → Prop} {g g' : CallW} (h : CallOk c r g) (i : ∀ ds P, g' ds P → g ds P) : CallOk c r g' := fun G H ds vs P Q co rv q k => h G H ds vs P Q co rv (i _ _ q) k
def wCallB (g : CallW) (fs : List WE) : WE := fun ρ P E => wArgs fs ρ [] (fun ds => g ds P) E
theorem tCB_of {r : List V → Hp → VK → Prop} {g : CallW} {fs : List WE} (hg : CallOk c r g) {σ : L2.St} {H : Hp} {Q : VK} (h : tWE c (wCallB g fs) σ H Q) : tCB r (tWA c fs) σ H Q := by
  obtain ⟨G, ρ, P, E, co, sr, h, hp, hx⟩ := h
  refine args co sr hx h fun ds pd _ vs G1 H1 st rs co1 sr1 hx1 => ?_
  exact hg G1 H1 ds vs P Q co1 rs pd fun r pr v G' H' s2 rr => hp r pr v G' H' (st.trans s2) (rr.back c.jo st)
theorem pd_callB {id : String} {r : List V → Hp → VK → Prop} {g : CallW} {x : Str} {p : Pos} {es : List Expr} {fs : List WE} (hc : CallR X (.builtin id) r) (hgk : CallOk c r g) (hg : Gl X x) (hm : X.mg x = none) (hv : bootBuiltins x = some (.builtin id)) (ha : PA X (e :: es) (tWA c fs))
    (hn : x ≠ "__name__" := by decide) (hdb : (x == ("__debug__" : Str)) = false := by decide)
    (he : starEach (e :: es) X.env = (false, eval e X.env) :: starEach es X.env := by rfl) (hpl : (backTo pos (starEach es X.env)).any (·.1) = false := by rfl) : PE X (.Call (.Name x p) (e :: es) [] pos) (tWE c (wCallB g fs)) :=
  PE.imp (pe_callB hc hg hm hv ha hn hdb he hpl) fun _ _ _ h => tCB_of hgk h
theorem pd_callTy {T : String} {r : List V → Hp → VK → Prop} {g : CallW} {x : Str} {p : Pos} {es : List Expr} {fs : List WE} (hc : CallR X (.type T) r) (hgk : CallOk c r g) (hg : Gl X x) (hm : X.mg x = none) (hv : bootBuiltins x = some (.type T)) (ha : PA X (e :: es) (tWA c fs))
    (hn : x ≠ "__name__" := by decide) (hdb : (x == ("__debug__" : Str)) = false := by decide)
    (he : starEach (e :: es) X.env = (false, eval e X.env) :: starEach es X.env := by rfl) (hpl : (backTo pos (starEach es X.env)).any (·.1) = false := by rfl) : PE X (.Call (.Name x p) (e :: es) [] pos) (tWE c (wCallB g fs)) :=
  PE.imp (pe_callTy hc hg hm hv ha hn hdb he hpl) fun _ _ _ h => tCB_of hgk h

/-! ### targets -/
abbrev WG := D → Rho → (Rho → Prop) → Prop
def tWG (c : Pc) (sl : List Nat) (g : WG) : TG := fun v σ H Q => ∃ G ρ d P, Coh c.J G H ∧ SRep c.H0 G H σ ρ ∧ Rep G d v ∧ g d ρ P ∧ (∀ ρ', P ρ' → ∀ σ', SRep c.H0 G H σ' ρ' → (∀ vs : List Nat, (∀ i ∈ sl, i ∈ vs) → wipe σ' vs = wipe σ vs) → Q σ' H)
def wgName (i : Nat) : WG := fun d ρ P => P (ρ.set i (some (.val d)))
theorem set_set_none {α : Type} (l : List (Option α)) (i : Nat) (x : Option α) (v : Nat) : ((l.set i x).set v none) = if i = v then l.set v none else (l.set v none).set i x := by
  by_cases h : i = v
  · subst h; rw [if_pos rfl, List.set_set]
  · rw [if_neg h, List.set_comm _ _ h]
theorem wipe_set {σ : L2.St} {i : Nat} {x : Option V} : ∀ {vs : List Nat}, i ∈ vs → wipe (σ.set i x) vs = wipe σ vs
  | [], h => by cases h
  | v :: vs, h => by
    unfold wipe
    by_cases hi : i ∈ vs
    · rw [wipe_set hi]
    · have e : i = v := by cases h with | head => rfl | tail _ h => exact absurd h hi
      subst e
      have key : ∀ (τ : L2.St) (ws : List Nat), i ∉ ws → wipe (τ.set i x) ws = (wipe τ ws).set i x := by
        intro τ ws
        induction ws with
        | nil => intro _; rfl
        | cons w ws ih =>
          intro hn
          unfold wipe
          rw [ih (fun q => hn (List.mem_cons_of_mem _ q)), List.set_comm]
          intro q; exact hn (q ▸ List.mem_cons_self)
      rw [key σ vs hi, List.set_set]
theorem pg_nameD {i : Nat} {x : Str} {pos : Pos} (hN : X.N.Nodup) (hi : X.N[i]? = some x := by rfl) (hx : Loc X.env.scope x := by first | exact Or.inl rfl | exact Or.inr rfl) (hf : X.fn x = true ∨ X.env.scope.names.lookup x = some .local := by first | exact .inl rfl | exact .inr rfl | assumption) :
    PG X (.Name x pos) (tWG c [i] (wgName i)) := ⟨fun pins s σ H v u Q I r ⟨G, ρ, d, P, co, sr, rd, p, k⟩ => (pg_name hN hi hx hf).run pins s σ H v u Q I r
      (k _ p _ (sr.setVal i rd) fun vs h => wipe_set (h i (List.mem_cons_self)))⟩
/-- a, b, .. = a tuple: names -/
def setAll : List Nat → List D → Rho → Rho
  | i :: is, d :: ds, ρ => setAll is ds (ρ.set i (some (.val d)))
  | _, _, ρ => ρ
def wgTup (is : List Nat) : WG := fun d ρ P => ∃ ds, d = .tup ds ∧ ds.length = is.length ∧ P (setAll is ds ρ)
def tWGs (c : Pc) (sl : List Nat) : TGs := fun vs σ H Q => ∃ (G : Gh) (ρ : Rho) (ds : List D) (P : Rho → Prop), Coh c.J G H ∧ SRep c.H0 G H σ ρ ∧ Reps G ds vs ∧ ds.length = sl.length ∧ P (setAll sl ds ρ) ∧ (∀ ρ', P ρ' → ∀ σ', SRep c.H0 G H σ' ρ' → (∀ vs : List Nat, (∀ i ∈ sl, i ∈ vs) → wipe σ' vs = wipe σ vs) → Q σ' H)
theorem PGs.imp {ts : List Expr} {t t' : TGs} (h : PGs X ts t) (i : ∀ vs σ H Q, t' vs σ H Q → t vs σ H Q) : PGs X ts t' := ⟨fun pins s σ H vs us Q I r q => h.run pins s σ H vs us Q I r (i vs σ H Q q)⟩
theorem PG.imp {tg : Expr} {t t' : TG} (h : PG X tg t) (i : ∀ v σ H Q, t' v σ H Q → t v σ H Q) : PG X tg t' := ⟨fun pins s σ H v u Q I r q => h.run pins s σ H v u Q I r (i v σ H Q q)⟩
theorem pgs_nilD : PGs X [] (tWGs c []) := PGs.imp pgs_nil fun vs σ H Q ⟨G, ρ, ds, P, co, sr, rs, hl, p, k⟩ => by
  have e := List.eq_nil_of_length_eq_zero hl
  subst e
  unfold Reps at rs
  exact ⟨rs, k _ p σ sr fun _ _ => rfl⟩
theorem pgs_consD {i : Nat} {x : Str} {p1 : Pos} {es : List Expr} {sl : List Nat} (hN : X.N.Nodup) (h2 : PGs X es (tWGs c sl)) (hi : X.N[i]? = some x := by rfl) (hx : Loc X.env.scope x := by first | exact Or.inl rfl | exact Or.inr rfl) (hf : X.fn x = true ∨ X.env.scope.names.lookup x = some .local := by first | exact .inl rfl | exact .inr rfl | assumption)
    (hs : (assignEach (.Name x p1 :: es) X.env).map (·.2) = assign (.Name x p1) X.env :: (assignEach es X.env).map (·.2) := by rfl) : PGs X (.Name x p1 :: es) (tWGs c (i :: sl)) :=
  PGs.imp (pgs_cons (pg_name hN hi hx hf) h2 hs) fun vs σ H Q ⟨G, ρ, ds, P, co, sr, rs, hl, p, k⟩ => by
    cases ds with
    | nil => cases hl
    | cons d ds =>
      obtain ⟨v, r, rfl, h1, hr⟩ := rs.uncons
      refine ⟨v, r, rfl, ?_⟩
      refine ⟨G, ρ.set i (some (.val d)), ds, P, co, sr.setVal i h1, hr, by simpa using hl, p, fun ρ' p' σ' sr' hw => k ρ' p' σ' sr' fun vs hvs => ?_⟩
      rw [hw vs fun j hj => hvs j (List.mem_cons_of_mem _ hj)]
      exact wipe_set (hvs i List.mem_cons_self)
theorem pg_tupD {es : List Expr} {sl : List Nat} {k : Nat} {pos : Pos} (hc : X.calm = true) (h : PGs X es (tWGs c sl)) (hn : (assignEach es X.env).length = sl.length := by rfl) (hst : (assignEach es X.env).findIdx? (·.1) = none := by rfl) : PG X (.Tuple es k pos) (tWG c sl (wgTup sl)) :=
  PG.imp (pg_tup hc h hn hst) fun v σ H Q ⟨G, ρ, d, P, co, sr, rd, p, k⟩ => by
    obtain ⟨ds, rfl, hl, p⟩ := p
    obtain ⟨a, vs, rfl, h1, r1, _⟩ := rd.sqT (K := X.K) co
    exact ⟨a, vs, rfl, h1, by rw [r1.vlen]; exact hl, G, ρ, ds, P, co, sr, r1, hl, p, k⟩

/-! ### what is walked -/
structure Yields (c : Pc) (J : It) (G : Gh) (ds : List D) : Prop where
  stop : ∀ (i : Nat) (G' : Gh) (H' : Hp), GLe G G' → Coh c.J G' H' → ds.length ≤ i → J.stop i H'
  go : ∀ (i : Nat) (G' : Gh) (H' : Hp), GLe G G' → Coh c.J G' H' → i < ds.length → J.go i H'
  yld : ∀ (i : Nat) (d : D) (G' : Gh) (H' : Hp) (x : V) (H2 : Hp), GLe G G' → Coh c.J G' H' → ds[i]? = some d → J.yld i H' x H2 → ∃ G2, Step c.J G' H' G2 H2 ∧ Rep G2 d x
abbrev WI := Rho → (List D → Prop) → XP → Prop
def tWI (c : Pc) (f : WI) : TI := fun σ H R => ∃ G ρ P E, Coh c.J G H ∧ SRep c.H0 G H σ ρ ∧ f ρ P E ∧ (∀ ds, P ds → ds.length ≤ sizeLine → ∀ J G' H', Step c.J G H G' H' → Yields c J G' ds → R J H') ∧ XQ c E G H σ
def Bd (H : Hp) : Prop := ∀ a vs, (H a = some (.lst vs) ∨ H a = some (.tup vs)) → vs.length ≤ sizeLine
theorem PI.bd {tg l : Expr} {t : TI} (h : PI X tg l t) : PI X tg l (fun σ H R => t σ H fun J H' => Bd H' → R J H') := ⟨fun pins s σ H R I q => by
  refine thn (h.run pins s σ H _ I q) fun v s1 q1 => thn q1 fun itv s2 ⟨it, fp, tn, J, H', e, I', T, st, fr, r⟩ => ⟨it, fp, tn, J, H', e, I', T, st, fr, r fun a vs h => ?_⟩
  rcases h with h | h
  · exact (I'.hok a _ h).1
  · exact (I'.hok a _ h).1⟩
theorem PI.imp {tg l : Expr} {t t' : TI} (h : PI X tg l t) (i : ∀ σ H R, t' σ H R → t σ H R) : PI X tg l t' := ⟨fun pins s σ H R I q => h.run pins s σ H R I (i σ H R q)⟩
theorem PI.or {tg l : Expr} {t t' : TI} (h : PI X tg l t) (h' : PI X tg l t') : PI X tg l (fun σ H R => t σ H R ∨ t' σ H R) := ⟨fun pins s σ H R I q => q.elim (h.run pins s σ H R I) (h'.run pins s σ H R I)⟩
end
end PL
end
section
set_option Elab.async false
set_option linter.all false
set_option maxRecDepth 100000
set_option autoImplicit false
namespace PL
open PySem PySem.Spec L2
open PyProof.Rows hiding St

section
variable {X : Cx} {c : Pc} {e e2 a b tg : Expr} {fa fb f : WE} {pos : Pos}

/-! ### a list or a tuple -/
def iSeqV (K : PySem.W.Frag) (te : TE) : TI := fun σ H R => te σ H fun x H1 => ∃ a, x = .ref a ∧ (((∃ xs, SqL K H1 a xs) ∧ R (Itl K a) H1) ∨ ((∃ xs, SqT K H1 a xs) ∧ R (Itt K a) H1))
theorem pi_seqV {te : TE} (he : PE X e te) : PI X tg e (iSeqV X.K te) := by
  constructor
  intro pins s σ H R inv hh
  refine thn (he.run pins s σ H _ inv hh) ?_
  rintro v s1 ⟨x, H1, I1, rx, a, rfl, hq⟩
  cases rx
  have fresh : ∀ bb ∈ [s1.heap.objs.size], FpOk X pins H1 bb := by
    intro bb hb
    obtain rfl : bb = s1.heap.objs.size := by simpa using hb
    exact I1.fpOk (Nat.le_refl _) (I1.hok.fresh (Nat.le_refl _))
  rcases hq with ⟨⟨xs, hs⟩, r⟩ | ⟨⟨xs, hs⟩, r⟩
  · obtain ⟨its, rv, p, hz⟩ := I1.list hs
    exact wpAny_pyIter_list p.isList ⟨s1.heap.objs.size, [s1.heap.objs.size], _, _, H1, rfl, I1.kept (t' := s1.toks) (fun bb o q => Heap.get?_push_of_some _ q), turn_list a _, ⟨_, Heap.get?_push_size _ rfl, rfl, rfl⟩, fresh, r⟩
  · obtain ⟨its, rv, p, hz⟩ := I1.tuple hs
    exact wpAny_pyIter_tuple (show s1.heap.IsTuple a its.toArray from p) ⟨s1.heap.objs.size, [s1.heap.objs.size], _, _, H1, rfl, I1.kept (t' := s1.toks) (fun bb o q => Heap.get?_push_of_some _ q), turn_tuple a _, ⟨_, Heap.get?_push_size _ rfl, rfl, rfl⟩, fresh, r⟩


/-- what stands tracked is not written: the only reading of a tracked list -/
theorem yields_list {K : PySem.W.Frag} {G : Gh} {a : Addr} {vs : List V} {ds : List D} (g : G a = some (.lst vs)) (r : Reps G ds vs) : Yields c (Itl K a) G ds where
  stop := fun i G' H' le co h => ⟨vs, .inl (.inl (co a _ (le a _ g))), by rw [r.vlen]; exact h⟩
  go := fun i G' H' le co h => ⟨vs, vs[i]'(by rw [r.vlen]; exact h), .inl (.inl (co a _ (le a _ g))), List.getElem?_eq_getElem _⟩
  yld := fun i d G' H' x H2 le co hd hy => by
    obtain ⟨rfl, hy⟩ := hy
    obtain ⟨v, hv, rv⟩ := r.get hd
    have e := (hy vs (.inl (.inl (co a _ (le a _ g))))).symm.trans hv
    cases e
    exact ⟨G', Step.refl co, Rep.mono le _ _ rv⟩
theorem yields_tup {K : PySem.W.Frag} {G : Gh} {a : Addr} {vs : List V} {ds : List D} (g : G a = some (.tup vs)) (r : Reps G ds vs) : Yields c (Itt K a) G ds where
  stop := fun i G' H' le co h => ⟨vs, .inl (.inl (co a _ (le a _ g))), by rw [r.vlen]; exact h⟩
  go := fun i G' H' le co h => ⟨vs, vs[i]'(by rw [r.vlen]; exact h), .inl (.inl (co a _ (le a _ g))), List.getElem?_eq_getElem _⟩
  yld := fun i d G' H' x H2 le co hd hy => by
    obtain ⟨rfl, hy⟩ := hy
    obtain ⟨v, hv, rv⟩ := r.get hd
    have e := (hy vs (.inl (.inl (co a _ (le a _ g))))).symm.trans hv
    cases e
    exact ⟨G', Step.refl co, Rep.mono le _ _ rv⟩
def wSeq (f : WE) : WI := fun ρ P E => f ρ (fun r => match r.toD with
  | .lst xs => P xs
  | .tup xs => P xs
  | _ => False) E
theorem pi_seq (he : PE X e (tWE c f)) : PI X tg e (tWI c (wSeq f)) := PI.imp (PI.bd (pi_seqV (pdD he))) fun σ H R ⟨G, ρ, P, E, co, sr, h, hp, hx⟩ =>
  opnd co sr hx h fun r pr x G1 H1 st1 rd co1 sr1 hx1 => by
    split at pr
    · rename_i xs e1
      rw [e1] at rd
      obtain ⟨a, vs, rfl, h1, r1, g1⟩ := rd.sqL co1
      exact ⟨a, rfl, .inl ⟨⟨vs, .inl (.inl h1)⟩, fun bd => hp _ pr (by rw [← r1.vlen]; exact bd a vs (.inl h1)) _ _ _ st1 (yields_list g1 r1)⟩⟩
    · rename_i xs e1
      rw [e1] at rd
      obtain ⟨a, vs, rfl, h1, r1, g1⟩ := rd.sqT (K := X.K) co1
      exact ⟨a, rfl, .inr ⟨⟨vs, h1⟩, fun bd => hp _ pr (by rw [← r1.vlen]; exact bd a vs (.inr (co1 a _ g1))) _ _ _ st1 (yields_tup g1 r1)⟩⟩
    · exact pr.elim

/-! ### range -/
def rangeD (lo : Int) (n : Nat) : List D := (List.range n).map fun (k : Nat) => D.int (lo + (k : Int))
theorem yields_range {G : Gh} (lo : Int) (n : Nat) : Yields c (Itr lo n) G (rangeD lo n) where
  stop := fun i G' H' le co h => show n ≤ i by simpa [rangeD] using h
  go := fun i G' H' le co h => show i < n by simpa [rangeD] using h
  yld := fun i d G' H' x H2 le co hd hy => by
    obtain ⟨rfl, rfl⟩ := hy
    have hl : i < n := by
      have := (List.getElem?_eq_some_iff.mp hd).1
      simpa [rangeD] using this
    unfold rangeD at hd
    rw [List.getElem?_map, List.getElem?_range hl] at hd
    cases hd
    exact ⟨G', Step.refl co, rep_int _⟩
def wRange1 (f : WE) : WI := fun ρ P E => wArgs [f] ρ [] (fun ds => ∃ j : Int, ds = [.int j] ∧ -16777216 ≤ j ∧ j ≤ 16777216 ∧ P (rangeD 0 j.toNat)) E
def wRange2 (f g : WE) : WI := fun ρ P E => wArgs [f, g] ρ [] (fun ds => ∃ i j : Int, ds = [.int i, .int j] ∧ -16777216 ≤ i ∧ i ≤ 16777216 ∧ -16777216 ≤ j ∧ j ≤ 16777216 ∧ j - i ≤ 16777216 ∧ P (rangeD i (j - i).toNat)) E
theorem Reps.one {G : Gh} {d : D} {vs : List V} (h : Reps G [d] vs) : ∃ v, vs = [v] ∧ Rep G d v := by
  obtain ⟨v, r, rfl, h1, h2⟩ := h.uncons; unfold Reps at h2; subst h2; exact ⟨v, rfl, h1⟩
theorem Reps.two {G : Gh} {d d' : D} {vs : List V} (h : Reps G [d, d'] vs) : ∃ v v', vs = [v, v'] ∧ Rep G d v ∧ Rep G d' v' := by
  obtain ⟨v, r, rfl, h1, h2⟩ := h.uncons; obtain ⟨v', rfl, h3⟩ := h2.one; exact ⟨v, v', rfl, h1, h3⟩
theorem line_eq : sizeLine = 16777216 := sizeLine_eq
theorem pi_rng1 {p : Pos} (hg : Gl X "range") (hm : X.mg "range" = none) (ha : PA X [e] (tWA c [f])) (hs : starEach [e] X.env = [(false, eval e X.env)] := by rfl) : PI X tg (.Call (.Name "range" p) [e] [] pos) (tWI c (wRange1 f)) :=
  PI.imp (pi_range1 hg hm ha hs) fun σ H R ⟨G, ρ, P, E, co, sr, h, hp, hx⟩ => args co sr hx h fun ds pd _ vs G1 H1 st rs co1 sr1 hx1 => by
    obtain ⟨j, rfl, h0, hj, p⟩ := pd
    obtain ⟨v, rfl, rv⟩ := rs.one
    rw [rv.int_]
    exact ⟨j, rfl, Int.le_trans (by decide) h0, Int.lt_of_le_of_lt hj (by decide), hp _ p (by simp [rangeD, line_eq]; omega) _ _ _ st (yields_range 0 j.toNat)⟩
theorem pi_rng2 {p : Pos} (hg : Gl X "range") (hm : X.mg "range" = none) (ha : PA X [e, e2] (tWA c [fa, fb])) (hs : starEach [e, e2] X.env = [(false, eval e X.env), (false, eval e2 X.env)] := by rfl) (hs2 : starEach [e2] X.env = [(false, eval e2 X.env)] := by rfl) :
    PI X tg (.Call (.Name "range" p) [e, e2] [] pos) (tWI c (wRange2 fa fb)) :=
  PI.imp (pi_range2 hg hm ha hs hs2) fun σ H R ⟨G, ρ, P, E, co, sr, h, hp, hx⟩ => args co sr hx h fun ds pd _ vs G1 H1 st rs co1 sr1 hx1 => by
    obtain ⟨i, j, rfl, h0, h1, h2, h3, h4, p⟩ := pd
    obtain ⟨v, v', rfl, rv, rv'⟩ := rs.two
    rw [rv.int_, rv'.int_]
    exact ⟨i, j, rfl, ⟨Int.le_trans (by decide) h0, Int.lt_of_le_of_lt h1 (by decide), Int.le_trans (by decide) h2, Int.lt_of_le_of_lt h3 (by decide)⟩, hp _ p (by simp [rangeD, line_eq]; omega) _ _ _ st (yields_range i (j - i).toNat)⟩

/-! ### zip, enumerate -/
def zipD (xs ys : List D) : List D := (xs.zip ys).map fun p => .tup [p.1, p.2]
theorem zipD_get {xs ys : List D} {i : Nat} {d : D} (h : (zipD xs ys)[i]? = some d) : ∃ x y, xs[i]? = some x ∧ ys[i]? = some y ∧ d = .tup [x, y] := by
  unfold zipD at h
  rw [List.getElem?_map] at h
  cases q : (xs.zip ys)[i]? with
  | none => rw [q] at h; cases h
  | some p =>
    rw [q] at h; cases h
    obtain ⟨h1, h2⟩ := List.getElem?_zip_eq_some.mp q
    exact ⟨p.1, p.2, h1, h2, rfl⟩
theorem zipD_len (xs ys : List D) : (zipD xs ys).length = min xs.length ys.length := by simp [zipD]
theorem yields_pair {J : It} {G : Gh} {ds : List D} (st : ∀ (i : Nat) (G' : Gh) (H' : Hp), GLe G G' → Coh c.J G' H' → ds.length ≤ i → J.stop i H') (go : ∀ (i : Nat) (G' : Gh) (H' : Hp), GLe G G' → Coh c.J G' H' → i < ds.length → J.go i H')
    (yl : ∀ (i : Nat) (d : D) (G' : Gh) (H' : Hp) (x : V) (H2 : Hp), GLe G G' → Coh c.J G' H' → ds[i]? = some d → J.yld i H' x H2 → ∃ T vs xs, x = .ref T ∧ H' T = none ∧ H2 = upd H' T (.tup vs) ∧ d = .tup xs ∧ Reps G' xs vs) : Yields c J G ds :=
  ⟨st, go, fun i d G' H' x H2 le co hd hy => by
    obtain ⟨T, vs, xs, rfl, nT, rfl, rfl, r⟩ := yl i d G' H' x H2 le co hd hy
    exact ⟨_, newTup c.jo co nT, rep_tup (co.fresh c.jo nT) r⟩⟩
theorem yields_zipL {K : PySem.W.Frag} {G : Gh} {a b : Addr} {vs ws : List V} {ds es : List D} (g : G a = some (.lst vs)) (r : Reps G ds vs) (g' : G b = some (.lst ws)) (r' : Reps G es ws) : Yields c (Itz K a b) G (zipD ds es) := by
  refine yields_pair (fun i G' H' le co h => ?_) (fun i G' H' le co h => ?_) (fun i d G' H' x H2 le co hd hy => ?_)
  · rw [zipD_len] at h
    exact ⟨vs, ws, .inl (.inl (co a _ (le a _ g))), .inl (.inl (co b _ (le b _ g'))), by rw [r.vlen, r'.vlen]; omega⟩
  · rw [zipD_len] at h
    exact ⟨vs, ws, vs[i]'(by rw [r.vlen]; omega), ws[i]'(by rw [r'.vlen]; omega), .inl (.inl (co a _ (le a _ g))), .inl (.inl (co b _ (le b _ g'))), List.getElem?_eq_getElem _, List.getElem?_eq_getElem _⟩
  · obtain ⟨dx, dy, h1, h2, rfl⟩ := zipD_get hd
    obtain ⟨T, x, y, rfl, nT, rfl, k1, k2⟩ := hy
    obtain ⟨v, hv, rv⟩ := r.get h1
    obtain ⟨u, hu, ru⟩ := r'.get h2
    have e1 := (k1 vs (.inl (.inl (co a _ (le a _ g))))).symm.trans hv
    have e2 := (k2 ws (.inl (.inl (co b _ (le b _ g'))))).symm.trans hu
    cases e1; cases e2
    exact ⟨T, _, _, rfl, nT, rfl, rfl, .cons (Rep.mono le _ _ rv) (.cons (Rep.mono le _ _ ru) .nil)⟩
theorem yields_zipT {K : PySem.W.Frag} {G : Gh} {a b : Addr} {vs ws : List V} {ds es : List D} (g : G a = some (.tup vs)) (r : Reps G ds vs) (g' : G b = some (.tup ws)) (r' : Reps G es ws) : Yields c (RZ.ItzT K a b) G (zipD ds es) := by
  refine yields_pair (fun i G' H' le co h => ?_) (fun i G' H' le co h => ?_) (fun i d G' H' x H2 le co hd hy => ?_)
  · rw [zipD_len] at h
    exact ⟨vs, ws, .inl (.inl (co a _ (le a _ g))), .inl (.inl (co b _ (le b _ g'))), by rw [r.vlen, r'.vlen]; omega⟩
  · rw [zipD_len] at h
    exact ⟨vs, ws, vs[i]'(by rw [r.vlen]; omega), ws[i]'(by rw [r'.vlen]; omega), .inl (.inl (co a _ (le a _ g))), .inl (.inl (co b _ (le b _ g'))), List.getElem?_eq_getElem _, List.getElem?_eq_getElem _⟩
  · obtain ⟨dx, dy, h1, h2, rfl⟩ := zipD_get hd
    obtain ⟨T, x, y, rfl, nT, rfl, k1, k2⟩ := hy
    obtain ⟨v, hv, rv⟩ := r.get h1
    obtain ⟨u, hu, ru⟩ := r'.get h2
    have e1 := (k1 vs (.inl (.inl (co a _ (le a _ g))))).symm.trans hv
    have e2 := (k2 ws (.inl (.inl (co b _ (le b _ g'))))).symm.trans hu
    cases e1; cases e2
    exact ⟨T, _, _, rfl, nT, rfl, rfl, .cons (Rep.mono le _ _ rv) (.cons (Rep.mono le _ _ ru) .nil)⟩
def zipP (ds : List D) (P : List D → Prop) : Prop := match ds with
  | [.lst xs, .lst ys] => P (zipD xs ys)
  | [.tup xs, .tup ys] => P (zipD xs ys)
  | _ => False
def wZip (f g : WE) : WI := fun ρ P E => wArgs [f, g] ρ [] (fun ds => zipP ds P) E
theorem pi_zipD {p tpos : Pos} {elts : List Expr} {kk : Nat} (hg : Gl X "zip") (hm : X.mg "zip" = none) (ha : PA X [e, e2] (tWA c [fa, fb]))
    (hs : starEach [e, e2] X.env = (false, eval e X.env) :: starEach [e2] X.env := by rfl) (hpl : (backTo pos (starEach [e2] X.env)).any (·.1) = false := by rfl) : PI X (.Tuple elts kk tpos) (.Call (.Name "zip" p) [e, e2] [] pos) (tWI c (wZip fa fb)) :=
  PI.imp (PI.bd (RZ.pi_zipA hg hm ha hs hpl)) fun σ H R ⟨G, ρ, P, E, co, sr, h, hp, hx⟩ => args co sr hx h fun ds pd _ vs G1 H1 st rs co1 sr1 hx1 => by
    unfold zipP at pd
    split at pd
    · rename_i xs ys
      obtain ⟨v, v', rfl, rv, rv'⟩ := rs.two
      obtain ⟨a, us, rfl, h1, r1, g1⟩ := rv.sqL co1
      obtain ⟨b, ws, rfl, h2, r2, g2⟩ := rv'.sqL co1
      refine ⟨a, b, us, ws, rfl, .inl ⟨.inl (.inl h1), .inl (.inl h2), fun bd => hp _ pd ?_ _ _ _ st (yields_zipL g1 r1 g2 r2)⟩⟩
      have := bd a us (.inl h1)
      rw [zipD_len, ← r1.vlen]; omega
    · rename_i xs ys
      obtain ⟨v, v', rfl, rv, rv'⟩ := rs.two
      obtain ⟨a, us, rfl, h1, r1, g1⟩ := rv.sqT (K := X.K) co1
      obtain ⟨b, ws, rfl, h2, r2, g2⟩ := rv'.sqT (K := X.K) co1
      refine ⟨a, b, us, ws, rfl, .inr ⟨h1, h2, fun bd => hp _ pd ?_ _ _ _ st (yields_zipT g1 r1 g2 r2)⟩⟩
      have := bd a us (.inr (co1 a _ g1))
      rw [zipD_len, ← r1.vlen]; omega
    · exact pd.elim
def enumD (xs : List D) : List D := zipD (rangeD 0 xs.length) xs
theorem enumD_get {xs : List D} {i : Nat} {d : D} (h : (enumD xs)[i]? = some d) : ∃ x, xs[i]? = some x ∧ d = .tup [.int (i : Nat), x] := by
  obtain ⟨x, y, h1, h2, e⟩ := zipD_get h
  have hl : i < xs.length := (List.getElem?_eq_some_iff.mp h2).1
  unfold rangeD at h1
  rw [List.getElem?_map, List.getElem?_range hl] at h1
  cases h1
  refine ⟨y, h2, ?_⟩
  rw [e]; simp
theorem enumD_len (xs : List D) : (enumD xs).length = xs.length := by unfold enumD; rw [zipD_len]; simp [rangeD]
theorem yields_enum {K : PySem.W.Frag} {G : Gh} {a : Addr} {vs : List V} {ds : List D} (g : G a = some (.lst vs)) (r : Reps G ds vs) : Yields c (Ite K a) G (enumD ds) := by
  refine yields_pair (fun i G' H' le co h => ?_) (fun i G' H' le co h => ?_) (fun i d G' H' x H2 le co hd hy => ?_)
  · rw [enumD_len] at h
    exact ⟨vs, .inl (.inl (co a _ (le a _ g))), by rw [r.vlen]; omega⟩
  · rw [enumD_len] at h
    exact ⟨vs, vs[i]'(by rw [r.vlen]; omega), .inl (.inl (co a _ (le a _ g))), List.getElem?_eq_getElem _⟩
  · obtain ⟨dx, h1, rfl⟩ := enumD_get hd
    obtain ⟨T, x, rfl, nT, rfl, k1⟩ := hy
    obtain ⟨v, hv, rv⟩ := r.get h1
    have e1 := (k1 vs (.inl (.inl (co a _ (le a _ g))))).symm.trans hv
    cases e1
    exact ⟨T, _, _, rfl, nT, rfl, rfl, .cons (rep_int _) (.cons (Rep.mono le _ _ rv) .nil)⟩
def wEnum (f : WE) : WI := fun ρ P E => wArgs [f] ρ [] (fun ds => ∃ xs, ds = [.lst xs] ∧ P (enumD xs)) E
theorem pi_enumD {p tpos : Pos} {elts : List Expr} {kk : Nat} (hg : Gl X "enumerate") (hm : X.mg "enumerate" = none) (ha : PA X [e] (tWA c [f])) (hs : starEach [e] X.env = [(false, eval e X.env)] := by rfl) :
    PI X (.Tuple elts kk tpos) (.Call (.Name "enumerate" p) [e] [] pos) (tWI c (wEnum f)) :=
  PI.imp (PI.bd (pi_enum hg hm ha hs)) fun σ H R ⟨G, ρ, P, E, co, sr, h, hp, hx⟩ => args co sr hx h fun ds pd _ vs G1 H1 st rs co1 sr1 hx1 => by
    obtain ⟨xs, rfl, p⟩ := pd
    obtain ⟨v, rfl, rv⟩ := rs.one
    obtain ⟨a, us, rfl, h1, r1, g1⟩ := rv.sqL co1
    refine ⟨a, us, rfl, .inl (.inl h1), fun bd => hp _ p ?_ _ _ _ st (yields_enum g1 r1)⟩
    have := bd a us (.inl h1)
    rw [enumD_len, ← r1.vlen]; exact this

/-! ### comprehensions -/
def noX : XP := fun _ => False
abbrev Pc.quiet (c : Pc) : Pc := { c with W := fun _ _ _ _ => False }
def wLcGo (g : WG) (ft : WT) (fe : WE) (ρ : Rho) : List D → List D → (R → Prop) → Prop
  | [], acc, P => P (.own acc)
  | x :: xs, acc, P => g x ρ (fun ρ2 => ft ρ2 (fun b => if b = true then fe ρ2 (fun r => wLcGo g ft fe ρ xs (acc ++ [r.toD]) P) noX else wLcGo g ft fe ρ xs acc P) noX)
def wipeR (ρ : Rho) : List Nat → Rho
  | [] => ρ
  | v :: vs => (wipeR ρ vs).set v none
theorem SRep.setNone {H0 H : Hp} {G : Gh} {σ : L2.St} {ρ : Rho} (s : SRep H0 G H σ ρ) (i : Nat) : SRep H0 G H (σ.set i none) (ρ.set i none) := by
  have at_ : ∀ (j : Nat) (r : R), (ρ.set i none)[j]? = some (some r) → i ≠ j ∧ ρ[j]? = some (some r) := fun j r e => by
    by_cases h : i = j
    · subst h
      rw [List.getElem?_set, if_pos rfl] at e
      split at e <;> cases e
    · rw [List.getElem?_set_ne h] at e; exact ⟨h, e⟩
  refine ⟨by rw [List.length_set, List.length_set, s.len], fun j r e => ?_, fun j k r r' p e e' o o' h1 h2 => ?_⟩
  · obtain ⟨h, e⟩ := at_ j r e
    rw [List.getElem?_set_ne h]; exact s.at_ j r e
  · obtain ⟨hj, e⟩ := at_ j r e
    obtain ⟨hk, e'⟩ := at_ k r' e'
    rw [List.getElem?_set_ne hj] at h1
    rw [List.getElem?_set_ne hk] at h2
    exact s.apart j k r r' p e e' o o' h1 h2
theorem SRep.wipe {H0 H : Hp} {G : Gh} {σ : L2.St} {ρ : Rho} (s : SRep H0 G H σ ρ) : ∀ vs : List Nat, SRep H0 G H (L2.wipe σ vs) (wipeR ρ vs)
  | [] => s
  | v :: vs => (SRep.wipe s vs).setNone v
def wLc (vs : List Nat) (fi : WI) (g : WG) (ft : WT) (fe : WE) : WE := fun ρ P E => fi ρ (fun ds => wLcGo g ft fe (wipeR ρ vs) ds [] P) E
def wYes : WT := fun _ P _ => P true
theorem pts_nilD : PTs X [] (tWT c wYes) := ⟨fun pins s σ H Q I ⟨G, ρ, P, E, co, sr, h, hp, hx⟩ => pts_nil.run pins s σ H Q I (hp _ h G H (Step.refl co))⟩
theorem pts_oneD {k : Expr} {t : WT} (h : PT X k (tWT c t)) : PTs X [k] (tWT c t) := pts_one h
theorem quietX {c : Pc} {G : Gh} {H : Hp} {σ : L2.St} : XQ c.quiet noX G H σ := fun _ h => h.elim

theorem lcSem {vs : List Nat} {g : WG} {sl : List Nat} {ft : WT} {fe : WE} {σ : L2.St} {H : Hp} {Q : VK} {G : Gh} {ρ : Rho} {P : R → Prop} {ds : List D} {J : It} {G1 : Gh} {H1 : Hp} (sr : SRep c.H0 G H σ ρ)
    (hp : ∀ r, P r → ∀ v G' H', Step c.J G H G' H' → RepR H G' H' v r → Q v H') (st1 : Step c.J G H G1 H1) (ys : Yields c J G1 ds) (hlen : ds.length ≤ sizeLine) (pd : wLcGo g ft fe (wipeR ρ vs) ds [] P) (hsl : ∀ i ∈ sl, i ∈ vs) :
    tLc (fun _ H' R => R J H') (tWG c.quiet sl g) (tWT c.quiet ft) (tWD c.quiet fe) vs σ H1 Q := by
  intro D nD
  have nG1 : G1 D = none := st1.coh.fresh c.jo nD
  let Good : Nat → Hp → Prop := fun i H => ∃ G acc vacc, Step c.J G1 H1 G H ∧ G D = none ∧ H D = some (.lst vacc) ∧ Reps G acc vacc ∧ acc.length ≤ i ∧ i ≤ ds.length ∧ wLcGo g ft fe (wipeR ρ vs) (ds.drop i) acc P
  refine ⟨fun i m H => Good i H ∧ m = ds.length - i, ⟨ds.length, ⟨G1, [], [], Step.newOwn c.jo st1.coh nD, nG1, upd_same, .nil, Nat.le_refl _, Nat.zero_le _, by simpa using pd⟩, by simp⟩, ?_⟩
  rintro i m H2 ⟨⟨G2, acc, vacc, st2, nG2, hD, racc, hacc, hi2, w⟩, rfl⟩
  by_cases hlt : i < ds.length
  · right
    have hd := List.getElem?_eq_getElem hlt
    generalize ds[i] = d at hd
    have ed : ds.drop i = d :: ds.drop (i + 1) := by
      have hh := List.getElem?_eq_some_iff.mp hd
      rw [← hh.2, List.drop_eq_getElem_cons hh.1]
    rw [ed] at w
    refine ⟨ys.go i G2 H2 st2.le st2.coh hlt, fun H' => Good (i + 1) H', fun H' gd => ⟨ds.length - (i + 1), by omega, gd, rfl⟩, fun x H3 hy => ?_⟩
    obtain ⟨G3, st3, rx⟩ := ys.yld i d G2 H2 x H3 st2.le st2.coh hd hy
    have hD3 := st3.frame D _ hD nG2
    have sr3 : SRep c.H0 G3 H3 (wipe σ vs) (wipeR ρ vs) := (((sr.step st1).step st2).step st3).wipe _
    refine ⟨G3, _, d, _, st3.coh, sr3, rx, w, fun ρ2 p2 σ2 sr2 hw => ⟨?_, ?_⟩⟩
    · rw [hw _ hsl]
      have idem : ∀ (τ : L2.St) (ws : List Nat), wipe (wipe τ ws) ws = wipe τ ws := by
        intro τ ws
        have aux : ∀ (us : List Nat) (τ : L2.St), (∀ j ∈ us, τ[j]? = some none ∨ τ[j]? = none) → wipe τ us = τ := by
          intro us
          induction us with
          | nil => intro τ _; rfl
          | cons u us ih =>
            intro τ hh
            unfold L2.wipe
            rw [ih τ fun j hj => hh j (List.mem_cons_of_mem _ hj)]
            apply List.ext_getElem?
            intro k
            by_cases hk : u = k
            · subst hk
              rcases hh u List.mem_cons_self with z | z
              · rw [List.getElem?_set, if_pos rfl, z]
                rw [if_pos (List.getElem?_eq_some_iff.mp z).1]
              · rw [List.getElem?_set, if_pos rfl, z]
                rw [if_neg (by have := List.getElem?_eq_none_iff.mp z; omega)]
            · rw [List.getElem?_set_ne hk]
        refine aux ws _ fun j hj => ?_
        cases q : (wipe τ ws)[j]? with
        | none => exact .inr rfl
        | some o =>
          cases o with
          | none => exact .inl rfl
          | some v => exact absurd hj (wipe_some q).2
      exact idem σ _
    refine ⟨G3, ρ2, _, noX, st3.coh, sr2, p2, fun k pk G4 H4 st4 => ?_, quietX⟩
    have hD4 := st4.frame D _ hD3.1 hD3.2
    cases k with
    | false =>
      simp only [Bool.false_eq_true, if_false] at pk ⊢
      exact ⟨G4, acc, vacc, (st2.trans st3).trans st4, hD4.2, hD4.1, Reps.mono (st3.trans st4).le _ _ racc, by omega, by omega, pk⟩
    | true =>
      simp only [if_true] at pk ⊢
      refine ⟨G4, ρ2, _, noX, st4.coh, sr2.step st4, pk, fun r pr y G5 H5 st5 ry => ?_, quietX⟩
      have hD5 := st5.frame D _ hD4.1 hD4.2
      refine ⟨vacc, hD5.1, by rw [racc.vlen]; omega, G5, acc ++ [r.toD], vacc ++ [y], ?_, hD5.2, upd_same, (Reps.mono (st3.trans (st4.trans st5)).le _ _ racc).append (.cons ry .nil), by simp; omega, by omega, pr⟩
      have t := ((st2.trans st3).trans st4).trans st5
      refine ⟨t.le, Coh.move c.jo t.coh fun aa gg eg => upd_ne ?_, fun aa oo ho nt hn => ?_, fun aa xs ho => by rw [upd_ne (ne_of_none ho nD)]; exact t.tups aa xs ho⟩
      · rintro rfl; rw [hD5.2] at eg; cases eg
      · have := t.keep aa oo ho nt hn
        rw [upd_ne (ne_of_none ho nD)]; exact this
  · left
    have e0 : i = ds.length := by omega
    subst e0
    rw [List.drop_length] at w
    exact ⟨ys.stop _ G2 H2 st2.le st2.coh (Nat.le_refl _), hp _ w _ _ _ (st1.trans st2) ⟨D, vacc, rfl, st1.dom c.jo nD, nG2, hD, racc⟩⟩
theorem lcSemE {vs : List Nat} {fi : WI} {g : WG} {sl : List Nat} {ft : WT} {fe : WE} {σ : L2.St} {H : Hp} {Q : VK} (hsl : ∀ i ∈ sl, i ∈ vs) (h : tWE c (wLc vs fi g ft fe) σ H Q) : tLc (tWI c fi) (tWG c.quiet sl g) (tWT c.quiet ft) (tWD c.quiet fe) vs σ H Q := by
  obtain ⟨G, ρ, P, E, co, sr, h, hp, hx⟩ := h
  exact ⟨G, ρ, _, E, co, sr, h, fun ds pd hlen J G1 H1 st1 ys => lcSem sr hp st1 ys hlen pd hsl, hx⟩
theorem pd_lc {elt iter : Expr} {ifs : List Expr} {scope : Scope} {own : List (Str × Nat)} {fi : WI} {g : WG} {sl : List Nat} {ft : WT} {fe : WE} (hc : X.calm = true) (hN : X.N.Nodup) (hi : PI X tg iter (tWI c fi)) (ok : BlkOk X.N X.env.scope scope own)
    (hg : ∀ (s : Shared) (H : Hp) (C : Addr) (cl : List (Str × Addr)) (fp : List Addr), PG (X.blk s H scope (compEnvC scope cl C X.env) fp) tg (tWG c.quiet sl g))
    (ht : ∀ (s : Shared) (H : Hp) (C : Addr) (cl : List (Str × Addr)) (fp : List Addr), PTs (X.blk s H scope (compEnvC scope cl C X.env) fp) ifs (tWT c.quiet ft))
    (he : ∀ (s : Shared) (H : Hp) (C : Addr) (cl : List (Str × Addr)) (fp : List Addr), PE (X.blk s H scope (compEnvC scope cl C X.env) fp) elt (tWE c.quiet fe))
    (hsl : ∀ i ∈ sl, i ∈ own.map (·.2) := by decide) (hs : ∀ x, foldedSetIterable iter X.env x = pure x := by intro _; rfl) :
    PE X (.ListComp elt [⟨tg, iter, ifs, 0⟩] scope pos) (tWE c (wLc (own.map (·.2)) fi g ft fe)) := by
  exact PE.imp (pe_lc hc hN hi ok hg ht (fun s H C cl fp => pdD (he s H C cl fp)) hs) fun σ H Q h => lcSemE hsl h
end
end PL
end
section
set_option Elab.async false
set_option linter.all false
set_option maxRecDepth 100000
set_option autoImplicit false
namespace PL
open PySem PySem.Spec L2
open PyProof.Rows hiding St

section
variable {X : Cx} {c : Pc} {e a b tg : Expr} {fa fb f : WE} {t : WT} {pos : Pos} {st : Stmt} {ss : List Stmt} {u v : WS}

structure EndsOk (c : Pc) (B : Gh) (D : Ends) (k : WEnds) : Prop where
  nx : ∀ ρ, k.nx ρ → ∀ σ G H, GLe B G → Step c.J c.G0 c.H0 G H → SRep c.H0 G H σ ρ → D.nx σ H
  rt : ∀ r, k.rt r → ∀ v G H, GLe B G → Step c.J c.G0 c.H0 G H → RepR c.H0 G H v r → D.rt v H
  bk : ∀ ρ, k.bk ρ → ∀ σ G H, GLe B G → Step c.J c.G0 c.H0 G H → SRep c.H0 G H σ ρ → D.bk σ H
  ct : ∀ ρ, k.ct ρ → ∀ σ G H, GLe B G → Step c.J c.G0 c.H0 G H → SRep c.H0 G H σ ρ → D.ct σ H
theorem EndsOk.up {B B' : Gh} {D : Ends} {k : WEnds} (o : EndsOk c B D k) (le : GLe B B') : EndsOk c B' D k :=
  ⟨fun r h σ G H l => o.nx r h σ G H (le.trans l), fun r h v G H l => o.rt r h v G H (le.trans l), fun r h σ G H l => o.bk r h σ G H (le.trans l), fun r h σ G H l => o.ct r h σ G H (le.trans l)⟩
def XA (c : Pc) (E : XP) : Prop := ∀ x, E x → ∀ cls d σ G H, Step c.J c.G0 c.H0 G H → XRep c.mg G H x cls d → c.W cls d σ H
theorem XA.q {E : XP} {G : Gh} {H : Hp} {σ : L2.St} (x : XA c E) (s : Step c.J c.G0 c.H0 G H) : XQ c E G H σ := fun y hy cls d G' H' s2 r => x y hy cls d σ G' H' (s.trans s2) r
def tWS (c : Pc) (f : WS) : TS := fun D σ H => ∃ G ρ k E, Step c.J c.G0 c.H0 G H ∧ SRep c.H0 G H σ ρ ∧ f k E ρ ∧ EndsOk c G D k ∧ XA c E

/-! ### rows of statements -/
def wThen (u v : WS) : WS := fun k E ρ => u { k with nx := fun ρ' => v k E ρ' } E ρ
def wSkip : WS := fun k _ ρ => k.nx ρ
theorem ws_nil : PSs X [] (tWS c wSkip) := PSs.imp pss_nil fun D σ H ⟨G, ρ, k, E, s, sr, h, ok, x⟩ => ok.nx _ h _ _ _ (GLe.refl _) s sr
theorem ws_cons (h1 : PS X st (tWS c u)) (h2 : PSs X ss (tWS c v)) : PSs X (st :: ss) (tWS c (wThen u v)) := PSs.imp (pss_cons h1 h2) fun D σ H ⟨G, ρ, k, E, s, sr, h, ok, x⟩ =>
  ⟨G, ρ, _, E, s, sr, h, ⟨fun ρ' h' σ' G' H' le s' sr' => ⟨G', ρ', k, E, s', sr', h', ok.up le, x⟩, ok.rt, ok.bk, ok.ct⟩, x⟩
theorem ws_one (h1 : PS X st (tWS c u)) : PSs X [st] (tWS c u) := PSs.imp (pss_cons h1 pss_nil) fun D σ H q => q
theorem ws_pass : PS X (.Pass pos) (tWS c wSkip) := PS.imp ps_pass fun D σ H ⟨G, ρ, k, E, s, sr, h, ok, x⟩ => ok.nx _ h _ _ _ (GLe.refl _) s sr
def wBrk : WS := fun k _ ρ => k.bk ρ
def wCnt : WS := fun k _ ρ => k.ct ρ
theorem ws_break : PS X (.Break pos) (tWS c wBrk) := PS.imp ps_break fun D σ H ⟨G, ρ, k, E, s, sr, h, ok, x⟩ => ok.bk _ h _ _ _ (GLe.refl _) s sr
theorem ws_cont : PS X (.Continue pos) (tWS c wCnt) := PS.imp ps_continue fun D σ H ⟨G, ρ, k, E, s, sr, h, ok, x⟩ => ok.ct _ h _ _ _ (GLe.refl _) s sr

/-! ### an expression in a statement -/
theorem inS {σ : L2.St} {H : Hp} {G : Gh} {ρ : Rho} {P : R → Prop} {E : XP} {Q : VK} (s : Step c.J c.G0 c.H0 G H) (sr : SRep c.H0 G H σ ρ) (x : XA c E) (h : fa ρ P E)
    (k : ∀ r, P r → ∀ v G' H', Step c.J c.G0 c.H0 G' H' → Step c.J G H G' H' → RepR H G' H' v r → SRep c.H0 G' H' σ ρ → Q v H') : tWE c fa σ H Q :=
  ⟨G, ρ, P, E, s.coh, sr, h, fun r pr v G' H' st rr => k r pr v G' H' (s.trans st) st rr (sr.step st), x.q s⟩
theorem inSD {σ : L2.St} {H : Hp} {G : Gh} {ρ : Rho} {P : R → Prop} {E : XP} {Q : VK} (s : Step c.J c.G0 c.H0 G H) (sr : SRep c.H0 G H σ ρ) (x : XA c E) (h : fa ρ P E)
    (k : ∀ r, P r → ∀ v G' H', Step c.J c.G0 c.H0 G' H' → Step c.J G H G' H' → Rep G' r.toD v → SRep c.H0 G' H' σ ρ → Q v H') : tWD c fa σ H Q :=
  ⟨G, ρ, P, E, s.coh, sr, h, fun r pr v G' H' st rr => k r pr v G' H' (s.trans st) st rr (sr.step st), x.q s⟩
theorem inST {σ : L2.St} {H : Hp} {G : Gh} {ρ : Rho} {P : Bool → Prop} {E : XP} {Q : Bool → Hp → Prop} (s : Step c.J c.G0 c.H0 G H) (sr : SRep c.H0 G H σ ρ) (x : XA c E) (h : t ρ P E)
    (k : ∀ r, P r → ∀ G' H', GLe G G' → Step c.J c.G0 c.H0 G' H' → SRep c.H0 G' H' σ ρ → Q r H') : tWT c t σ H Q :=
  ⟨G, ρ, P, E, s.coh, sr, h, fun r pr G' H' st => k r pr G' H' st.le (s.trans st) (sr.step st), x.q s⟩

def wExpr (f : WE) : WS := fun k E ρ => f ρ (fun _ => k.nx ρ) E
theorem ws_expr (he : PE X e (tWE c f)) (hs : swapsWith e none pos.line X.env = pure false := by rfl) : PS X (.Expr e pos) (tWS c (wExpr f)) := PS.imp (ps_expr he hs) fun D σ H ⟨G, ρ, k, E, s, sr, h, ok, x⟩ =>
  inS s sr x h fun r p v G' H' s' s2 _ sr' => ok.nx _ p _ _ _ s2.le s' sr'
def wRet (f : WE) : WS := fun k E ρ => f ρ k.rt E
theorem ws_ret (he : PE X e (tWE c f)) : PS X (.Return (some e) pos) (tWS c (wRet f)) := PS.imp (ps_ret he) fun D σ H ⟨G, ρ, k, E, s, sr, h, ok, x⟩ =>
  inS s sr x h fun r p v G' H' s' s2 rr _ => ok.rt _ p _ _ _ s2.le s' (rr.back c.jo s)
def wRetN : WS := fun k _ _ => k.rt (.val .non)
theorem ws_retN : PS X (.Return none pos) (tWS c wRetN) := PS.imp ps_retN fun D σ H ⟨G, ρ, k, E, s, sr, h, ok, x⟩ => ok.rt _ h _ _ _ (GLe.refl _) s rr_non
/-- return of what a slot holds, an owned list with it -/
def wRetV (i : Nat) : WS := fun k _ ρ => ∃ r, ρ[i]? = some (some r) ∧ k.rt r
theorem ws_retV (i : Nat) {x : Str} {p1 : Pos} (hN : X.N[i]? = some x := by rfl) (hv : Vis X.env.scope x := by first | exact Or.inl rfl | exact Or.inr (Or.inl rfl) | exact Or.inr (Or.inr rfl)) (hd : (x == ("__debug__" : Str)) = false := by decide)
    (hcd : (x == ("__classdict__" : Str)) = false := by decide) : PS X (.Return (some (.Name x p1)) pos) (tWS c (wRetV i)) := PS.imp (ps_ret (pe_var hN hv hd hcd)) fun D σ H ⟨G, ρ, k, E, s, sr, ⟨r, hr, h⟩, ok, x⟩ => by
  obtain ⟨v, h1, h2⟩ := sr.get hr
  exact ⟨v, h1, ok.rt _ h _ _ _ (GLe.refl _) s h2⟩

/-! ### names set -/
def wSet (i : Nat) (f : WE) : WS := fun k E ρ => f ρ (fun r => k.nx (ρ.set i (some (.val r.toD)))) E
theorem set_sem {D : L2.Ends} {σ : L2.St} {H : Hp} {i : Nat} (h : tWS c (wSet i f) D σ H) : tWD c f σ H fun x H1 => D.nx (σ.set i (some x)) H1 := by
  obtain ⟨G, ρ, k, E, s, sr, h, ok, x⟩ := h
  exact inSD s sr x h fun r p v G' H' s' s2 rr sr' => ok.nx _ p _ _ _ s2.le s' (sr'.setVal i rr)
theorem ws_set {i : Nat} {x : Str} {pos' : Pos} (hN : X.N.Nodup) (he : PE X e (tWE c f)) (hi : X.N[i]? = some x := by rfl) (hx : Loc X.env.scope x := by first | exact Or.inl rfl | exact Or.inr rfl) (hs : swapsWith e (some (.Name x pos')) pos.line X.env = pure false := by rfl)
    (hf : X.fn x = true ∨ X.env.scope.names.lookup x = some .local := by first | exact .inl rfl | exact .inr rfl | assumption) : PS X (.Assign [.Name x pos'] e pos) (tWS c (wSet i f)) :=
  PS.imp (ps_set hN hi hx (pdD he) hs hf) fun D σ H h => set_sem h
/-- the result is kept as it is: a new list is owned -/
def wSetO (i : Nat) (f : WE) : WS := fun k E ρ => f ρ (fun r => k.nx (ρ.set i (some r))) E
theorem setO_sem {D : L2.Ends} {σ : L2.St} {H : Hp} {i : Nat} (h : tWS c (wSetO i f) D σ H) : tWE c f σ H fun x H1 => D.nx (σ.set i (some x)) H1 := by
  obtain ⟨G, ρ, k, E, s, sr, h, ok, x⟩ := h
  exact inS s sr x h fun r p v G' H' s' s2 rr sr' => by
    refine ok.nx _ p _ _ _ s2.le s' (sr'.setR i (rr.back c.jo s) fun ho j r' _ hr' ho' hv => ?_)
    have fresh : ∀ q, v = V.ref q → H q = none := by
      intro q eq
      cases r with
      | val d => cases ho
      | own ds => obtain ⟨q', _, e', f', _⟩ := rr; rw [eq] at e'; cases e'; exact f'
      | ownd t ds => cases t <;> (obtain ⟨q', _, e', f', _⟩ := rr; rw [eq] at e'; cases e'; exact f')
    have isr : ∃ q, v = V.ref q := by
      cases r with
      | val d => cases ho
      | own ds => obtain ⟨q', _, e', _⟩ := rr; exact ⟨q', e'⟩
      | ownd t ds => cases t <;> (obtain ⟨q', _, e', _⟩ := rr; exact ⟨q', e'⟩)
    obtain ⟨q, rfl⟩ := isr
    obtain ⟨o, ho2⟩ := sr.ownAt hr' ho' hv
    rw [fresh q rfl] at ho2; cases ho2
theorem ws_setO {i : Nat} {x : Str} {pos' : Pos} (hN : X.N.Nodup) (he : PE X e (tWE c f)) (hi : X.N[i]? = some x := by rfl) (hx : Loc X.env.scope x := by first | exact Or.inl rfl | exact Or.inr rfl) (hs : swapsWith e (some (.Name x pos')) pos.line X.env = pure false := by rfl)
    (hf : X.fn x = true ∨ X.env.scope.names.lookup x = some .local := by first | exact .inl rfl | exact .inr rfl | assumption) : PS X (.Assign [.Name x pos'] e pos) (tWS c (wSetO i f)) :=
  PS.imp (ps_set hN hi hx he hs hf) fun D σ H h => setO_sem h
/-- name = [..] on one line -/
theorem ps_setLcD {i : Nat} {y : Str} {py : Pos} {elt tg iter : Expr} {ifs : List Expr} {scope : Scope} {own : List (Str × Nat)} {fi : WI} {g : WG} {sl : List Nat} {ft : WT} {fe : WE} {p1 : Pos} (hc : X.calm = true) (hN : X.N.Nodup) (hi : PI X tg iter (tWI c fi)) (ok : BlkOk X.N X.env.scope scope own)
    (hg : ∀ (s : Shared) (H : Hp) (C : Addr) (cl : List (Str × Addr)) (fp : List Addr), PG (X.blk s H scope (compEnvC scope cl C X.env) fp) tg (tWG c.quiet sl g))
    (ht : ∀ (s : Shared) (H : Hp) (C : Addr) (cl : List (Str × Addr)) (fp : List Addr), PTs (X.blk s H scope (compEnvC scope cl C X.env) fp) ifs (tWT c.quiet ft))
    (he : ∀ (s : Shared) (H : Hp) (C : Addr) (cl : List (Str × Addr)) (fp : List Addr), PE (X.blk s H scope (compEnvC scope cl C X.env) fp) elt (tWE c.quiet fe))
    (hy : X.N[i]? = some y := by rfl) (hyl : X.env.scope.names.lookup y = some .local := by rfl) (hsw : swapsWith (.ListComp elt [⟨tg, iter, ifs, 0⟩] scope p1) (some (.Name y py)) pos.line X.env = pure true := by rfl) (hs : ∀ x, foldedSetIterable iter X.env x = pure x := by intro _; rfl) :
    PS X (.Assign [.Name y py] (.ListComp elt [⟨tg, iter, ifs, 0⟩] scope p1) pos) (tAsg (tLc (tWI c fi) (tWG c.quiet sl g) (tWT c.quiet ft) (tWD c.quiet fe) (own.map (·.2))) (gName i)) :=
  ps_setLc hc hN hy hyl hsw hi ok hg ht (fun s H C cl fp => pdD (he s H C cl fp)) hs
theorem ws_setLc {i : Nat} {y : Str} {py : Pos} {e : Expr} {vs : List Nat} {fi : WI} {g : WG} {sl : List Nat} {ft : WT} {fe : WE} (h : PS X (.Assign [.Name y py] e pos) (tAsg (tLc (tWI c fi) (tWG c.quiet sl g) (tWT c.quiet ft) (tWD c.quiet fe) vs) (gName i))) (hsl : ∀ i ∈ sl, i ∈ vs := by decide) :
    PS X (.Assign [.Name y py] e pos) (tWS c (wSet i (wLc vs fi g ft fe))) := PS.imp h fun D σ H q => lcSemE hsl (tWD_E (set_sem q))
theorem ws_setLcO {i : Nat} {y : Str} {py : Pos} {e : Expr} {vs : List Nat} {fi : WI} {g : WG} {sl : List Nat} {ft : WT} {fe : WE} (h : PS X (.Assign [.Name y py] e pos) (tAsg (tLc (tWI c fi) (tWG c.quiet sl g) (tWT c.quiet ft) (tWD c.quiet fe) vs) (gName i))) (hsl : ∀ i ∈ sl, i ∈ vs := by decide) :
    PS X (.Assign [.Name y py] e pos) (tWS c (wSetO i (wLc vs fi g ft fe))) := PS.imp h fun D σ H q => lcSemE hsl (setO_sem q)
/-- an owned slot is frozen -/
def wFrz (i : Nat) (u : WS) : WS := fun k E ρ => ∃ r, ρ[i]? = some (some r) ∧ u k E (ρ.set i (some (.val r.toD)))
theorem SRep.frz {σ : L2.St} {H : Hp} {G : Gh} {ρ : Rho} {i : Nat} {r : R} (s : Step c.J c.G0 c.H0 G H) (sr : SRep c.H0 G H σ ρ) (hr : ρ[i]? = some (some r)) : ∃ G', GLe G G' ∧ Step c.J c.G0 c.H0 G' H ∧ SRep c.H0 G' H σ (ρ.set i (some (.val r.toD))) := by
  obtain ⟨v, hv, rv⟩ := sr.get hr
  obtain ⟨G', s', le, rd, un⟩ := rv.freezeX c.jo s (fun _ h => h)
  have other : ∀ (j : Nat) (r' : R), (ρ.set i (some (.val r.toD)))[j]? = some (some r') → r'.isOwn = true → i ≠ j ∧ ρ[j]? = some (some r') := fun j r' e' o' => by
    by_cases hj : i = j
    · subst hj
      rw [List.getElem?_set, if_pos rfl] at e'
      split at e' <;> cases e'
      cases o'
    · rw [List.getElem?_set_ne hj] at e'; exact ⟨hj, e'⟩
  refine ⟨G', le, s', ⟨by rw [List.length_set]; exact sr.len, fun j r' e' => ?_, fun j k r1 r2 p e1 e2 o1 o2 h1 h2 => ?_⟩⟩
  · by_cases hj : i = j
    · subst hj
      rw [List.getElem?_set, if_pos rfl] at e'
      split at e' <;> cases e'
      exact ⟨v, hv, rd⟩
    · rw [List.getElem?_set_ne hj] at e'
      obtain ⟨w, hw, rw_⟩ := sr.at_ j r' e'
      refine ⟨w, hw, ?_⟩
      have key : ∀ p, w = V.ref p → r'.isOwn = true → G p = none → G' p = none := fun p ep o' np => by
        rw [un p fun o ev => ?_]; exact np
        rw [ep] at hw; rw [ev] at hv
        exact hj (sr.apart i j r r' p hr e' o o' hv hw)
      cases r' with
      | val d => exact Rep.mono le _ _ rw_
      | own ds => obtain ⟨p, vs, e1, f1, n1, q1, r1⟩ := rw_; exact ⟨p, vs, e1, f1, key p e1 rfl n1, q1, Reps.mono le _ _ r1⟩
      | ownd t kvs =>
        cases t with
        | false => obtain ⟨p, vs, e1, f1, n1, q1, r1⟩ := rw_; exact ⟨p, vs, e1, f1, key p e1 rfl n1, q1, RepK.mono le _ _ r1⟩
        | true => obtain ⟨p, vs, e1, f1, n1, q1, r1⟩ := rw_; exact ⟨p, vs, e1, f1, key p e1 rfl n1, q1, RepT.mono le _ _ r1⟩
  · obtain ⟨_, e1⟩ := other j r1 e1 o1
    obtain ⟨_, e2⟩ := other k r2 e2 o2
    exact sr.apart j k r1 r2 p e1 e2 o1 o2 h1 h2
theorem ws_frz (i : Nat) (h : PSs X ss (tWS c u)) : PSs X ss (tWS c (wFrz i u)) := PSs.imp h fun D σ H ⟨G, ρ, k, E, s, sr, ⟨r, hr, h⟩, ok, x⟩ => by
  obtain ⟨G', le, s', sr'⟩ := sr.frz s hr
  exact ⟨G', _, k, E, s', sr', h, ok.up le, x⟩

/-! ### if, while, for -/
def wIfS (t : WT) (u v : WS) : WS := fun k E ρ => t ρ (fun b => if b = true then u k E ρ else v k E ρ) E
theorem ws_if {A B : List Stmt} (hc : PT X e (tWT c t)) (ha : PSs X A (tWS c u)) (hb : PSs X B (tWS c v)) : PS X (.If e A B pos) (tWS c (wIfS t u v)) := PS.imp (ps_if hc ha hb) fun D σ H ⟨G, ρ, k, E, s, sr, h, ok, x⟩ =>
  inST s sr x h fun b p G' H' le s' sr' => by
    cases b with
    | true => simp only [if_true] at p ⊢; exact ⟨G', ρ, k, E, s', sr', p, ok.up le, x⟩
    | false => simp only [Bool.false_eq_true, if_false] at p ⊢; exact ⟨G', ρ, k, E, s', sr', p, ok.up le, x⟩
def wWhN (t : WT) (u : WS) (k : WEnds) (E : XP) : Nat → Rho → Prop
  | 0, _ => False
  | n + 1, ρ => t ρ (fun b => if b = true then u { k with nx := wWhN t u k E n, ct := wWhN t u k E n, bk := k.nx } E ρ else k.nx ρ) E
def wWhile (t : WT) (u : WS) : WS := fun k E ρ => ∃ n, wWhN t u k E n ρ
theorem ws_while {B : List Stmt} (hp : PassesOwn (model X.prog X.w) X.A X.env X.xe) (hc : PT X e (tWT c t)) (hb : PSs X B (tWS c u)) : PS X (.While e B [] pos) (tWS c (wWhile t u)) := PS.imp (ps_while hp hc hb) fun D σ H ⟨G, ρ, k, E, s, sr, ⟨n, h⟩, ok, x⟩ => by
  refine ⟨fun m σ H => ∃ G1 ρ, GLe G G1 ∧ Step c.J c.G0 c.H0 G1 H ∧ SRep c.H0 G1 H σ ρ ∧ wWhN t u k E m ρ, ⟨n, G, ρ, GLe.refl _, s, sr, h⟩, ?_⟩
  rintro m σ1 H1 ⟨G1, ρ1, le1, s1, sr1, h1⟩
  cases m with
  | zero => exact h1.elim
  | succ m =>
    refine inST s1 sr1 x h1 fun b p G' H' le s' sr' => ?_
    cases b with
    | false => simp only [Bool.false_eq_true, if_false] at p ⊢; exact ok.nx _ p _ _ _ (le1.trans le) s' sr'
    | true =>
      simp only [if_true] at p ⊢
      have ok' := ok.up (le1.trans le)
      refine ⟨fun σ' H' => ∃ G1 ρ, GLe G G1 ∧ Step c.J c.G0 c.H0 G1 H' ∧ SRep c.H0 G1 H' σ' ρ ∧ wWhN t u k E m ρ, fun σ' H' q => ⟨m, Nat.lt_succ_self m, q⟩, G', ρ1, _, E, s', sr', p, ⟨?_, ok'.rt, ok'.nx, ?_⟩, x⟩
      · intro ρ2 h2 σ2 G2 H2 l2 s2 sr2; exact ⟨G2, ρ2, (le1.trans le).trans l2, s2, sr2, h2⟩
      · intro ρ2 h2 σ2 G2 H2 l2 s2 sr2; exact ⟨G2, ρ2, (le1.trans le).trans l2, s2, sr2, h2⟩
def wForGo (g : WG) (u : WS) (k : WEnds) (E : XP) : List D → Rho → Prop
  | [], ρ => k.nx ρ
  | d :: ds, ρ => g d ρ (fun ρ2 => u { k with nx := wForGo g u k E ds, ct := wForGo g u k E ds, bk := k.nx } E ρ2)
def wFor (fi : WI) (g : WG) (u : WS) : WS := fun k E ρ => fi ρ (fun ds => wForGo g u k E ds ρ) E
theorem ws_for {B : List Stmt} {iter : Expr} {fi : WI} {g : WG} {sl : List Nat} (hp : PassesOwn (model X.prog X.w) X.A X.env X.xe) (hc : X.calm = true) (hi : PI X tg iter (tWI c fi)) (hg : PG X tg (tWG c sl g)) (hb : PSs X B (tWS c u))
    (hs : ∀ x, foldedSetIterable iter X.env x = pure x := by intro _; rfl) : PS X (.For tg iter B [] pos) (tWS c (wFor fi g u)) := PS.imp (ps_for hp hc hi hg hb hs) fun D σ H ⟨G, ρ, k, E, s, sr, h, ok, x⟩ => by
  refine ⟨G, ρ, _, E, s.coh, sr, h, fun ds pd _ J G1 H1 st1 ys => ?_, x.q s⟩
  let Good : Nat → L2.St → Hp → Prop := fun i σ H => ∃ G ρ, Step c.J c.G0 c.H0 G H ∧ GLe G1 G ∧ SRep c.H0 G H σ ρ ∧ i ≤ ds.length ∧ wForGo g u k E (ds.drop i) ρ
  refine ⟨fun i m σ H => Good i σ H ∧ m = ds.length - i, ⟨ds.length, ⟨G1, ρ, s.trans st1, GLe.refl _, sr.step st1, Nat.zero_le _, by simpa using pd⟩, by simp⟩, ?_⟩
  rintro i m σ2 H2 ⟨⟨G2, ρ2, s2, le2, sr2, hi2, w⟩, rfl⟩
  by_cases hlt : i < ds.length
  · right
    have hd := List.getElem?_eq_getElem hlt
    generalize ds[i] = d at hd
    have ed : ds.drop i = d :: ds.drop (i + 1) := by
      have hh := List.getElem?_eq_some_iff.mp hd
      rw [← hh.2, List.drop_eq_getElem_cons hh.1]
    rw [ed] at w
    refine ⟨ys.go i G2 H2 le2 s2.coh hlt, Good (i + 1), fun σ' H' gd => ⟨ds.length - (i + 1), by omega, gd, rfl⟩, fun x' H3 hy => ?_⟩
    obtain ⟨G3, st3, rx⟩ := ys.yld i d G2 H2 x' H3 le2 s2.coh hd hy
    refine ⟨G3, ρ2, d, _, st3.coh, sr2.step st3, rx, w, fun ρ3 p3 σ3 sr3 _ => ?_⟩
    have l13 := le2.trans st3.le
    have ok' := ok.up (st1.le.trans l13)
    refine ⟨G3, ρ3, _, E, s2.trans st3, sr3, p3, ⟨?_, ok'.rt, ok'.nx, ?_⟩, x⟩
    · intro ρ4 h4 σ4 G4 H4 l4 s4 sr4
      exact ⟨G4, ρ4, s4, l13.trans l4, sr4, hlt, h4⟩
    · intro ρ4 h4 σ4 G4 H4 l4 s4 sr4
      exact ⟨G4, ρ4, s4, l13.trans l4, sr4, hlt, h4⟩
  · left
    have e0 : i = ds.length := by omega
    subst e0
    rw [List.drop_length] at w
    exact ⟨ys.stop _ G2 H2 le2 s2.coh (Nat.le_refl _), ok.nx _ w _ _ _ (st1.le.trans le2) s2 sr2⟩
end
end PL
end
section
set_option Elab.async false
set_option linter.all false
set_option maxRecDepth 100000
set_option autoImplicit false
namespace PL
open PySem PySem.Spec L2
open PyProof.Rows hiding St

/-! ### data without lists and dicts within -/
mutual
def D.solid : D → Bool
  | .tup xs => D.solids xs
  | .lst _ => false
  | .dct _ _ => false
  | _ => true
def D.solids : List D → Bool
  | [] => true
  | x :: xs => D.solid x && D.solids xs
end
mutual
theorem Rep.del {G : Gh} {p : Addr} {o : GO} (g : G p = some o) (tm : Tmp o) : ∀ (d : D) (v : V), d.solid = true → Rep G d v → Rep (gdel G p) d v
  | .non, v, _, h => by unfold Rep at h ⊢; exact h
  | .bl b, v, _, h => by unfold Rep at h ⊢; exact h
  | .int b, v, _, h => by unfold Rep at h ⊢; exact h
  | .str b, v, _, h => by unfold Rep at h ⊢; exact h
  | .tup ds, v, s, h => by
    unfold Rep at h ⊢; obtain ⟨a, vs, e, q, r⟩ := h
    unfold D.solid at s
    refine ⟨a, vs, e, ?_, Reps.del g tm ds vs s r⟩
    rw [gdel_ne]
    · exact q
    · rintro rfl; rw [g] at q; cases q; exact tm
  | .lst ds, v, s, h => by unfold D.solid at s; cases s
  | .dct _ kvs, v, s, h => by unfold D.solid at s; cases s
  | .obj t ds, v, s, h => by
    unfold Rep at h ⊢; obtain ⟨a, e, q⟩ := h
    refine ⟨a, e, ?_⟩
    rw [gdel_ne]
    · exact q
    · rintro rfl; rw [g] at q; cases q; exact tm
  | .raw _ none _, v, _, h => by unfold Rep at h ⊢; exact h
  | .raw _ (some _) _, v, _, h => by
    unfold Rep at h ⊢
    refine ⟨h.1, ?_⟩
    rw [gdel_ne]
    · exact h.2
    · rintro rfl; have q := h.2; rw [g] at q; cases q; exact tm
theorem Reps.del {G : Gh} {p : Addr} {o : GO} (g : G p = some o) (tm : Tmp o) : ∀ (ds : List D) (vs : List V), D.solids ds = true → Reps G ds vs → Reps (gdel G p) ds vs
  | [], vs, _, h => by unfold Reps at h ⊢; exact h
  | d :: ds, vs, s, h => by
    unfold D.solids at s; simp only [Bool.and_eq_true] at s
    obtain ⟨v, r, rfl, h1, h2⟩ := h.uncons
    exact .cons (Rep.del g tm d v s.1 h1) (Reps.del g tm ds r s.2 h2)
end
def R.solid : R → Bool
  | .val d => d.solid
  | .own ds => D.solids ds
  | .ownd _ _ => false

section
variable {X : Cx} {c : Pc} {e a b tg : Expr} {fa fb f : WE} {t : WT} {pos : Pos} {st : Stmt} {ss : List Stmt} {u v : WS}

/-! ### an owned list or dict read as it stands -/
theorem undo {J : JT} {G G' : Gh} {H H' : Hp} {p : Addr} {g0 : GO} {o0 : HO} (jo : JOk J) (n : G p = none) (q : H p = some o0) (tm : Tmp g0) (same : ∀ G H, CohAt J G H p g0 → H p = some o0) (s : Step J (gupd G p g0) H G' H') : Step J G H (gdel G' p) H' := by
  have gp : G' p = some g0 := s.le p _ gupd_same
  refine ⟨fun a g e => ?_, ⟨fun a g e => ?_, fun P ds h => ?_⟩, fun a o h nt z => ?_, s.tups⟩
  · have ne : a ≠ p := by rintro rfl; rw [n] at e; cases e
    rw [gdel_ne ne]; exact s.le a g (by rw [gupd_ne ne]; exact e)
  · have ne : a ≠ p := by rintro rfl; rw [gdel_same] at e; cases e
    rw [gdel_ne ne] at e
    have x := s.coh a g e
    cases g with
    | tup vs => exact x
    | lst vs => exact x
    | dK vs => exact x
    | dT vs => exact x
    | dF vs => exact x
    | inv t ds => exact jo.del x gp tm
    | priv b => exact x
    | code q => exact x
  · have z := s.coh.st P ds h
    rw [gdel_ne]
    · exact z
    · rintro rfl; rw [gp] at z; cases z; exact tm
  · by_cases ne : a = p
    · subst ne
      have := same _ _ (s.coh a _ gp)
      rw [q] at h; cases h
      exact ⟨this, gdel_same⟩
    · have := s.keep a o h nt (by rw [gupd_ne ne]; exact z)
      exact ⟨this.1, by rw [gdel_ne ne]; exact this.2⟩
theorem RepR.freshUp {Hf H : Hp} {G : Gh} {p : Addr} {g : GO} {v : V} (n : G p = none) : ∀ {r : R}, RepR Hf G H v r → (r.isOwn = true → v ≠ V.ref p) → RepR Hf (gupd G p g) H v r
  | .val d, h, _ => Rep.mono (GLe.upd n) _ _ h
  | .own ds, ⟨q, vs, e, f, m, h, r⟩, ne => ⟨q, vs, e, f, by rw [gupd_ne (fun z => ne rfl (by rw [e, z]))]; exact m, h, Reps.mono (GLe.upd n) _ _ r⟩
  | .ownd false ds, ⟨q, vs, e, f, m, h, r⟩, ne => ⟨q, vs, e, f, by rw [gupd_ne (fun z => ne rfl (by rw [e, z]))]; exact m, h, RepK.mono (GLe.upd n) _ _ r⟩
  | .ownd true ds, ⟨q, vs, e, f, m, h, r⟩, ne => ⟨q, vs, e, f, by rw [gupd_ne (fun z => ne rfl (by rw [e, z]))]; exact m, h, RepT.mono (GLe.upd n) _ _ r⟩
/-- what an owned slot holds, as a ghost cell to be -/
theorem SRep.own_ {J : JT} {H0 H : Hp} {G : Gh} {σ : L2.St} {ρ : Rho} {i : Nat} {r : R} (sr : SRep H0 G H σ ρ) (hi : ρ[i]? = some (some r)) (ho : r.isOwn = true) :
    ∃ p g0 o0, σ[i]? = some (some (V.ref p)) ∧ G p = none ∧ H p = some o0 ∧ Tmp g0 ∧ (∀ G H, CohAt J G H p g0 → H p = some o0) ∧ (∀ G H, H p = some o0 → CohAt J G H p g0) ∧ Rep (gupd G p g0) r.toD (V.ref p) := by
  obtain ⟨v, hv, rr⟩ := sr.get hi
  cases r with
  | val d => cases ho
  | own ds =>
    obtain ⟨p, vs, rfl, h0, np, hq, rs⟩ := rr
    refine ⟨p, .lst vs, .lst vs, hv, np, hq, trivial, fun _ _ h => h, fun _ _ h => h, ?_⟩
    show Rep _ (.lst ds) _
    unfold Rep; exact ⟨p, vs, rfl, gupd_same, Reps.mono (GLe.upd np) _ _ rs⟩
  | ownd t ds =>
    cases t with
    | false =>
      obtain ⟨p, vs, rfl, h0, np, hq, rs⟩ := rr
      refine ⟨p, .dK vs, .dK vs, hv, np, hq, trivial, fun _ _ h => h, fun _ _ h => h, ?_⟩
      show Rep _ (.dct false ds) _
      unfold Rep; exact ⟨p, vs, rfl, gupd_same, RepK.mono (GLe.upd np) _ _ rs⟩
    | true =>
      obtain ⟨p, vs, rfl, h0, np, hq, rs⟩ := rr
      refine ⟨p, .dT vs, .dT vs, hv, np, hq, trivial, fun _ _ h => h, fun _ _ h => h, ?_⟩
      show Rep _ (.dct true ds) _
      unfold Rep; exact ⟨p, vs, rfl, .inl gupd_same, RepT.mono (GLe.upd np) _ _ rs⟩
theorem SRep.frzL {H0 H : Hp} {G : Gh} {σ : L2.St} {ρ : Rho} {i : Nat} {r : R} {p : Addr} {g0 : GO} (sr : SRep H0 G H σ ρ) (hi : ρ[i]? = some (some r)) (ho : r.isOwn = true) (hv : σ[i]? = some (some (V.ref p))) (n : G p = none) (rs : Rep (gupd G p g0) r.toD (V.ref p)) :
    SRep H0 (gupd G p g0) H σ (ρ.set i (some (.val r.toD))) := by
  refine ⟨by rw [List.length_set]; exact sr.len, fun j r' e' => ?_, fun j k r1 r2 q e1 e2 o1 o2 h1 h2 => ?_⟩
  · by_cases hj : i = j
    · subst hj
      rw [List.getElem?_set, if_pos rfl] at e'
      split at e' <;> cases e'
      exact ⟨_, hv, rs⟩
    · rw [List.getElem?_set_ne hj] at e'
      obtain ⟨w, hw, rw_⟩ := sr.at_ j r' e'
      refine ⟨w, hw, rw_.freshUp n fun o' z => ?_⟩
      rw [z] at hw
      exact hj (sr.apart i j _ r' p hi e' ho o' hv hw)
  · have other : ∀ (j : Nat) (r' : R), (ρ.set i (some (.val r.toD)))[j]? = some (some r') → r'.isOwn = true → ρ[j]? = some (some r') := fun j r' e' o' => by
      by_cases hj : i = j
      · subst hj
        rw [List.getElem?_set, if_pos rfl] at e'
        split at e' <;> cases e'
        cases o'
      · rw [List.getElem?_set_ne hj] at e'; exact e'
    exact sr.apart j k r1 r2 q (other j r1 e1 o1) (other k r2 e2 o2) o1 o2 h1 h2
def wBor (i : Nat) (f : WE) : WE := fun ρ P E => ∃ r0, ρ[i]? = some (some r0) ∧ r0.isOwn = true ∧ f (ρ.set i (some (.val r0.toD))) (fun r => r.solid = true ∧ P r) (fun x => x.fs = [] ∧ E x)
theorem pd_bor (i : Nat) (h : PE X e (tWE c f)) : PE X e (tWE c (wBor i f)) := PE.imp h fun σ H Q ⟨G, ρ, P, E, co, sr, ⟨r0, hi, ho, hf⟩, hp, hx⟩ => by
  obtain ⟨p, g0, o0, hv, np, hq, tm, sm, sm', rd⟩ := sr.own_ (J := c.J) hi ho
  have co1 : Coh c.J (gupd G p g0) H := Coh.add c.jo co np (sm' _ _ hq)
  refine ⟨gupd G p g0, _, _, _, co1, sr.frzL hi ho hv np rd, hf, fun r pr v' G' H' st rr => ?_, fun x hx2 cls d G' H' st xr => ?_⟩
  · have s2 := undo c.jo np hq tm sm st
    have gp : G' p = some g0 := st.le p _ gupd_same
    refine hp r pr.2 v' _ _ s2 ?_
    cases r with
    | val d => exact Rep.del gp tm d v' pr.1 rr
    | own es =>
      obtain ⟨q, ws, e1, f1, n1, h1, r1⟩ := rr
      refine ⟨q, ws, e1, f1, ?_, h1, Reps.del gp tm es ws pr.1 r1⟩
      by_cases ne : q = p
      · rw [ne]; exact gdel_same
      · rw [gdel_ne ne]; exact n1
    | ownd t es => exact absurd pr.1 (by simp [R.solid])
  · have s2 := undo c.jo np hq tm sm st
    refine hx x hx2.2 cls d _ _ s2 ⟨xr.1, ?_⟩
    have z := xr.2
    rw [hx2.1] at z ⊢; exact z
def wBorT (i : Nat) (t : WT) : WT := fun ρ P E => ∃ r0, ρ[i]? = some (some r0) ∧ r0.isOwn = true ∧ t (ρ.set i (some (.val r0.toD))) P (fun x => x.fs = [] ∧ E x)
theorem pt_bor (i : Nat) (h : PT X e (tWT c t)) : PT X e (tWT c (wBorT i t)) := PT.imp h fun σ H Q ⟨G, ρ, P, E, co, sr, ⟨r0, hi, ho, hf⟩, hp, hx⟩ => by
  obtain ⟨p, g0, o0, hv, np, hq, tm, sm, sm', rd⟩ := sr.own_ (J := c.J) hi ho
  have co1 : Coh c.J (gupd G p g0) H := Coh.add c.jo co np (sm' _ _ hq)
  refine ⟨gupd G p g0, _, _, _, co1, sr.frzL hi ho hv np rd, hf, fun b pb G' H' st => hp b pb _ _ (undo c.jo np hq tm sm st), fun x hx2 cls d G' H' st xr => ?_⟩
  refine hx x hx2.2 cls d _ _ (undo c.jo np hq tm sm st) ⟨xr.1, ?_⟩
  have z := xr.2
  rw [hx2.1] at z ⊢; exact z

/-! ### an owned list changed -/
theorem SRep.mut {J : JT} {G0 G : Gh} {H0 H : Hp} {σ : L2.St} {ρ : Rho} {i : Nat} {ds ds' : List D} {p : Addr} {vs vs' : List V} (jo : JOk J) (s : Step J G0 H0 G H) (sr : SRep H0 G H σ ρ) (hi : ρ[i]? = some (some (.own ds))) (hv : σ[i]? = some (some (V.ref p)))
    (hq : H p = some (.lst vs)) (h0 : H0 p = none) (np : G p = none) (r' : Reps G ds' vs') : Step J G0 H0 G (upd H p (.lst vs')) ∧ SRep H0 G (upd H p (.lst vs')) σ (ρ.set i (some (.own ds'))) := by
  refine ⟨⟨s.le, s.coh.move jo fun a g e => upd_ne ?_, fun a o h nt z => ?_, fun a xs h => ?_⟩, ⟨by rw [List.length_set]; exact sr.len, fun j r e => ?_, fun j k r1 r2 q e1 e2 o1 o2 h1 h2 => ?_⟩⟩
  · rintro rfl; rw [np] at e; cases e
  · have ne : a ≠ p := by rintro rfl; rw [h0] at h; cases h
    rw [upd_ne ne]; exact s.keep a o h nt z
  · have ne : a ≠ p := by rintro rfl; rw [h0] at h; cases h
    rw [upd_ne ne]; exact s.tups a xs h
  · by_cases hj : i = j
    · subst hj
      rw [List.getElem?_set, if_pos rfl] at e
      split at e <;> cases e
      exact ⟨_, hv, p, vs', rfl, h0, np, upd_same, r'⟩
    · rw [List.getElem?_set_ne hj] at e
      obtain ⟨w, hw, rr⟩ := sr.at_ j r e
      refine ⟨w, hw, ?_⟩
      have ne : r.isOwn = true → w ≠ V.ref p := fun o z => by
        rw [z] at hw
        exact hj (sr.apart i j _ r p hi e rfl o hv hw)
      cases r with
      | val d => exact rr
      | own es =>
        obtain ⟨q, ws, e1, f1, n1, h1, r1⟩ := rr
        exact ⟨q, ws, e1, f1, n1, by rw [upd_ne (fun z => ne rfl (by rw [e1, z]))]; exact h1, r1⟩
      | ownd t es =>
        cases t <;>
        (obtain ⟨q, ws, e1, f1, n1, h1, r1⟩ := rr
         exact ⟨q, ws, e1, f1, n1, by rw [upd_ne (fun z => ne rfl (by rw [e1, z]))]; exact h1, r1⟩)
  · have other : ∀ (j : Nat) (r : R), (ρ.set i (some (.own ds')))[j]? = some (some r) → r.isOwn = true → ∃ r0, ρ[j]? = some (some r0) ∧ r0.isOwn = true := fun j r e o => by
      by_cases hj : i = j
      · subst hj; exact ⟨_, hi, rfl⟩
      · rw [List.getElem?_set_ne hj] at e; exact ⟨r, e, o⟩
    obtain ⟨r3, e3, o3⟩ := other j r1 e1 o1
    obtain ⟨r4, e4, o4⟩ := other k r2 e2 o2
    exact sr.apart j k r3 r4 q e3 e4 o3 o4 h1 h2
/-- x.append(e) -/
def wApp (i : Nat) (f : WE) : WS := fun k E ρ => ∃ ds, ρ[i]? = some (some (.own ds)) ∧ f ρ (fun r => ds.length < sizeLine ∧ k.nx (ρ.set i (some (.own (ds ++ [r.toD]))))) E
theorem ws_app {i : Nat} (h : PS X st (tDrop (tBM X.K "list" rAppend (tVar i) (tCons (tWD c f) tNil)))) : PS X st (tWS c (wApp i f)) := PS.imp h fun D σ H ⟨G, ρ, k, E, s, sr, ⟨ds, hi, h⟩, ok, x⟩ => by
  obtain ⟨v, hv, p, vs, rfl, h0, np, hq, rs⟩ := sr.get hi
  refine ⟨_, hv, .inl ⟨rfl, vs, .inl (.inl hq)⟩, inSD s sr x h fun r pr y G' H' s' s2 rr sr' => ?_⟩
  obtain ⟨hq', np'⟩ := s2.frame p _ hq np
  refine ⟨p, vs, y, rfl, rfl, hq', by rw [rs.vlen]; exact pr.1, ?_⟩
  obtain ⟨s3, sr3⟩ := sr'.mut c.jo s' hi hv hq' h0 np' ((Reps.mono s2.le _ _ rs).append (.cons rr .nil))
  exact ok.nx _ pr.2 _ _ _ s2.le s3 sr3
/-- x.extend(e), e a list -/
def wExt (i : Nat) (f : WE) : WS := fun k E ρ => ∃ ds, ρ[i]? = some (some (.own ds)) ∧ f ρ (fun r => ∃ es, r.toD = .lst es ∧ ds.length + es.length ≤ sizeLine ∧ k.nx (ρ.set i (some (.own (ds ++ es))))) E
theorem ws_ext {i : Nat} (h : PS X st (tDrop (tBM X.K "list" rExtend (tVar i) (tCons (tWD c f) tNil)))) : PS X st (tWS c (wExt i f)) := PS.imp h fun D σ H ⟨G, ρ, k, E, s, sr, ⟨ds, hi, h⟩, ok, x⟩ => by
  obtain ⟨v, hv, p, vs, rfl, h0, np, hq, rs⟩ := sr.get hi
  refine ⟨_, hv, .inl ⟨rfl, vs, .inl (.inl hq)⟩, inSD s sr x h fun r pr y G' H' s' s2 rr sr' => ?_⟩
  obtain ⟨es, e1, hl, hk⟩ := pr
  rw [e1] at rr
  obtain ⟨hq', np'⟩ := s2.frame p _ hq np
  obtain ⟨a, ws, rfl, h1, r1, _⟩ := rr.sqL s'.coh
  refine ⟨p, a, vs, ws, rfl, rfl, hq', h1, by rw [rs.vlen, r1.vlen]; exact hl, ?_⟩
  obtain ⟨s3, sr3⟩ := sr'.mut c.jo s' hi hv hq' h0 np' ((Reps.mono s2.le _ _ rs).append r1)
  exact ok.nx _ hk _ _ _ s2.le s3 sr3
/-- y = x.pop(e) -/
def wPopAt (j i : Nat) (f : WE) : WS := fun k E ρ => ∃ ds, ρ[i]? = some (some (.own ds)) ∧ f ρ (fun r => ∃ n q d, r.toD = .int n ∧ -(2 ^ 63) ≤ n ∧ n < 2 ^ 63 ∧ seqIndex? n ds.length = some q ∧ ds[q]? = some d ∧ k.nx ((ρ.set i (some (.own (ds.eraseIdx q)))).set j (some (.val d)))) E
theorem Reps.erase {G : Gh} : ∀ {ds : List D} {vs : List V} (q : Nat), Reps G ds vs → Reps G (ds.eraseIdx q) (vs.eraseIdx q)
  | [], vs, q, h => by unfold Reps at h; subst h; simp [Reps.nil]
  | d :: ds, vs, 0, h => by obtain ⟨v, r, rfl, h1, h2⟩ := h.uncons; simpa using h2
  | d :: ds, vs, q + 1, h => by obtain ⟨v, r, rfl, h1, h2⟩ := h.uncons; simpa using Reps.cons h1 (Reps.erase q h2)
theorem ws_popAt {i j : Nat} (h : PS X st (tAsg (tBM X.K "list" rPopAt (tVar i) (tCons (tWD c f) tNil)) (gName j))) : PS X st (tWS c (wPopAt j i f)) := PS.imp h fun D σ H ⟨G, ρ, k, E, s, sr, ⟨ds, hi, h⟩, ok, x⟩ => by
  obtain ⟨v, hv, p, vs, rfl, h0, np, hq, rs⟩ := sr.get hi
  refine ⟨_, hv, .inl ⟨rfl, vs, .inl (.inl hq)⟩, inSD s sr x h fun r pr y G' H' s' s2 rr sr' => ?_⟩
  obtain ⟨n, q, d, e1, n1, n2, hs, hd, hk⟩ := pr
  rw [e1] at rr
  obtain ⟨hq', np'⟩ := s2.frame p _ hq np
  obtain ⟨w, hw, rw_⟩ := rs.get hd
  refine ⟨p, vs, n, q, w, rfl, by rw [rr.int_], hq', n1, n2, by rw [rs.vlen]; exact hs, hw, ?_⟩
  obtain ⟨s3, sr3⟩ := sr'.mut c.jo s' hi hv hq' h0 np' ((Reps.mono s2.le _ _ rs).erase q)
  exact ok.nx _ hk _ _ _ s2.le s3 (sr3.setVal j (Rep.mono s2.le _ _ rw_))
/-- x[e] = e2 -/
def wStore (i : Nat) (fv fi : WE) : WS := fun k E ρ => fv ρ (fun rv => ∃ ds, ρ[i]? = some (some (.own ds)) ∧ fi ρ (fun r => ∃ n q, r.toD = .int n ∧ ixN ds.length n = some q ∧ k.nx (ρ.set i (some (.own (ds.set q rv.toD))))) E) E

/-! ### targets of any form, two and three names at once -/
def wAsg (f : WE) (g : WG) : WS := fun k E ρ => f ρ (fun r => g r.toD ρ k.nx) E
theorem ws_asg {g : WG} {sl : List Nat} (he : PE X e (tWE c f)) (hg : PG X tg (tWG c sl g)) (hs : swapsWithSole [tg] e pos.line X.env = pure false := by rfl) (hw : swappedStores [tg] e X.env = pure none := by rfl)
    (h1 : (assignEach [tg] X.env).map (·.2) = [assign tg X.env] := by rfl) : PS X (.Assign [tg] e pos) (tWS c (wAsg f g)) := PS.imp (ps_asg (pdD he) hg hs hw h1) fun D σ H ⟨G, ρ, k, E, s, sr, h, ok, x⟩ =>
  inSD s sr x h fun r pr y G' H' s' s2 rr sr' => ⟨G', ρ, _, _, s'.coh, sr', rr, pr, fun ρ' p' σ' sr3 _ => ok.nx _ p' _ _ _ s2.le s' sr3⟩
/-- a result frozen -/
def wVal (f : WE) : WE := fun ρ P E => f ρ (fun r => P (.val r.toD)) E
theorem pd_val (h : PE X e (tWE c f)) : PE X e (tWE c (wVal f)) := PE.imp (pdD h) fun σ H Q ⟨G, ρ, P, E, co, sr, h, hp, hx⟩ => ⟨G, ρ, _, E, co, sr, h, fun r pr v G' H' st rr => hp _ pr v G' H' st rr, hx⟩
theorem RepR.ref {Hf H : Hp} {G : Gh} {v : V} : ∀ {r : R}, RepR Hf G H v r → r.isOwn = true → ∃ p x, v = V.ref p ∧ Hf p = none ∧ H p = some x ∧ G p = none
  | .val d, _, o => by cases o
  | .own ds, ⟨p, vs, e, f, n, q, r⟩, _ => ⟨p, _, e, f, q, n⟩
  | .ownd false ds, ⟨p, vs, e, f, n, q, r⟩, _ => ⟨p, _, e, f, q, n⟩
  | .ownd true ds, ⟨p, vs, e, f, n, q, r⟩, _ => ⟨p, _, e, f, q, n⟩
/-- a new result into a slot -/
theorem SRep.setNew {H0 Hb H : Hp} {G Gb : Gh} {σ : L2.St} {ρ : Rho} {i : Nat} {v : V} {r : R} (sb : SRep H0 Gb Hb σ ρ) (s : SRep H0 G H σ ρ) (h : RepR H0 G H v r) (fr : r.isOwn = true → ∀ p, v = V.ref p → Hb p = none) : SRep H0 G H (σ.set i (some v)) (ρ.set i (some r)) :=
  s.setR i h fun o j r' _ hr' o' hv => by
    obtain ⟨p, x, rfl, _⟩ := h.ref o
    obtain ⟨y, hy⟩ := sb.ownAt hr' o' hv
    rw [fr o p rfl] at hy; cases hy
/-- a, b = x, y -/
def wPar (i j : Nat) (fa fb : WE) : WS := fun k E ρ => fa ρ (fun r1 => fb ρ (fun r2 => k.nx ((ρ.set i (some r1)).set j (some r2))) E) E
theorem ws_par {i j : Nat} (h : PS X st (tPar i j (tCons (tWE c fa) (tCons (tWE c fb) tNil)))) : PS X st (tWS c (wPar i j fa fb)) := PS.imp h fun D σ H ⟨G, ρ, k, E, s, sr, h, ok, x⟩ =>
  inS s sr x h fun r1 p1 v1 G1 H1 s1 t1 rr1 sr1 => inS s1 sr1 x p1 fun r2 p2 v2 G2 H2 s2 t2 rr2 sr2 => by
    refine ⟨v1, v2, rfl, ok.nx _ p2 _ _ _ (t1.le.trans t2.le) s2 ?_⟩
    have a1 := sr.setNew (i := i) sr2 ((rr1.back c.jo s).step t2) fun o p e => by
      obtain ⟨p', _, e', f', _⟩ := rr1.ref o; rw [e] at e'; cases e'; exact f'
    refine SRep.setR a1 j (rr2.back c.jo s1) fun o m r' hm hr' o' hv => ?_
    obtain ⟨p, x2, rfl, f2, q2, n2⟩ := rr2.ref o
    by_cases him : i = m
    · subst him
      rw [List.getElem?_set, if_pos rfl] at hr' hv
      split at hr' <;> cases hr'
      split at hv <;> cases hv
      obtain ⟨p', x', e', _, q', _⟩ := rr1.ref o'
      cases e'
      rw [f2] at q'; cases q'
    · rw [List.getElem?_set_ne him] at hr' hv
      obtain ⟨y, hy⟩ := sr1.ownAt hr' o' hv
      rw [f2] at hy; cases hy
/-- a, b, c = x, y, z: results frozen -/
def wPar3 (i j l : Nat) (fs : List WE) : WS := fun k E ρ => wArgs fs ρ [] (fun ds => ∃ a b d, ds = [a, b, d] ∧ k.nx (((ρ.set i (some (.val a))).set j (some (.val b))).set l (some (.val d)))) E
theorem argsS {fs : List WE} {σ : L2.St} {H : Hp} {G : Gh} {ρ : Rho} {P : List D → Prop} {E : XP} {Q : List V → Hp → Prop} (s : Step c.J c.G0 c.H0 G H) (sr : SRep c.H0 G H σ ρ) (x : XA c E) (h : wArgs fs ρ [] P E)
    (k : ∀ ds, P ds → ∀ vs G' H', Step c.J c.G0 c.H0 G' H' → Step c.J G H G' H' → Reps G' ds vs → SRep c.H0 G' H' σ ρ → Q vs H') : tWA c fs σ H Q :=
  args s.coh sr (x.q s) h fun ds pd _ vs G' H' st rs _ sr' _ => k ds pd vs G' H' (s.trans st) st rs sr'
theorem ws_par3 {i j l : Nat} {fs : List WE} (h : PS X st (tPar3 i j l (tWA c fs))) : PS X st (tWS c (wPar3 i j l fs)) := PS.imp h fun D σ H ⟨G, ρ, k, E, s, sr, h, ok, x⟩ =>
  argsS s sr x h fun ds pd vs G' H' s' s2 rs sr' => by
    obtain ⟨a, b, d, rfl, hk⟩ := pd
    obtain ⟨v, r, rfl, rv, rr⟩ := rs.uncons
    obtain ⟨w, w', rfl, rw_, rz⟩ := rr.two
    exact ⟨v, w, w', rfl, ok.nx _ hk _ _ _ s2.le s' (((sr'.setVal i rv).setVal j rw_).setVal l rz)⟩
theorem Rep.lst_ {G : Gh} {xs : List D} {v : V} (h : Rep G (.lst xs) v) : ∃ a vs, v = .ref a ∧ G a = some (.lst vs) ∧ Reps G xs vs := by unfold Rep at h; exact h
/-- x[i] = e, x an owned list -/
theorem ws_store {i : Nat} (h : PS X st (tAsg (tWD c fa) (gSub (tVar i) (tWD c fb) rSetL))) : PS X st (tWS c (wStore i fa fb)) := PS.imp h fun D σ H ⟨G, ρ, k, E, s, sr, h, ok, x⟩ => by
  refine inSD s sr x h fun r1 p1 v1 G1 H1 s1 t1 rr1 sr1 => ?_
  obtain ⟨ds, hi, p1⟩ := p1
  obtain ⟨v, hv, p, vs, rfl, h0, np, hq, rs⟩ := sr1.get hi
  refine ⟨_, hv, inSD s1 sr1 x p1 fun r pr y G' H' s' s2 rr sr' => ?_⟩
  obtain ⟨n, q, e1, hs, hk⟩ := pr
  rw [e1] at rr
  obtain ⟨hq', np'⟩ := s2.frame p _ hq np
  refine ⟨p, vs, n, q, rfl, rr.int_, hq', by rw [rs.vlen]; exact hs, ?_⟩
  obtain ⟨s3, sr3⟩ := sr'.mut c.jo s' hi hv hq' h0 np' (Reps.set (Rep.mono s2.le _ _ rr1) q (Reps.mono s2.le _ _ rs))
  exact ok.nx _ hk _ _ _ (t1.le.trans s2.le) s3 sr3
end
end PL
end
section
set_option Elab.async false
set_option linter.all false
set_option maxRecDepth 100000
set_option autoImplicit false
namespace PL
open PySem PySem.Spec L2
open PyProof.Rows hiding St

/-! ### defs -/
abbrev MW := List D → (R → Prop) → XP → Prop
/-- a def's promise: what it is worth -/
def spD (J : JT) (mg : Str → Option Value) (n : Nat) (m : MW) : Sp := fun vs H Q E => ∃ G ds P EX, Coh J G H ∧ Reps G ds vs ∧ ds.length = n ∧ m ds P EX ∧ (∀ r, P r → ∀ v G' H', Step J G H G' H' → RepR H G' H' v r → Q v H') ∧
  (∀ x, EX x → ∀ cls d G' H', Step J G H G' H' → XRep mg G' H' x cls d → E cls d H')
theorem spD_len {J : JT} {mg : Str → Option Value} {n : Nat} {m : MW} (vs : List V) (H : Hp) (Q : VK) (E : XK) (h : spD J mg n m vs H Q E) : vs.length = n := by
  obtain ⟨G, ds, P, EX, co, rs, hl, _⟩ := h
  rw [rs.vlen, hl]
def rho0 (n : Nat) (ds : List D) : Rho := ds.map (fun d => some (R.val d)) ++ List.replicate (n - ds.length) none
/-- a def's worth by its body's -/
def mOf (n : Nat) (body : WS) : MW := fun ds P EX => body { nx := fun _ => P (.val .non), rt := P, bk := fun _ => False, ct := fun _ => False } EX (rho0 n ds)
abbrev pcOf (J : JT) (jo : JOk J) (mg : Str → Option Value) (H : Hp) (G : Gh) (E : XK) : Pc := ⟨J, jo, mg, H, G, fun cls d _ H' => E cls d H'⟩
theorem srep0 {H0 H : Hp} {G : Gh} {N : List Str} {ds : List D} {vs : List V} (rs : Reps G ds vs) : SRep H0 G H (L2.start N vs) (rho0 N.length ds) := by
  have key : ∀ (i : Nat) (r : R), (rho0 N.length ds)[i]? = some (some r) → ∃ d, r = .val d ∧ ds[i]? = some d := fun i r h => by
    unfold rho0 at h
    by_cases hi : i < ds.length
    · rw [List.getElem?_append_left (by simpa using hi), List.getElem?_map, List.getElem?_eq_getElem hi] at h
      cases h
      exact ⟨_, rfl, List.getElem?_eq_getElem hi⟩
    · rw [List.getElem?_append_right (by simpa using hi)] at h
      rw [List.getElem?_replicate] at h
      split at h <;> cases h
  refine ⟨by unfold L2.start rho0; simp [rs.vlen], fun i r h => ?_, fun i j r r' p h h' o _ _ _ => ?_⟩
  · obtain ⟨d, rfl, hd⟩ := key i r h
    obtain ⟨v, hv, rv⟩ := rs.get hd
    have hl := (List.getElem?_eq_some_iff.mp hv).1
    refine ⟨v, ?_, rv⟩
    unfold L2.start
    rw [List.getElem?_append_left (by simpa using hl), List.getElem?_map, hv]; rfl
  · obtain ⟨d, rfl, _⟩ := key i r h
    cases o
/-- a def's promise, where what runs around is as p says -/
structure FnG (p : Around → Prop) (P : Program) (w : World) (K : PySem.W.Frag) (mg : Str → Option Value) (base : Heap) (CX : CXT) (k : Nat) (f : Addr) (fd : FuncData) (ps : List Str) (sp : Sp) : Prop where
  len : ∀ vs H Q E, sp vs H Q E → vs.length = ps.length
  run : ∀ (A : Around) (outer : List Env) (s : Shared) (H : Hp) (args : Args) (us : List Value) (vs : List V) (Q : VK) (E : XK), Room k A → p A → Env0 P w K mg base A outer s H → BindsTo s fd args (ps.zip us) → Vals vs us → sp vs H Q E →
    codeAny (model P w) A (.call (.ref f) args) (CR CX outer P w H s Q E) s
theorem FnG.mono {p : Around → Prop} {P : Program} {w : World} {K : PySem.W.Frag} {mg : Str → Option Value} {base : Heap} {CX : CXT} {j k : Nat} {f : Addr} {fd : FuncData} {ps : List Str} {sp : Sp} (F : FnG p P w K mg base CX j f fd ps sp) (h : j ≤ k) : FnG p P w K mg base CX k f fd ps sp :=
  ⟨F.len, fun A outer s H args us vs Q E hr hp => F.run A outer s H args us vs Q E (hr.mono h) hp⟩
theorem FnG.ok {P : Program} {w : World} {K : PySem.W.Frag} {mg : Str → Option Value} {base : Heap} {CX : CXT} {k : Nat} {f : Addr} {fd : FuncData} {ps : List Str} {sp : Sp} (F : FnG (fun _ => True) P w K mg base CX k f fd ps sp) : FnOk P w K mg base CX k f fd ps sp :=
  ⟨F.len, fun A outer s H args us vs Q E hr e0 hb r h => F.run A outer s H args us vs Q E hr trivial e0 hb r h⟩
theorem FnG.of {p : Around → Prop} {P : Program} {w : World} {K : PySem.W.Frag} {mg : Str → Option Value} {base : Heap} {CX : CXT} {k : Nat} {f : Addr} {fd : FuncData} {ps : List Str} {sp : Sp} (F : FnOk P w K mg base CX k f fd ps sp) : FnG p P w K mg base CX k f fd ps sp :=
  ⟨F.len, fun A outer s H args us vs Q E hr _ => F.run A outer s H args us vs Q E hr⟩
theorem FnG.imp {p : Around → Prop} {P : Program} {w : World} {K : PySem.W.Frag} {mg : Str → Option Value} {base : Heap} {CX : CXT} {k : Nat} {f : Addr} {fd : FuncData} {ps : List Str} {sp sp' : Sp} (F : FnG p P w K mg base CX k f fd ps sp) (i : ∀ vs H Q E, sp' vs H Q E → sp vs H Q E) : FnG p P w K mg base CX k f fd ps sp' :=
  ⟨fun vs H Q E h => F.len vs H Q E (i _ _ _ _ h), fun A outer s H args us vs Q E hr hp e0 hb r h => F.run A outer s H args us vs Q E hr hp e0 hb r (i _ _ _ _ h)⟩
/-- what a def's own frame keeps -/
def Keeps (p : Around → Prop) : Prop := ∀ A env, p A → p (A.deeper env)
section
variable {p : Around → Prop} {P : Program} {w : World} {K : PySem.W.Frag} {mg : Str → Option Value} {base : Heap} {J : JT} {jo : JOk J}
abbrev FnP (K : PySem.W.Frag) (x qual : Str) (st : Stmt) (f : Addr) (fd : FuncData) : Prop := FunD K x qual (defArgs st) (defBody st) (defScope st) [] [] f fd
theorem def_any {x qual : Str} {st : Stmt} {f : Addr} {fd : FuncData} {N ps : List Str} {k : Nat} {sp : Sp} {CX : CXT} (F : FnP K x qual st f fd) (S : FnScope N ps (defScope st)) (len : ∀ vs H Q E, sp vs H Q E → vs.length = ps.length) (kp : Keeps p)
    (hb : ∀ (cdv : Value) (A : Around) (outer : List Env) (s : Shared) (H : Hp) (vs : List V) (Q : VK) (E : XK), Room k (A.deeper (envOfC qual (defScope st) s.heap.objs.size f cdv)) → p (A.deeper (envOfC qual (defScope st) s.heap.objs.size f cdv)) → sp vs H Q E →
      ∃ t, PSs (cxOf CX P w K mg base N qual (defScope st) f cdv A outer s H E) (defBody st) t ∧ t { nx := fun _ H' => Q .non H', rt := Q } (L2.start N vs) H) : FnG p P w K mg base CX (k + 1) f fd ps sp := by
  obtain ⟨oc, od, dV, kV, doc, pm, an, cdv, ct, osl, rfl, lk, hcd, _, _⟩ := F.ex
  refine ⟨len, fun A outer s H args us vs Q E hr hp e0 hbd r h => ?_⟩
  exact LamX.run_ofS lk hcd S hr e0 hbd r (len _ _ _ _ h) fun hr' => hb cdv A outer s H vs Q E hr' (kp _ _ hp) h
/-- THE RULE for a def -/
theorem def_ok {x qual : Str} {st : Stmt} {f : Addr} {fd : FuncData} {N ps : List Str} {k : Nat} {body : WS} (F : FnP K x qual st f fd) (S : FnScope N ps (defScope st)) (kp : Keeps p)
    (hb : ∀ (cdv : Value) (A : Around) (outer : List Env) (s : Shared) (H : Hp) (E : XK) (G : Gh), Room k (A.deeper (envOfC qual (defScope st) s.heap.objs.size f cdv)) → p (A.deeper (envOfC qual (defScope st) s.heap.objs.size f cdv)) →
      PSs (cxOf (L2.CX P w) P w K mg base N qual (defScope st) f cdv A outer s H E) (defBody st) (tWS (pcOf J jo mg H G E) body)) : FnG p P w K mg base (L2.CX P w) (k + 1) f fd ps (spD J mg ps.length (mOf N.length body)) := by
  refine def_any F S (fun vs H Q E h => spD_len vs H Q E h) kp (fun cdv A outer s H vs Q E hr hpa h => ?_)
  obtain ⟨G, ds, PP, EX, co, rs, hl, hm, hp, hx⟩ := h
  refine ⟨_, hb cdv A outer s H E G hr hpa, ?_⟩
  refine ⟨G, rho0 N.length ds, _, EX, Step.refl co, srep0 rs, hm, ⟨fun ρ h σ G' H' _ s' _ => hp _ h _ G' H' s' rr_non, fun r h v G' H' _ s' rr => hp _ h v G' H' s' rr, fun _ h => h.elim, fun _ h => h.elim⟩, fun y hy cls d σ G' H' s' xr => hx y hy cls d G' H' s' xr⟩
end

section
variable {X : Cx} {c : Pc} {e : Expr} {pos : Pos} {p : Around → Prop}
theorem run_fnG {k : Nat} {f : Addr} {fd : FuncData} {ps : List Str} {sp : Sp} {E : L2.St → XK} {pins : List (Addr × Obj)} {σ : L2.St} {H : Hp} {s : Shared} {Q : VK} {us : List Value} {vs : List V} {CX : CXT} (F : FnG p X.prog X.w X.K X.mg X.base CX k f fd ps sp) (hr : Room k X.A) (hp : p X.A) (hb : Binds X.K fd ps []) (hx : PassesAt CX X σ (E σ))
    (I : Inv X pins σ H s) (r : Vals vs us) (h : sp vs H Q (E σ)) : wpAny (model X.prog X.w) X.A (call (.ref f) us) (EP X pins σ Q) X.xe s := by
  have hl : us.length = ps.length := by rw [← r.length]; exact F.len _ _ _ _ h
  have b := hb s us I.kIn (by rw [List.append_nil]; exact hl)
  rw [List.append_nil] at b
  refine wpAny_call (codeAny_mono (F.run X.A X.stack s H ⟨us, []⟩ us vs Q (E σ) hr hp I.env0 b r h) fun rr s' hq => ?_)
  match rr, hq with
  | .error e, hq => exact hx pins H s e s' I hq
  | .ok (.ret u), hq => exact I.after hq
theorem pe_callG {k : Nat} {f : Addr} {fd : FuncData} {ps : List Str} {sp : Sp} {E : L2.St → XK} {x : Str} {pp : Pos} {es : List Expr} {t : TA} {CX : CXT} (F : FnG p X.prog X.w X.K X.mg X.base CX k f fd ps sp) (hr : Room k X.A) (hp : p X.A) (hg : Gl X x) (hm : X.mg x = some (.ref f)) (hk : PySem.W.keepIn X.K (.ref f) = true) (hb : Binds X.K fd ps []) (hx : ∀ σ, PassesAt CX X σ (E σ))
    (ha : PA X (e :: es) t) (hdb : (x == ("__debug__" : Str)) = false) (he : starEach (e :: es) X.env = (false, eval e X.env) :: starEach es X.env) (hpl : (backTo pos (starEach es X.env)).any (·.1) = false) : PE X (.Call (.Name x pp) (e :: es) [] pos) (tCallS sp E t) := by
  constructor
  intro pins s σ H Q I h
  refine wpAny_Call_Name_kw (ld_glob I hg hm ?_ hdb)
  exact PySem.W.callWith_K (h₀ := X.base) I.ok.mod.kin hk (thn (ha.run pos pins s σ H _ I h) fun us s1 ⟨vs, H1, I1, r, q⟩ => ⟨I1.kIn, run_fnG F hr hp hb (hx σ) I1 r q⟩) he hpl
def wCall (m : MW) (fs : List WE) : WE := fun ρ P E => wArgs fs ρ [] (fun ds => m ds P E) E
theorem pd_call {k : Nat} {f : Addr} {fd : FuncData} {ps : List Str} {m : MW} {x : Str} {pp : Pos} {es : List Expr} {fs : List WE} (F : FnG p X.prog X.w X.K X.mg X.base (L2.CX X.prog X.w) k f fd ps (spD c.J c.mg ps.length m)) (hr : Room k X.A) (hp : p X.A) (hm : X.mg x = some (.ref f)) (hk : PySem.W.keepIn X.K (.ref f) = true)
    (hb : Binds X.K fd ps []) (tk : Takes X c.W) (ha : PA X (e :: es) (tWA c fs)) (hg : Gl X x := by rfl) (hl : fs.length = ps.length := by rfl) (hdb : (x == ("__debug__" : Str)) = false := by decide) (he : starEach (e :: es) X.env = (false, eval e X.env) :: starEach es X.env := by rfl) (hpl : (backTo pos (starEach es X.env)).any (·.1) = false := by rfl) :
    PE X (.Call (.Name x pp) (e :: es) [] pos) (tWE c (wCall m fs)) := by
  refine PE.imp (pe_callG (E := fun σ cls d H => c.W cls d σ H) F hr hp hg hm hk hb (fun σ => passAt tk σ) ha hdb he hpl) fun σ H Q ⟨G, ρ, PP, E, co, sr, h, hP, hx⟩ => ?_
  refine args co sr hx h fun ds pd hl2 vs G1 H1 st rs co1 sr1 hx1 => ?_
  exact ⟨G1, ds, PP, E, co1, rs, by rw [hl2, hl], pd, fun r pr v G' H' s2 rr => hP r pr v G' H' (st.trans s2) (rr.back c.jo st), fun y hy cls d G' H' s2 xr => hx1 y hy cls d G' H' s2 xr⟩
end
end PL
end
section
set_option Elab.async false
set_option linter.all false
set_option maxRecDepth 100000
set_option autoImplicit false
namespace PySem.SeqAt
open PySem PyProof.Rows
theorem call_tup_lt {A : Around} {s : Shared} {prog : Program} {w : World} {E : Value → Shared → Prop} {Q : Value → Shared → Prop} {l b : Addr} {items items2 : Array Value} {e r : Nat → Bool} (hl : s.heap.IsTuple l items) (hb : s.heap.IsTuple b items2)
    (he : ∀ j (h1 : j < items.size) (h2 : j < items2.size), EqAt A.in1 s items[j] items2[j] (e j)) (hr : ∀ j (h1 : j < items.size) (h2 : j < items2.size), e j = false → RcLt A.in1 s items[j] items2[j] (r j))
    (h : Q (.bool (firstLt e r (decide (items.size < items2.size)) (List.range (min items.size items2.size)))) s) : wpAny (model prog w) A (call (.builtin "tuple.__lt__") [.ref l, .ref b]) Q E s := by
  obtain ⟨⟨c1, d1, dat1, sl1⟩, ho, hc, n, hd⟩ := id hl
  obtain ⟨⟨c2, d2, dat2, sl2⟩, ho2, hc2, n2, hd2⟩ := id hb
  simp only at hc hd hc2 hd2
  subst hc hd hc2 hd2
  exact call_meets PySem.F.slot_tuple_lt ⟨_, ho, rfl⟩ PySem.F.entry_tuple_lt (PySem.F.args_tuple_lt_2 _ _) (tuple_ltAt l b items items2 n n2 d1 d2 sl1 sl2 e r) ⟨ho, ho2, he, hr, h⟩
end PySem.SeqAt
namespace PySem.W
open PySem PySem.SeqAt PyProof.Rows
section
variable {prog : Program} {w : World} {A : Around} {E : Value → Shared → Prop} {s : Shared}
theorem oneLt_tup {xs ys : List PyData} {a b : Value} {as bs : List Addr} {Q : Bool → Shared → Prop} (ra : Reads s.heap a (.tuple xs) as) (rb : Reads s.heap b (.tuple ys) bs) (hal : alikeAll xs ys = true)
    (hu : A.units + min (PyData.tuple xs).depth (PyData.tuple ys).depth < cLine) (hq : Q (dataLt (.tuple xs) (.tuple ys)) s) : wpAny (model prog w) A (oneLt' true a b) Q E s := by
  cases ra with
  | @tuple l o vs n _ as1 h1 h2 h3 h4 =>
    cases rb with
    | @tuple l' o' vs' n' _ bs1 k1 k2 k3 k4 =>
      have n1 : vs.size = xs.length := by simpa using ReadsAll.length _ _ _ h4
      have n2 : vs'.size = ys.length := by simpa using ReadsAll.length _ _ _ k4
      rw [dataLt_tuple, ← firstLt_toks xs ys hal, ← n1, ← n2] at hq
      rw [oneLt'_eq]
      simp only [if_true]
      refine wpAny_bind (wpAny_cRoomFor (room_here hu) ?_)
      refine wpAny_bind (wpAny_callSpecialIfBound?_slot (T := "tuple") ⟨_, h1, h2⟩ PySem.F.slot_tuple_lt (call_tup_lt (e := pairEq xs ys) (r := fun j => dataLt (xs.getD j .none) (ys.getD j .none)) ⟨_, h1, h2, _, h3⟩ ⟨_, k1, k2, _, k3⟩ (fun j j1 j2 => ?_) (fun j j1 j2 hj => ?_) ?_))
      · have := eqAt_alikeAll xs ys A.in1 s vs.toList vs'.toList _ _ h4 k4 hal (room_in hu) j (by simpa using j1) (by simpa using j2)
        simpa using this
      · have := rcLt_alikeAll xs ys A.in1 s vs.toList vs'.toList _ _ h4 k4 hal (room_in hu) j (by simpa using j1) (by simpa using j2) hj
        simpa using this
      · exact wpAny_truthy_bool hq
theorem kk_mapM {α β : Type} {M : Model} {R : α → β → Prop} {f : α → Sem β} : ∀ (l : List α) {Q : List β → Shared → Prop}, (∀ v ∈ l, ∃ r, R v r ∧ ∀ (Q' : β → Shared → Prop), Q' r s → wpAny M A (f v) Q' E s) → (∀ rs, EachIs R l rs → Q rs s) → wpAny M A (l.mapM f) Q E s
  | [], _, _, h => by rw [List.mapM_nil]; exact wpAny_pure (h [] .nil)
  | x :: l, Q, hf, h => by
    rw [List.mapM_cons]
    obtain ⟨r, hr, go⟩ := hf x (.head _)
    refine wpAny_bind (go _ (wpAny_bind (kk_mapM l (fun v hv => hf v (.tail _ hv)) fun rs hrs => wpAny_pure ?_)))
    exact h _ (.cons hr hrs)
theorem each_at {α β : Type} {R : α → β → Prop} {l : List α} {m : List β} (e : EachIs R l m) : ∀ (i : Nat) (v : α), l[i]? = some v → ∃ r, m[i]? = some r ∧ R v r := by
  induction e with
  | nil => intro i v h; simp at h
  | cons a t ih =>
    intro i v h
    cases i with
    | zero => simp at h; subst h; exact ⟨_, by simp, a⟩
    | succ i => simp at h; obtain ⟨r, h1, h2⟩ := ih i v h; exact ⟨r, by simpa using h1, h2⟩
theorem kind_tups {M : Model} {v1 v2 : Value} {vs : List Value} {Q : SortKind → Shared → Prop} (hv : ∀ v ∈ v1 :: v2 :: vs, ∃ xs as, Reads s.heap v (.tuple xs) as) (hne : ∃ v ∈ v1 :: v2 :: vs, ∃ as, Reads s.heap v (.tuple []) as)
    (hg : (∃ x r as, Reads s.heap v1 (.tuple (x :: r)) as) → Q general' s) (ho : (∃ as, Reads s.heap v1 (.tuple []) as) → Q oneType' s) : wpAny M A (keyKind' (v1 :: v2 :: vs).toArray) Q E s := by
  rw [kat_kind_eq, List.mapM_toArray, map_eq_pure_bind]
  refine wpAny_bind (wpAny_bind (kk_mapM (R := fun v (r : Option Value) => ∀ xs as, Reads s.heap v (.tuple xs) as → (r = none ↔ xs = [])) (v1 :: v2 :: vs) (fun v hm => ?_) fun rs hrs => wpAny_pure ?_))
  · obtain ⟨xs, as, r⟩ := hv v hm
    cases r with
    | @tuple l o its n _ as1 h1 h2 h3 h4 =>
      refine ⟨its[0]?, fun xs' as' r' => ?_, fun Q' hq => ?_⟩
      · cases r' with
        | @tuple _ o' its' n' _ as2 k1 k2 k3 k4 =>
          rw [h1] at k1; cases k1
          rw [h3] at k3; cases k3
          have := SeqAt.ReadsAll.length _ _ _ k4
          simp only [Array.length_toList] at this
          rw [Array.getElem?_eq_none_iff]
          constructor
          · intro z; exact List.eq_nil_of_length_eq_zero (by omega)
          · intro z; subst z; simp only [List.length_nil] at this; omega
      · rw [kas_first_eq]
        refine wpAny_bind (Looks.here (show Looks M s.heap (typeOf (.ref l)) o.cls from (Looks.ld h1).andThen .now) ?_)
        rw [h2, if_neg (by first | decide | simp)]
        exact wpAny_bind (listItems_at h1 h3 (wpAny_pure hq))
  · obtain ⟨v0, m0, as0, r0⟩ := hne
    have hall : ¬ (rs.toArray.all fun x => x.isSome) = true := by
      rw [List.all_toArray, List.all_eq_true]
      intro h
      obtain ⟨i, hi, ei⟩ := List.getElem_of_mem m0
      obtain ⟨r, hr, q⟩ := each_at hrs i v0 (by rw [List.getElem?_eq_getElem hi, ei])
      have := h r (List.mem_of_getElem? hr)
      rw [(q _ _ r0).mpr rfl] at this
      cases this
    rw [if_neg hall]
    obtain ⟨r1, hr1, q1⟩ := each_at hrs 0 v1 (by simp)
    obtain ⟨xs1, as1, rd1⟩ := hv v1 (.head _)
    have e0 : rs.toArray[0]? = some r1 := by simpa using hr1
    rw [e0]
    cases xs1 with
    | cons x r =>
      have : r1 ≠ none := fun z => by have := (q1 _ _ rd1).mp z; cases this
      rw [if_pos (by cases r1 with | none => exact absurd rfl this | some _ => rfl)]
      exact wpAny_pure (hg ⟨x, r, as1, rd1⟩)
    | nil =>
      rw [(q1 _ _ rd1).mpr rfl, if_neg (by decide)]
      rw [oneTypeOnly'_eq, List.mapM_toArray, map_eq_pure_bind]
      refine wpAny_bind (wpAny_bind (wpAny_bind (kas_mapM (r := Value.type "tuple") _ (fun v hm Q' hq => ?_) (wpAny_pure ?_))))
      · obtain ⟨xs, as, r⟩ := hv v hm
        exact (looks_reads r).here hq
      · have hall2 : ((List.map (fun _ => Value.type "tuple") (v1 :: v2 :: vs)).toArray.all fun x => x == Value.type "tuple") = true := by
          simp only [List.all_toArray, List.all_map, List.all_eq_true]
          intro _ _
          rfl
        have h0 : (List.map (fun _ => Value.type "tuple") (v1 :: v2 :: vs)).toArray[0]? = some (Value.type "tuple") := by simp
        rw [h0]
        simp only [hall2, if_true]
        exact wpAny_pure (wpAny_pure (ho ⟨as1, rd1⟩))
theorem keyLt_general (x y : Value) : keyLt' general' x y = oneLt' false x y := rfl
/-- tuples of whatever lengths can be sorted -/
theorem SortsAt.tups {vs : List Value} {ds : List PyData} (e : EachIs (fun v d => ∃ as, Reads s.heap v d as) vs ds) (hal : AllAlike ds) (ht : ∀ d, d ∈ ds → ∃ xs, d = .tuple xs) (hu : ∀ d, d ∈ ds → A.units + d.depth < cLine) : SortsAt prog w A s (dataKind s.heap ds) vs := by
  by_cases hk : ∀ d, d ∈ ds → ∃ x r, d = .tuple (x :: r)
  · exact SortsAt.data e hal (.inl hk) hu
  have room : ∀ {d d' : PyData}, d ∈ ds → A.units + min d.depth d'.depth < cLine := fun {d d'} hd => Nat.lt_of_le_of_lt (Nat.add_le_add_left (Nat.min_le_left _ _) _) (hu d hd)
  have keys : ∀ v, v ∈ vs → ∃ a, (dataKind s.heap ds).keyOf v = some a := fun v hv => by
    obtain ⟨d, hd, as, r⟩ := e.left v hv
    exact ⟨_, dataKind_some hal hd r⟩
  have hgen : H.LtAt prog w A s (dataKind s.heap ds) general' := fun E x y a b Q ha hb hq => by
    obtain ⟨d, as, hd, ra, rfl⟩ := dataKind_inv ha
    obtain ⟨d', as', hd', rb, rfl⟩ := dataKind_inv hb
    obtain ⟨xs, rfl⟩ := ht d hd
    rw [keyLt_general]
    exact oneLt_alike (fun z => by cases z) ra rb (hal _ hd d' hd') (by intro z; cases z) (room hd) hq
  have hone : H.LtAt prog w A s (dataKind s.heap ds) oneType' := fun E x y a b Q ha hb hq => by
    obtain ⟨d, as, hd, ra, rfl⟩ := dataKind_inv ha
    obtain ⟨d', as', hd', rb, rfl⟩ := dataKind_inv hb
    obtain ⟨xs, rfl⟩ := ht d hd
    obtain ⟨ys, rfl⟩ := ht d' hd'
    rw [keyLt'_oneType]
    exact oneLt_tup ra rb (by have := hal _ hd _ hd'; simpa [alike] using this) (room hd) hq
  match vs, ds, e with
  | [], _, _ => exact ⟨keys, general', hgen, fun h2 => absurd h2 (by simp)⟩
  | [_], _, _ => exact ⟨keys, general', hgen, fun h2 => absurd h2 (by simp)⟩
  | v1 :: v2 :: vs, ds, e =>
    have hv : ∀ v ∈ v1 :: v2 :: vs, ∃ xs as, Reads s.heap v (.tuple xs) as := fun v hm => by
      obtain ⟨d, hd, as, r⟩ := e.left v hm
      obtain ⟨xs, rfl⟩ := ht d hd
      exact ⟨xs, as, r⟩
    have hne : ∃ v ∈ v1 :: v2 :: vs, ∃ as, Reads s.heap v (.tuple []) as := by
      have : ∃ d, d ∈ ds ∧ d = .tuple [] := by
        refine Classical.byContradiction fun hno => hk fun d hd => ?_
        obtain ⟨xs, rfl⟩ := ht d hd
        cases xs with
        | nil => exact absurd ⟨_, hd, rfl⟩ hno
        | cons x r => exact ⟨x, r, rfl⟩
      obtain ⟨d, hd, rfl⟩ := this
      obtain ⟨i, hi, ei⟩ := List.getElem_of_mem hd
      have hl := e.length
      have hi' : i < (v1 :: v2 :: vs).length := by rw [hl]; exact hi
      obtain ⟨d', h1, as, r⟩ := each_at e i _ (List.getElem?_eq_getElem hi')
      rw [List.getElem?_eq_getElem hi, ei] at h1
      cases h1
      exact ⟨_, List.getElem_mem hi', as, r⟩
    obtain ⟨xs1, as1, rd1⟩ := hv v1 (.head _)
    cases xs1 with
    | cons x r =>
      refine ⟨keys, general', hgen, fun _ E Q hq => kind_tups hv hne (fun _ => hq) fun ⟨as', rd'⟩ => ?_⟩
      exfalso
      cases rd1 with
      | @tuple l o its n _ _ h1 h2 h3 h4 =>
        cases rd' with
        | @tuple _ o' its' n' _ _ k1 k2 k3 k4 =>
          rw [h1] at k1; cases k1
          rw [h3] at k3; cases k3
          have a1 := SeqAt.ReadsAll.length _ _ _ h4
          have a2 := SeqAt.ReadsAll.length _ _ _ k4
          simp only [Array.length_toList, List.length_nil, List.length_cons] at a1 a2; omega
    | nil =>
      refine ⟨keys, oneType', hone, fun _ E Q hq => kind_tups hv hne (fun ⟨x', r', as', rd'⟩ => ?_) (fun _ => hq)⟩
      exfalso
      cases rd1 with
      | @tuple l o its n _ _ h1 h2 h3 h4 =>
        cases rd' with
        | @tuple _ o' its' n' _ _ k1 k2 k3 k4 =>
          rw [h1] at k1; cases k1
          rw [h3] at k3; cases k3
          have a1 := SeqAt.ReadsAll.length _ _ _ h4
          have a2 := SeqAt.ReadsAll.length _ _ _ k4
          simp only [Array.length_toList, List.length_nil, List.length_cons] at a1 a2; omega
/-- sorted(it): whatever is collected is data of one kind each place -/
theorem sorted_from {β : Type} {enc : β → PyData} {R : Value → β → Prop} {it : Value} {Q : Value → Shared → Prop}
    (h : wpAny (model prog w) A.in1 (collect it) (fun vs s1 => ∃ bs : List β, EachIs (fun v b => ∃ as, Reads s1.heap v (enc b) as) vs bs ∧ AllAlike (bs.map enc) ∧ ((∀ b ∈ bs, ∃ xs, enc b = .tuple xs) ∨ ∀ b ∈ bs, enc b ≠ .none ∧ ∀ xs, enc b ≠ .tuple xs) ∧ bs.length ≤ sizeLine ∧
      (∀ b ∈ bs, A.units + 2 + (enc b).depth < cLine) ∧ EachIs R vs bs ∧
      ∀ (s2 : Shared) (a : Addr) (c : Nat) (out : List Value), (∀ b o, s1.heap.get? b = some o → s2.heap.get? b = some o) → s2.gens = s1.gens → s2.os = s1.os → s1.heap.objs.size ≤ a → s2.heap.get? a = some (seqObj "list" out.toArray c) →
        EachIs R out (bs.mergeSort (dataLe false enc)) → Q (.ref a) s2) E s) : wpAny (model prog w) A (call (.builtin "sorted") [it]) Q E s := by
  refine call_function_entry_kw kind_sorted plain_sorted entry_sorted (args_sorted1 _) ?_
  unfold Builtin.«sorted»
  refine wpAny_bind (m := checkCount "sorted" 1 1 _) (wpAny_pure ?_)
  refine wpAny_bind (wpAny_mono h (fun vs s1 hh => ?_) fun _ _ e => e)
  obtain ⟨bs, er, hal, hk, hL, hu, eR, hq⟩ := hh
  have hvl : vs.length ≤ sizeLine := by rw [er.length]; exact hL
  refine wpAny_bind (wpAny_newList ?_ hvl)
  have ho : (s1.heap.push (seqObj "list" vs.toArray 0)).get? s1.heap.objs.size = some (seqObj "list" vs.toArray 0) := Heap.get?_push_size _ rfl
  refine wpAny_bind (wpAny_holding (wpAny_call_entry_kw slot_list_sort ⟨_, ho, rfl⟩ entry_list_sort ?body (args_list_sort _)))
  case body =>
    have k1 : ∀ b o, s1.heap.get? b = some o → (sortingHeap (s1.heap.push (seqObj "list" vs.toArray 0)) s1.heap.objs.size vs).get? b = some o := fun b o e => by
      have hlt := Heap.lt_size e
      unfold sortingHeap
      refine Heap.get?_push_of_some _ (Heap.get?_push_of_some _ ?_)
      rw [Heap.get?_update_other _ _ (Ne.symm (Nat.ne_of_lt hlt))]
      exact Heap.get?_push_of_some _ e
    have er' : EachIs (fun v b => ∃ as, Reads (sortingHeap (s1.heap.push (seqObj "list" vs.toArray 0)) s1.heap.objs.size vs) v (enc b) as) vs bs := er.mono fun _ _ ⟨as, r⟩ => ⟨as, PyProof.Rows.Reads.keeps k1 r⟩
    have fin := sortVals_data false eR er' hal
    have S : SortsAt prog w A.in1.in1 { s1 with heap := sortingHeap (s1.heap.push (seqObj "list" vs.toArray 0)) s1.heap.objs.size vs } (dataKind (sortingHeap (s1.heap.push (seqObj "list" vs.toArray 0)) s1.heap.objs.size vs) (bs.map enc)) vs := by
      have hu' : ∀ d, d ∈ bs.map enc → A.in1.in1.units + d.depth < cLine := fun d hd => by
        obtain ⟨b, hb, rfl⟩ := List.mem_map.mp hd
        have := hu b hb
        have h2 : A.in1.in1.units = A.units + 2 := rfl
        omega
      have em := each_map (R := fun v d => ∃ as, Reads (sortingHeap (s1.heap.push (seqObj "list" vs.toArray 0)) s1.heap.objs.size vs) v d as) enc er'
      rcases hk with hk | hk
      · exact SortsAt.tups (s := { s1 with heap := sortingHeap (s1.heap.push (seqObj "list" vs.toArray 0)) s1.heap.objs.size vs }) em hal (fun d hd => by obtain ⟨b, hb, rfl⟩ := List.mem_map.mp hd; exact hk b hb) hu'
      · exact SortsAt.data (s := { s1 with heap := sortingHeap (s1.heap.push (seqObj "list" vs.toArray 0)) s1.heap.objs.size vs }) em hal (.inr fun d hd => by obtain ⟨b, hb, rfl⟩ := List.mem_map.mp hd; exact hk b hb) hu'
    refine list_sort_vals (s := { s1 with heap := s1.heap.push (seqObj "list" vs.toArray 0) }) ho S hvl ?_
    obtain ⟨cc, hcc⟩ := PyProof.Rows.sortedHeap_at (vs := vs) (out := (sortVals (dataKind (sortingHeap (s1.heap.push (seqObj "list" vs.toArray 0)) s1.heap.objs.size vs) (bs.map enc)) false vs vs).toArray) ho
    refine ⟨_, rfl, wpAny_pure ⟨_, rfl, hq _ s1.heap.objs.size cc _ (fun b o e => ?_) rfl rfl (Nat.le_refl _) hcc fin⟩⟩
    have hlt := Heap.lt_size e
    show (PyProof.Rows.sortedHeap (s1.heap.push (seqObj "list" vs.toArray 0)) s1.heap.objs.size vs _).get? b = some o
    rw [PyProof.Rows.sortedHeap_old (Nat.ne_of_lt hlt) (by rw [PyProof.Rows.size_push']; exact Nat.lt_succ_of_lt hlt)]
    exact Heap.get?_push_of_some _ e
end
end PySem.W
end
section
set_option Elab.async false
set_option linter.all false
set_option maxRecDepth 100000
set_option autoImplicit false
namespace PySem.SeqAt
open PySem PyProof.Rows
theorem coll_seq {prog : Program} {w : World} {A : Around} {E : Value → Shared → Prop} {s : Shared} {Q : List Value → Shared → Prop} (it : Addr) {T : String} {o : Obj} {items : Array Value} {n : Nat} (hT : T = "list" ∨ T = "tuple")
    (ho : s.heap.get? it = some o) (hc : o.cls = .type T) (hd : o.data = .seq items n) (hsz : items.size ≤ sizeLine)
    (hQ : ∀ h', (∀ b u, s.heap.get? b = some u → h'.get? b = some u) → s.heap.objs.size ≤ h'.objs.size → Q items.toList { s with heap := h' }) : wpAny (model prog w) A (collect (.ref it)) Q E s := by
  unfold collect
  refine wpAny_bind (wpAny_runValue (codeAny_builtin F.entry_proto_collect ?_))
  rw [Around.under_plainId F.plain_proto_collect _]
  show wpAny _ A.in1 (newList [] >>= fun l => again (.builtin "list.__iadd__" ⟨[l, .ref it], []⟩)) _ _ s
  refine wpAny_bind (wpAny_newObj_type ?_)
  refine wpAny_pure ⟨plainId_quiet F.plain_list_iadd _, codeAny_builtin F.entry_list_iadd ?_⟩
  rw [Around.under_plainId F.plain_list_iadd _]
  let B : Obj := { cls := .type "list", data := .seq ([] : List Value).toArray }
  have hB : (s.heap.push B).get? s.heap.objs.size = some { cls := .type "list", data := .seq #[] 0 } := Heap.get?_push_size _ rfl
  have hB2 := Heap.get?_update_self (Obj.mapSeq (· ++ items)) hB rfl
  let h2 : Heap := (s.heap.push B).update s.heap.objs.size (Obj.mapSeq (· ++ items))
  have last : wpAny (model prog w) A (match Value.ref s.heap.objs.size with
      | Value.ref a => do
        match (← load a).data with
          | Data.seq xs _ => pure xs.toList
          | _ => unsupported "internal:collect"
      | _ => unsupported "internal:collect") Q E { s with heap := h2 } := by
    show wpAny _ A (load s.heap.objs.size >>= _) _ _ _
    refine wpAny_bind (wpAny_load hB2 (wpAny_pure ?_))
    have ee : ((#[] : Array Value) ++ items).toList = items.toList := by simp
    show Q ((#[] : Array Value) ++ items).toList _
    rw [ee]
    refine hQ _ (fun b u hb => (Heap.get?_update_other _ _ (Nat.ne_of_gt (Heap.lt_size hb))).trans (Heap.get?_push_of_some _ hb)) ?_
    show _ ≤ ((s.heap.push B).update s.heap.objs.size (Obj.mapSeq (· ++ items))).objs.size
    rw [Heap.size_update, PyProof.Rows.size_push']; exact Nat.le_succ _
  refine wpAny_mono (wpAny_extend_seq (hsz := hsz) (A := A) (R := fun r s' => r = .ok (.ret (.ref s.heap.objs.size)) ∧ s' = { s with heap := h2 }) (s := { s with heap := s.heap.push B }) _ it _ 0 hT hB (Heap.get?_push_of_some _ ho) hc hd ⟨rfl, rfl⟩) (fun fin s' h => ?_) (fun e s' h => absurd h.1 (by simp))
  cases fin with
  | done f =>
    obtain ⟨e, rfl⟩ := h
    cases e
    exact last
  | again c' => exact ⟨h.1, codeAny_mono h.2 fun r s'' hr => by obtain ⟨rfl, rfl⟩ := hr; exact last⟩
end PySem.SeqAt
namespace PL
open PySem PySem.Spec L2
open PyProof.Rows hiding St
/-- a new object beside what is kept -/
theorem newSome {X : Cx} {pins : List (Addr × Obj)} {σ : L2.St} {H : Hp} {s s' : Shared} {a : Addr} {ho : HO} (I : Inv X pins σ H s) (k : ∀ b u, s.heap.get? b = some u → s'.heap.get? b = some u) (g : s'.gens = s.gens) (o : s'.os = s.os) (hp : s.heap.objs.size ≤ a)
    (new : ObjOk X.prog X.w (upd H a ho) s'.heap a ho) : Inv X pins σ (upd H a ho) s' := by
  have J : Inv X pins σ (upd H a ho) { s with heap := s'.heap, gens := s'.gens, drawn := s'.drawn, toks := s'.toks } :=
    I.call (ch := []) (Un.laid k hp (I.hok.fresh hp)) (I.hok.laid k hp new) (by rw [g]; exact I.bare) (fun _ z => nomatch z)
  have e : s' = { s with heap := s'.heap, gens := s'.gens, drawn := s'.drawn, toks := s'.toks } := by
    cases s'
    cases s
    cases o
    rfl
  rw [e]; exact J

section
variable {X : Cx} {c : Pc} {e a b : Expr} {fa fb f : WE} {pos : Pos}
/-- a rule said of data at once -/
def rOf (c : Pc) (g : CallW) : List V → Hp → VK → Prop := fun vs H Q => ∃ G ds P, Coh c.J G H ∧ Reps G ds vs ∧ g ds P ∧ ∀ r, P r → ∀ v G' H', Step c.J G H G' H' → RepR H G' H' v r → Q v H'
theorem ok_rOf {g : CallW} : CallOk c (rOf c g) g := fun G H ds vs P Q co rs p k => ⟨G, ds, P, co, rs, p, k⟩
def rOf2 (c : Pc) (g : OpW) : R2 := fun x y H Q => ∃ G dx dy P, Coh c.J G H ∧ Rep G dx x ∧ Rep G dy y ∧ g dx dy P ∧ ∀ r, P r → ∀ v G' H', Step c.J G H G' H' → RepR H G' H' v r → Q v H'
theorem ok_rOf2 {g : OpW} : OpOk c (rOf2 c g) g := fun G H dx dy x y P Q co rx ry p k => ⟨G, dx, dy, P, co, rx, ry, p, k⟩

/-! ### len, list, tuple -/
def lenW : CallW := fun ds P => match ds with
  | [.lst xs] => P (.val (.int xs.length))
  | [.tup xs] => P (.val (.int xs.length))
  | [.dct _ kvs] => P (.val (.int kvs.length))
  | [.str x] => x.length ≤ sizeLine ∧ P (.val (.int x.length))
  | _ => False
abbrev rLenD (K : PySem.W.Frag) : List V → Hp → VK → Prop := fun vs H Q => (∃ p ys, vs = [.ref p] ∧ (SqL K H p ys ∨ SqT K H p ys) ∧ Q (.int ys.length) H) ∨ ((∃ a kvs, vs = [V.ref a] ∧ H a = some (.dK kvs) ∧ Q (.int kvs.length) H) ∨ (rLenT vs H Q ∨ (∃ z, vs = [.str z] ∧ z.length ≤ sizeLine ∧ Q (.int z.length) H)))
theorem cr_len : CallR X (.builtin "len") (rLenD X.K) := call_len_seq.or (call_lenD.or (call_len_dT.or call_len_str))
theorem RepK.len {G : Gh} : ∀ {kvs : List (D × D)} {es : List (Key × V)}, RepK G kvs es → kvs.length = es.length
  | [], es, h => by unfold RepK at h; subst h; rfl
  | (k, d) :: kvs, es, h => by unfold RepK at h; obtain ⟨_, _, r, rfl, _, _, h2⟩ := h; simp [RepK.len h2]
theorem RepT.len {G : Gh} : ∀ {kvs : List (D × D)} {es : List (List Key × V)}, RepT G kvs es → kvs.length = es.length
  | [], es, h => by unfold RepT at h; subst h; rfl
  | (k, d) :: kvs, es, h => by unfold RepT at h; obtain ⟨_, _, r, rfl, _, _, h2⟩ := h; simp [RepT.len h2]
theorem Rep.dct_ {J : JT} {G : Gh} {H : Hp} (co : Coh J G H) {t : Bool} {kvs : List (D × D)} {v : V} (h : Rep G (.dct t kvs) v) : ∃ a, v = .ref a ∧ ((t = false ∧ ∃ es, H a = some (.dK es) ∧ RepK G kvs es) ∨ (t = true ∧ ∃ es, H a = some (.dT es) ∧ RepT G kvs es)) := by
  cases t with
  | false =>
    unfold Rep at h
    obtain ⟨a, es, rfl, g, r⟩ := h
    exact ⟨a, rfl, .inl ⟨rfl, es, co a _ g, r⟩⟩
  | true =>
    unfold Rep at h
    obtain ⟨a, es, rfl, g, r⟩ := h
    exact ⟨a, rfl, .inr ⟨rfl, es, g.elim (fun g => co a _ g) (fun g => co a _ g), r⟩⟩
theorem ok_len : CallOk c (rLenD X.K) lenW := fun G H ds vs P Q co rs p k => by
  unfold lenW at p
  split at p
  · obtain ⟨v, rfl, rv⟩ := rs.one
    obtain ⟨a, us, rfl, h1, r1, _⟩ := rv.sqL co
    exact .inl ⟨a, us, rfl, .inl (.inl (.inl h1)), by rw [r1.vlen]; exact k _ p _ _ _ (Step.refl co) rr_int⟩
  · obtain ⟨v, rfl, rv⟩ := rs.one
    obtain ⟨a, us, rfl, h1, r1, _⟩ := rv.sqT (K := X.K) co
    exact .inl ⟨a, us, rfl, .inr h1, by rw [r1.vlen]; exact k _ p _ _ _ (Step.refl co) rr_int⟩
  · obtain ⟨v, rfl, rv⟩ := rs.one
    obtain ⟨a, rfl, h⟩ := rv.dct_ co
    rcases h with ⟨_, es, h1, r1⟩ | ⟨_, es, h1, r1⟩
    · exact .inr (.inl ⟨a, es, rfl, h1, by rw [← r1.len]; exact k _ p _ _ _ (Step.refl co) rr_int⟩)
    · exact .inr (.inr (.inl ⟨a, es, rfl, h1, by rw [← r1.len]; exact k _ p _ _ _ (Step.refl co) rr_int⟩))
  · obtain ⟨v, rfl, rv⟩ := rs.one
    exact .inr (.inr (.inr ⟨_, by rw [rv.str_], p.1, k _ p.2 _ _ _ (Step.refl co) rr_int⟩))
  · exact p.elim
def listW : CallW := fun ds P => match ds with
  | [.lst xs] => P (.own xs)
  | [.tup xs] => P (.own xs)
  | _ => False
theorem ok_list : CallOk c (fun xs H Q => ∃ p ys, xs = [.ref p] ∧ (SqL X.K H p ys ∨ SqT X.K H p ys) ∧ ∀ l, H l = none → Q (.ref l) (upd H l (.lst ys))) listW := fun G H ds vs P Q co rs p k => by
  unfold listW at p
  split at p
  · obtain ⟨v, rfl, rv⟩ := rs.one
    obtain ⟨a, us, rfl, h1, r1, _⟩ := rv.sqL co
    exact ⟨a, us, rfl, .inl (.inl (.inl h1)), fun l nl => k _ p _ _ _ (Step.newOwn c.jo co nl) (repR_own nl (co.fresh c.jo nl) r1)⟩
  · obtain ⟨v, rfl, rv⟩ := rs.one
    obtain ⟨a, us, rfl, h1, r1, _⟩ := rv.sqT (K := X.K) co
    exact ⟨a, us, rfl, .inr h1, fun l nl => k _ p _ _ _ (Step.newOwn c.jo co nl) (repR_own nl (co.fresh c.jo nl) r1)⟩
  · exact p.elim
def tupleW : CallW := fun ds P => match ds with
  | [.lst xs] => P (.val (.tup xs))
  | [.tup xs] => P (.val (.tup xs))
  | _ => False
theorem ok_tuple : CallOk c (fun xs H Q => ∃ p ys, xs = [.ref p] ∧ ((SqL X.K H p ys ∧ ∀ l, H l = none → Q (.ref l) (upd H l (.tup ys))) ∨ (SqT X.K H p ys ∧ Q (.ref p) H))) tupleW := fun G H ds vs P Q co rs p k => by
  unfold tupleW at p
  split at p
  · obtain ⟨v, rfl, rv⟩ := rs.one
    obtain ⟨a, us, rfl, h1, r1, _⟩ := rv.sqL co
    exact ⟨a, us, rfl, .inl ⟨.inl (.inl h1), fun l nl => k _ p _ _ _ (newTup c.jo co nl) (rep_tup (co.fresh c.jo nl) r1)⟩⟩
  · obtain ⟨v, rfl, rv⟩ := rs.one
    obtain ⟨a, us, rfl, h1, r1, g1⟩ := rv.sqT (K := X.K) co
    exact ⟨a, us, rfl, .inr ⟨h1, k _ p _ _ _ (Step.refl co) rv⟩⟩
  · exact p.elim

/-! ### sum, all, any, abs, int, max, min -/
def D.int? : D → Option Int
  | .int i => some i
  | _ => none
def D.bl? : D → Option Bool
  | .bl i => some i
  | _ => none
def intsOf (ds : List D) (ns : List Int) : Prop := ds = ns.map D.int
theorem Reps.ints {G : Gh} : ∀ {ns : List Int} {vs : List V}, Reps G (ns.map D.int) vs → vs = ns.map V.int
  | [], vs, h => by rw [List.map_nil] at h; unfold Reps at h; exact h
  | n :: ns, vs, h => by rw [List.map_cons] at h; obtain ⟨v, r, rfl, h1, h2⟩ := h.uncons; rw [h1.int_, Reps.ints h2, List.map_cons]
theorem Reps.bls {G : Gh} : ∀ {ns : List Bool} {vs : List V}, Reps G (ns.map D.bl) vs → vs = ns.map V.bl
  | [], vs, h => by rw [List.map_nil] at h; unfold Reps at h; exact h
  | n :: ns, vs, h => by rw [List.map_cons] at h; obtain ⟨v, r, rfl, h1, h2⟩ := h.uncons; rw [h1.bl_, Reps.bls h2, List.map_cons]
def sumW : CallW := fun ds P => ∃ ns : List Int, ds = [.lst (ns.map .int)] ∧ P (.val (.int ns.sum))
theorem ok_sum : CallOk c (rSum X.K) sumW := fun G H ds vs P Q co rs ⟨ns, e, p⟩ k => by
  subst e
  obtain ⟨v, rfl, rv⟩ := rs.one
  obtain ⟨a, us, rfl, h1, r1, _⟩ := rv.sqL co
  exact ⟨a, ns, rfl, by rw [← r1.ints]; exact .inl (.inl h1), k _ p _ _ _ (Step.refl co) rr_int⟩
def allW : CallW := fun ds P => ∃ ns : List Bool, ds = [.lst (ns.map .bl)] ∧ P (.val (.bl (ns.all id)))
def anyW : CallW := fun ds P => ∃ ns : List Bool, ds = [.lst (ns.map .bl)] ∧ P (.val (.bl (ns.any id)))
theorem ok_all : CallOk c (rAll X.K) allW := fun G H ds vs P Q co rs ⟨ns, e, p⟩ k => by
  subst e
  obtain ⟨v, rfl, rv⟩ := rs.one
  obtain ⟨a, us, rfl, h1, r1, _⟩ := rv.sqL co
  exact ⟨a, ns, rfl, by rw [← r1.bls]; exact .inl (.inl h1), k _ p _ _ _ (Step.refl co) rr_bl⟩
theorem ok_any : CallOk c (rAny X.K) anyW := fun G H ds vs P Q co rs ⟨ns, e, p⟩ k => by
  subst e
  obtain ⟨v, rfl, rv⟩ := rs.one
  obtain ⟨a, us, rfl, h1, r1, _⟩ := rv.sqL co
  exact ⟨a, ns, rfl, by rw [← r1.bls]; exact .inl (.inl h1), k _ p _ _ _ (Step.refl co) rr_bl⟩
def maxW : CallW := fun ds P => ∃ ns : List Int, ds = [.lst (ns.map .int)] ∧ 0 < ns.length ∧ ∀ m, m ∈ ns → (∀ y, y ∈ ns → y ≤ m) → P (.val (.int m))
def minW : CallW := fun ds P => ∃ ns : List Int, ds = [.lst (ns.map .int)] ∧ 0 < ns.length ∧ ∀ m, m ∈ ns → (∀ y, y ∈ ns → m ≤ y) → P (.val (.int m))
theorem ok_max : CallOk c (rMax X.K) maxW := fun G H ds vs P Q co rs ⟨ns, e, z, p⟩ k => by
  subst e
  obtain ⟨v, rfl, rv⟩ := rs.one
  obtain ⟨a, us, rfl, h1, r1, _⟩ := rv.sqL co
  exact ⟨a, ns, rfl, by rw [← r1.ints]; exact .inl (.inl h1), z, fun m h h' => k _ (p m h h') _ _ _ (Step.refl co) rr_int⟩
theorem ok_min : CallOk c (rMin X.K) minW := fun G H ds vs P Q co rs ⟨ns, e, z, p⟩ k => by
  subst e
  obtain ⟨v, rfl, rv⟩ := rs.one
  obtain ⟨a, us, rfl, h1, r1, _⟩ := rv.sqL co
  exact ⟨a, ns, rfl, by rw [← r1.ints]; exact .inl (.inl h1), z, fun m h h' => k _ (p m h h') _ _ _ (Step.refl co) rr_int⟩
def absW : CallW := fun ds P => ∃ i, ds = [.int i] ∧ P (.val (.int (if i < 0 then -i else i)))
theorem ok_abs : CallOk c (fun xs H Q => ∃ i, xs = [.int i] ∧ Q (.int (if i < 0 then -i else i)) H) absW := fun G H ds vs P Q co rs ⟨i, e, p⟩ k => by
  subst e; obtain ⟨v, rfl, rv⟩ := rs.one
  exact ⟨i, by rw [rv.int_], k _ p _ _ _ (Step.refl co) rr_int⟩
def intW : CallW := fun ds P => match ds with
  | [.int i] => P (.val (.int i))
  | [.bl b] => P (.val (.int (if b then 1 else 0)))
  | _ => False
theorem ok_int : CallOk c (fun xs H Q => (∃ i, xs = [.int i] ∧ Q (.int i) H) ∨ ∃ k, xs = [.bl k] ∧ Q (.int (if k then 1 else 0)) H) intW := fun G H ds vs P Q co rs p k => by
  unfold intW at p
  split at p
  · obtain ⟨v, rfl, rv⟩ := rs.one
    exact .inl ⟨_, by rw [rv.int_], k _ p _ _ _ (Step.refl co) rr_int⟩
  · obtain ⟨v, rfl, rv⟩ := rs.one
    exact .inr ⟨_, by rw [rv.bl_], k _ p _ _ _ (Step.refl co) rr_int⟩
  · exact p.elim
def min2W : CallW := fun ds P => ∃ i j, ds = [.int i, .int j] ∧ P (.val (.int (if j < i then j else i)))
theorem ok_min2 : CallOk c (fun xs H Q => ∃ i j, xs = [.int i, .int j] ∧ Q (.int (if j < i then j else i)) H) min2W := fun G H ds vs P Q co rs ⟨i, j, e, p⟩ k => by
  subst e; obtain ⟨v, v', rfl, rv, rv'⟩ := rs.two
  exact ⟨i, j, by rw [rv.int_, rv'.int_], k _ p _ _ _ (Step.refl co) rr_int⟩

/-! ### isinstance, of built-in classes -/
def tyD : D → String
  | .non => "NoneType"
  | .bl _ => "bool"
  | .int _ => "int"
  | .str _ => "str"
  | .tup _ => "tuple"
  | .lst _ => "list"
  | .dct _ _ => "dict"
  | .obj _ _ => ""
  | .raw _ _ _ => ""
theorem tyx {J : JT} {G : Gh} {H : Hp} {K : PySem.W.Frag} (co : Coh J G H) : ∀ {d : D} {v : V}, Rep G d v → (∀ t ds, d ≠ .obj t ds) → (∀ a b ds, d ≠ .raw a b ds) → TyX K H v (.type (tyD d))
  | .non, v, h, _, _ => by rw [h.non_]; exact .base .non
  | .bl _, v, h, _, _ => by rw [h.bl_]; exact .base (.bl _)
  | .int _, v, h, _, _ => by rw [h.int_]; exact .base (.int _)
  | .str _, v, h, _, _ => by rw [h.str_]; exact .base (.str _)
  | .tup _, v, h, _, _ => by unfold Rep at h; obtain ⟨a, vs, rfl, g, _⟩ := h; exact .base (.tup (co a _ g))
  | .lst _, v, h, _, _ => by unfold Rep at h; obtain ⟨a, vs, rfl, g, _⟩ := h; exact .base (.lst (co a _ g))
  | .dct _ _, v, h, _, _ => by
    obtain ⟨a, rfl, h'⟩ := h.dct_ co
    rcases h' with ⟨_, es, h1, r1⟩ | ⟨_, es, h1, r1⟩
    · exact .base (.dK h1)
    · exact .base (.dT h1)
  | .obj t ds, v, h, n, _ => absurd rfl (n t ds)
  | .raw a b ds, v, h, _, n => absurd rfl (n a b ds)
def isiD (T : String) : D → Option Bool
  | .obj _ _ => none
  | .raw _ _ _ => none
  | d => kitB (tyD d) T
def wIsi (T : String) (f : WE) : WE := fun ρ P E => f ρ (fun r => ∃ b, isiD T r.toD = some b ∧ P (.val (.bl b))) E
theorem isiD_some {T : String} {d : D} {b : Bool} (h : isiD T d = some b) : (∀ t ds, d ≠ .obj t ds) ∧ (∀ a b ds, d ≠ .raw a b ds) ∧ kitB (tyD d) T = some b := by
  cases d with
  | obj t ds => unfold isiD at h; exact absurd h (by simp)
  | raw a b ds => unfold isiD at h; exact absurd h (by simp)
  | _ => exact ⟨(fun _ _ z => nomatch z), (fun _ _ _ z => nomatch z), h⟩
theorem pd_isi {T : String} {x : Str} {p p2 : Pos} (he : PE X e (tWE c f)) (hg : Gl X "isinstance") (hm : X.mg "isinstance" = none) (hg2 : Gl X x) (hm2 : X.mg x = none) (hv2 : bootBuiltins x = some (.type T)) (hn2 : x ≠ "__name__" := by decide) (hdb2 : (x == ("__debug__" : Str)) = false := by decide)
    (hv : bootBuiltins "isinstance" = some (.builtin "isinstance") := by decide +kernel) (s1 : starEach [e, .Name x p2] X.env = (false, eval e X.env) :: starEach [.Name x p2] X.env := by rfl) (s2 : starEach [.Name x p2] X.env = (false, eval (.Name x p2) X.env) :: starEach [] X.env := by rfl) (hpl : (backTo pos (starEach [.Name x p2] X.env)).any (·.1) = false := by rfl) :
    PE X (.Call (.Name "isinstance" p) [e, .Name x p2] [] pos) (tWE c (wIsi T f)) := by
  refine PE.imp (pe_callB call_isi hg hm hv (pa_cons (pdD he) (pa_cons (pe_bltn (v := .ty T) hg2 hm2 hv2 rfl hn2 hdb2) pa_nil s2) s1) (by decide) (by decide) s1 hpl) fun σ H Q ⟨G, ρ, P, E, co, sr, h, hp, hx⟩ => ?_
  refine opnd co sr hx h fun r pr v G1 H1 st rd co1 sr1 hx1 => ?_
  obtain ⟨b, hb, p⟩ := pr
  obtain ⟨n, n2, hk⟩ := isiD_some hb
  exact ⟨v, .ty T, _, _, b, rfl, .ty T, tyx co1 rd n n2, kit_ty hk, hp _ p _ _ _ st rr_bl⟩

/-! ### sorted -/
def alikes (ds : List D) : Prop := PySem.W.AllAlike (ds.map toP)
def sortW : CallW := fun ds P => ∃ xs, (ds = [.lst xs] ∨ ds = [.tup xs]) ∧ xs.all pl = true ∧ alikes xs ∧ ((∀ d ∈ xs, ∃ ys, d = .tup ys) ∨ ∀ d ∈ xs, toP d ≠ .none ∧ ∀ ys, toP d ≠ .tuple ys) ∧ (∀ d ∈ xs, dp d ≤ 60) ∧ P (.own (xs.mergeSort (PySem.W.dataLe false toP)))
theorem toP_tup (ys : List D) : toP (.tup ys) = .tuple (toPs ys) := by rw [toP]
theorem each_of {J : JT} {G : Gh} {X : Cx} {pins : List (Addr × Obj)} {σ : L2.St} {H : Hp} {s : Shared} (I : Inv X pins σ H s) (co : Coh J G H) : ∀ {ds : List D} {vs : List V} {us : List Value}, Reps G ds vs → Vals vs us → ds.all pl = true →
    PySem.W.EachIs (fun u d => ∃ v, RelV v u ∧ Rep G d v) us ds ∧ PySem.W.EachIs (fun u d => ∃ as, Reads s.heap u (toP d) as) us ds
  | [], vs, us, h, r, _ => by unfold Reps at h; subst h; cases r; exact ⟨.nil, .nil⟩
  | d :: ds, vs, us, h, r, q => by
    obtain ⟨v, rr, rfl, h1, h2⟩ := h.uncons
    cases r with
    | cons r1 r2 =>
      simp only [List.all_cons, Bool.and_eq_true] at q
      obtain ⟨a1, a2⟩ := each_of I co h2 r2 q.2
      obtain ⟨as, rd⟩ := Dp.reads I (toP d) v _ (Rep.dp co d v h1 q.1) r1
      exact ⟨.cons ⟨v, r1, h1⟩ a1, .cons ⟨as, rd⟩ a2⟩
theorem each_back {G : Gh} : ∀ {us : List Value} {ds : List D}, PySem.W.EachIs (fun u d => ∃ v, RelV v u ∧ Rep G d v) us ds → ∃ vs, Vals vs us ∧ Reps G ds vs
  | _, _, .nil => ⟨[], .nil, .nil⟩
  | _, _, .cons ⟨v, r, h⟩ t => let ⟨vs, r2, h2⟩ := each_back t; ⟨v :: vs, .cons r r2, .cons h h2⟩
theorem cr_sortD (hu : X.A.units + 64 < cLine) : CallR X (.builtin "sorted") (rOf c sortW) := by
  intro pins s σ H vs us Q I rv h
  obtain ⟨G, ds, P, co, rs, ⟨xs, hxs, hpl, hal, hk, hdp, hp⟩, k⟩ := h
  have main : ∀ (a : Addr) (T : String) (o : Obj) (its : Array Value) (n : Nat) (ws : List V), (T = "list" ∨ T = "tuple") → s.heap.get? a = some o → o.cls = .type T → o.data = .seq its n → Vals ws its.toList → Reps G xs ws → xs.length ≤ sizeLine → us = [.ref a] →
      wpAny (model X.prog X.w) X.A (call (.builtin "sorted") us) (EP X pins σ Q) X.xe s := by
    intro a T o its n ws hT ho hc hd rws rxs hlen eu
    subst eu
    have hsz : its.size ≤ sizeLine := by
      have := rws.length
      rw [← Array.length_toList, ← this, ← rxs.length]; exact hlen
    refine PySem.W.sorted_from (enc := toP) (R := fun u d => ∃ v, RelV v u ∧ Rep G d v) (PySem.SeqAt.coll_seq a hT ho hc hd hsz fun h' kp hle0 => ?_)
    obtain ⟨e1, e2⟩ := each_of I co rxs rws hpl
    refine ⟨xs, e2.mono fun _ _ ⟨as, r⟩ => ⟨as, PyProof.Rows.Reads.keeps kp r⟩, hal, ?_, hlen, fun b hb => ?_, e1, fun s2 p cc out k2 hg hos hle hp2 eo => ?_⟩
    · rcases hk with hk | hk
      · exact .inl fun b hb => by obtain ⟨ys, rfl⟩ := hk b hb; exact ⟨_, toP_tup ys⟩
      · exact .inr hk
    · have := hdp b hb
      show _ + (toP b).depth < _
      unfold dp at this
      omega
    · obtain ⟨vs', r', rp'⟩ := each_back eo
      have kall : ∀ b u, s.heap.get? b = some u → s2.heap.get? b = some u := fun b u e => k2 b u (kp b u e)
      have hf : H p = none := I.hok.fresh (Nat.le_trans hle0 hle)
      refine ⟨.ref p, upd H p (.lst vs'), newSome I kall hg hos (Nat.le_trans hle0 hle) ⟨?_, out, cc, r', hp2⟩, rfl, k _ hp _ _ _ (Step.newOwn c.jo co hf) (repR_own hf (co.fresh c.jo hf) rp')⟩
      rw [← rp'.length, List.length_mergeSort]; exact hlen
  rcases hxs with hxs | hxs
  · subst hxs
    obtain ⟨v, rfl, r1⟩ := rs.one
    obtain ⟨a, ws, rfl, h1, r2, _⟩ := r1.sqL co
    obtain ⟨its, rw_, hl, hz⟩ := I.list (.inl (.inl h1))
    obtain ⟨o, ho, hc, n, hd⟩ := id hl.isList
    obtain ⟨u, rfl, ru⟩ := vals1 rv
    cases ru
    exact main a "list" o its.toArray n ws (.inl rfl) ho hc hd rw_ r2 (by rw [r2.length]; exact hz) rfl
  · subst hxs
    obtain ⟨v, rfl, r1⟩ := rs.one
    obtain ⟨a, ws, rfl, h1, r2, _⟩ := r1.sqT (K := X.K) co
    obtain ⟨its, rw_, hl, hz⟩ := I.tuple h1
    obtain ⟨o, ho, hc, n, hd⟩ := id hl
    obtain ⟨u, rfl, ru⟩ := vals1 rv
    cases ru
    exact main a "tuple" o its.toArray n ws (.inr rfl) ho hc hd rw_ r2 (by rw [r2.length]; exact hz) rfl
end
end PL
end
section
set_option Elab.async false
set_option linter.all false
set_option maxRecDepth 100000
set_option autoImplicit false
namespace PL
open PySem PySem.Spec L2
open PyProof.Rows hiding St

/-! ### keys -/
def D.key? : D → Option Key
  | .int i => some (.inl i)
  | .str x => some (.inr x)
  | _ => none
def D.keysL : List D → Option (List Key)
  | [] => some []
  | d :: ds => match D.key? d, D.keysL ds with
    | some k, some ks => some (k :: ks)
    | _, _ => none
def D.keys? : D → Option (List Key)
  | .tup xs => D.keysL xs
  | _ => none
theorem key_some : ∀ {d : D} {k : Key}, D.key? d = some k → d = keyD k
  | .int i, k, h => by cases h; rfl
  | .str i, k, h => by cases h; rfl
  | .non, k, h => by cases h
  | .bl _, k, h => by cases h
  | .tup _, k, h => by cases h
  | .lst _, k, h => by cases h
  | .dct _ _, k, h => by cases h
  | .obj _ _, k, h => by cases h
  | .raw _ _ _, k, h => by cases h
theorem keysL_some : ∀ {ds : List D} {ks : List Key}, D.keysL ds = some ks → ds = ks.map keyD
  | [], ks, h => by cases h; rfl
  | d :: ds, ks, h => by
    unfold D.keysL at h
    split at h
    · rename_i k ks' h1 h2
      cases h
      rw [key_some h1, keysL_some h2, List.map_cons]
    · cases h
theorem keys_some {d : D} {ks : List Key} (h : D.keys? d = some ks) : d = .tup (ks.map keyD) := by
  cases d with
  | tup xs => unfold D.keys? at h; rw [keysL_some h]
  | _ => cases h
theorem eqv_key (a b : Key) : PyData.eqv (toP (keyD a)) (toP (keyD b)) = decide (a = b) := by
  cases a with
  | inl i => cases b with
    | inl j => simp [keyD, toP, PyData.eqv]; by_cases h : i = j <;> simp [h]
    | inr y => simp [keyD, toP, PyData.eqv]
  | inr x => cases b with
    | inl j => simp [keyD, toP, PyData.eqv]
    | inr y => simp [keyD, toP, PyData.eqv]; by_cases h : x = y <;> simp [h]
theorem eqvAll_key : ∀ (a b : List Key), PyData.eqvAll (toPs (a.map keyD)) (toPs (b.map keyD)) = decide (a = b)
  | [], [] => by simp [toPs, PyData.eqvAll]
  | [], y :: b => by simp [toPs, PyData.eqvAll]
  | x :: a, [] => by simp [toPs, PyData.eqvAll]
  | x :: a, y :: b => by
    simp only [List.map_cons, toPs, PyData.eqvAll, eqv_key, eqvAll_key a b, List.cons.injEq]
    by_cases h : x = y <;> by_cases h2 : a = b <;> simp [h, h2]
theorem eqv_keys (a b : List Key) : PyData.eqv (toP (.tup (a.map keyD))) (toP (.tup (b.map keyD))) = decide (a = b) := by
  rw [toP_tup, toP_tup, PyData.eqv, eqvAll_key]
def lookD (kvs : List (D × D)) (k : D) : Option D := (kvs.find? fun p => PyData.eqv (toP p.1) (toP k)).map (·.2)
def putD (kvs : List (D × D)) (k v : D) : List (D × D) :=
  if (kvs.any fun p => PyData.eqv (toP p.1) (toP k)) = true then kvs.map (fun p => if PyData.eqv (toP p.1) (toP k) = true then (p.1, v) else p) else kvs ++ [(k, v)]
def RelOD (G : Gh) : Option D → Option V → Prop
  | some d, some v => Rep G d v
  | none, none => True
  | _, _ => False
theorem RepK.look {G : Gh} (key : Key) : ∀ {kvs : List (D × D)} {es : List (Key × V)}, RepK G kvs es → RelOD G (lookD kvs (keyD key)) (valV es key)
  | [], es, h => by unfold RepK at h; subst h; trivial
  | (k, d) :: kvs, es, h => by
    unfold RepK at h
    obtain ⟨k', v, r, rfl, rfl, h1, h2⟩ := h
    by_cases e : k' = key
    · subst e; simp [lookD, valV, List.find?_cons, eqv_key]; exact h1
    · have := RepK.look key h2
      unfold lookD valV at this ⊢
      rw [List.find?_cons, List.find?_cons, eqv_key, decide_eq_false e]
      simpa [decide_eq_false e] using this
theorem RepT.look {G : Gh} (key : List Key) : ∀ {kvs : List (D × D)} {es : List (List Key × V)}, RepT G kvs es → RelOD G (lookD kvs (.tup (key.map keyD))) (valV es key)
  | [], es, h => by unfold RepT at h; subst h; trivial
  | (k, d) :: kvs, es, h => by
    unfold RepT at h
    obtain ⟨k', v, r, rfl, rfl, h1, h2⟩ := h
    by_cases e : k' = key
    · subst e; simp [lookD, valV, List.find?_cons, eqv_keys]; exact h1
    · have := RepT.look key h2
      unfold lookD valV at this ⊢
      rw [List.find?_cons, List.find?_cons, eqv_keys, decide_eq_false e]
      simpa [decide_eq_false e] using this
theorem RepK.any {G : Gh} (key : Key) : ∀ {kvs : List (D × D)} {es : List (Key × V)}, RepK G kvs es → (kvs.any fun p => PyData.eqv (toP p.1) (toP (keyD key))) = es.any fun kv => decide (kv.1 = key)
  | [], es, h => by unfold RepK at h; subst h; rfl
  | (k, d) :: kvs, es, h => by
    unfold RepK at h
    obtain ⟨k', v, r, rfl, rfl, h1, h2⟩ := h
    rw [List.any_cons, List.any_cons, eqv_key, RepK.any key h2]
theorem RepT.any {G : Gh} (key : List Key) : ∀ {kvs : List (D × D)} {es : List (List Key × V)}, RepT G kvs es → (kvs.any fun p => PyData.eqv (toP p.1) (toP (.tup (key.map keyD)))) = es.any fun kv => decide (kv.1 = key)
  | [], es, h => by unfold RepT at h; subst h; rfl
  | (k, d) :: kvs, es, h => by
    unfold RepT at h
    obtain ⟨k', v, r, rfl, rfl, h1, h2⟩ := h
    rw [List.any_cons, List.any_cons, eqv_keys, RepT.any key h2]
theorem RepK.snoc {G : Gh} {key : Key} {d : D} {v : V} (hd : Rep G d v) : ∀ {kvs : List (D × D)} {es : List (Key × V)}, RepK G kvs es → RepK G (kvs ++ [(keyD key, d)]) (es ++ [(key, v)])
  | [], es, h => by unfold RepK at h; subst h; simp only [List.nil_append]; unfold RepK; exact ⟨key, v, [], rfl, rfl, hd, by unfold RepK; rfl⟩
  | (k, d') :: kvs, es, h => by
    unfold RepK at h
    obtain ⟨k', v', r, rfl, rfl, h1, h2⟩ := h
    simp only [List.cons_append]; unfold RepK
    exact ⟨k', v', _, rfl, rfl, h1, RepK.snoc hd h2⟩
theorem RepT.snoc {G : Gh} {key : List Key} {d : D} {v : V} (hd : Rep G d v) : ∀ {kvs : List (D × D)} {es : List (List Key × V)}, RepT G kvs es → RepT G (kvs ++ [(.tup (key.map keyD), d)]) (es ++ [(key, v)])
  | [], es, h => by unfold RepT at h; subst h; simp only [List.nil_append]; unfold RepT; exact ⟨key, v, [], rfl, rfl, hd, by unfold RepT; rfl⟩
  | (k, d') :: kvs, es, h => by
    unfold RepT at h
    obtain ⟨k', v', r, rfl, rfl, h1, h2⟩ := h
    simp only [List.cons_append]; unfold RepT
    exact ⟨k', v', _, rfl, rfl, h1, RepT.snoc hd h2⟩
theorem RepK.upd {G : Gh} {key : Key} {d : D} {v : V} (hd : Rep G d v) : ∀ {kvs : List (D × D)} {es : List (Key × V)}, RepK G kvs es →
    RepK G (kvs.map fun p => if PyData.eqv (toP p.1) (toP (keyD key)) = true then (p.1, d) else p) (es.map fun kv => if kv.1 = key then (kv.1, v) else kv)
  | [], es, h => by unfold RepK at h; subst h; simp only [List.map_nil]; unfold RepK; rfl
  | (k, d') :: kvs, es, h => by
    unfold RepK at h
    obtain ⟨k', v', r, rfl, rfl, h1, h2⟩ := h
    simp only [List.map_cons, eqv_key, decide_eq_true_eq]
    have ih := RepK.upd hd h2 (key := key)
    by_cases e : k' = key
    · rw [if_pos e, if_pos e]; unfold RepK; exact ⟨k', v, _, rfl, rfl, hd, ih⟩
    · rw [if_neg e, if_neg e]; unfold RepK; exact ⟨k', v', _, rfl, rfl, h1, ih⟩
theorem RepT.upd {G : Gh} {key : List Key} {d : D} {v : V} (hd : Rep G d v) : ∀ {kvs : List (D × D)} {es : List (List Key × V)}, RepT G kvs es →
    RepT G (kvs.map fun p => if PyData.eqv (toP p.1) (toP (.tup (key.map keyD))) = true then (p.1, d) else p) (es.map fun kv => if kv.1 = key then (kv.1, v) else kv)
  | [], es, h => by unfold RepT at h; subst h; simp only [List.map_nil]; unfold RepT; rfl
  | (k, d') :: kvs, es, h => by
    unfold RepT at h
    obtain ⟨k', v', r, rfl, rfl, h1, h2⟩ := h
    simp only [List.map_cons, eqv_keys, decide_eq_true_eq]
    have ih := RepT.upd hd h2 (key := key)
    by_cases e : k' = key
    · rw [if_pos e, if_pos e]; unfold RepT; exact ⟨k', v, _, rfl, rfl, hd, ih⟩
    · rw [if_neg e, if_neg e]; unfold RepT; exact ⟨k', v', _, rfl, rfl, h1, ih⟩
theorem RepK.put {G : Gh} {key : Key} {d : D} {v : V} {kvs : List (D × D)} {es : List (Key × V)} (hd : Rep G d v) (h : RepK G kvs es) : RepK G (putD kvs (keyD key) d) (putK es key v) := by
  unfold putD putK
  rw [h.any key]
  split
  · exact RepK.upd hd h
  · exact RepK.snoc hd h
theorem RepT.put {G : Gh} {key : List Key} {d : D} {v : V} {kvs : List (D × D)} {es : List (List Key × V)} (hd : Rep G d v) (h : RepT G kvs es) : RepT G (putD kvs (.tup (key.map keyD)) d) (putK es key v) := by
  unfold putD putK
  rw [h.any key]
  split
  · exact RepT.upd hd h
  · exact RepT.snoc hd h

section
variable {X : Cx} {c : Pc} {e a b : Expr} {fa fb f : WE} {pos : Pos} {st : Stmt}
theorem kV_key (key : Key) {G : Gh} {v : V} (h : Rep G (keyD key) v) : v = kV key := by
  cases key with
  | inl i => exact h.int_
  | inr x => exact h.str_
theorem Reps.keys {G : Gh} : ∀ {ks : List Key} {vs : List V}, Reps G (ks.map keyD) vs → vs = ks.map kV
  | [], vs, h => by rw [List.map_nil] at h; unfold Reps at h; exact h
  | n :: ns, vs, h => by rw [List.map_cons] at h; obtain ⟨v, r, rfl, h1, h2⟩ := h.uncons; rw [kV_key n h1, Reps.keys h2, List.map_cons]
/-- what a dict answers -/
theorem dget {J : JT} {G : Gh} {H : Hp} (co : Coh J G H) {t : Bool} {kvs : List (D × D)} {k : D} {x y : V} (rx : Rep G (.dct t kvs) x) (ry : Rep G k y) (hk : (if t = true then (D.keys? k).isSome else (D.key? k).isSome) = true) :
    ∃ a o, x = .ref a ∧ DGet H a y o ∧ RelOD G (lookD kvs k) o := by
  obtain ⟨a, rfl, h⟩ := rx.dct_ co
  rcases h with ⟨rfl, es, h1, r1⟩ | ⟨rfl, es, h1, r1⟩
  · simp only [Bool.false_eq_true, if_false, Option.isSome_iff_exists] at hk
    obtain ⟨key, hk⟩ := hk
    have e := key_some hk; subst e
    rw [kV_key key ry]
    exact ⟨a, _, rfl, DGet.k h1, r1.look key⟩
  · simp only [if_true, Option.isSome_iff_exists] at hk
    obtain ⟨ks, hk⟩ := hk
    have e := keys_some hk; subst e
    obtain ⟨b, ws, rfl, hb, rb, gb⟩ := ry.sqT (K := default) co
    have hb' := co b _ gb
    rw [rb.keys] at hb'
    exact ⟨a, _, rfl, DGet.t h1 hb', r1.look ks⟩
def rDIn (neg : Bool) : R2 := fun y x H Q => ∃ a o, x = .ref a ∧ DGet H a y o ∧ Q (.bl (xor neg o.isSome)) H
theorem op_dIn (hu : X.A.units + 64 < cLine) : OpR X (compareOp .In) (rDIn false) := by
  intro pins s σ H y x u v Q I ry rx ⟨a, o, e, g, q⟩
  subst e
  cases rx
  simp only [Bool.false_xor] at q
  exact d_in (by omega) I g ry fun s3 I3 => ⟨.bl o.isSome, H, I3, rfl, q⟩
theorem op_dNotIn (hu : X.A.units + 64 < cLine) : OpR X (compareOp .NotIn) (rDIn true) := by
  intro pins s σ H y x u v Q I ry rx ⟨a, o, e, g, q⟩
  subst e
  cases rx
  simp only [Bool.true_xor] at q
  exact d_notIn (by omega) I g ry fun s3 I3 => ⟨.bl (!o.isSome), H, I3, rfl, q⟩
def inDW (neg : Bool) : OpW := fun k d P => ∃ t kvs, d = .dct t kvs ∧ (if t = true then (D.keys? k).isSome else (D.key? k).isSome) = true ∧ P (.val (.bl (xor neg (lookD kvs k).isSome)))
theorem RelOD.some {G : Gh} {o : Option D} {p : Option V} (h : RelOD G o p) : p.isSome = o.isSome := by
  cases o <;> cases p <;> first | rfl | exact h.elim
theorem ok_dIn {neg : Bool} : OpOk c (rDIn neg) (inDW neg) := fun G H dk dd y x P Q co ry rx ⟨t, kvs, e, hk, p⟩ k => by
  subst e
  obtain ⟨a, o, rfl, g, r⟩ := dget co rx ry hk
  refine ⟨a, o, rfl, g, ?_⟩
  rw [r.some]
  exact k _ p _ _ _ (Step.refl co) rr_bl
abbrev wInB (neg : Bool) : OpW := fun a b P => inW neg a b P ∨ inDW neg a b P
theorem op_inB (hu : X.A.units + 64 < cLine) : OpR X (compareOp .In) (fun x y H Q => rInP X.K false x y H Q ∨ rDIn false x y H Q) := (op_inP hu).or (op_dIn hu)
theorem op_notInB (hu : X.A.units + 64 < cLine) : OpR X (compareOp .NotIn) (fun x y H Q => rInP X.K true x y H Q ∨ rDIn true x y H Q) := (op_notInP hu).or (op_dNotIn hu)
theorem ok_inB {neg : Bool} : OpOk c (fun x y H Q => rInP X.K neg x y H Q ∨ rDIn neg x y H Q) (wInB neg) := OpOk.or ok_inP ok_dIn
/-- d[k] -/
def rIxD : R2 := fun x y H Q => ∃ a v, x = .ref a ∧ DGet H a y (some v) ∧ Q v H
theorem ix_dct (hu : X.A.units + 64 < cLine) : IxR X rIxD := by
  intro value slice pins s σ H x y v u Q inv rx ry ⟨a, w, e, g, q⟩ hs
  subst e
  cases rx
  have hT := dict_typeIs inv g
  unfold subscriptTail
  refine wpAny_bind ?_
  rw [getitemInPython_of_ne hT.not_modules]
  refine wpAny_bind (wpAny_specialOf hT PySem.F.slot_dict_getitem.lookup ?_)
  have last : wpAny (model X.prog X.w) X.A (subscripted slice false (.ref a) u) (fun r s3 => wpAny (model X.prog X.w) X.A (letTemporaryGo value (.ref a) r >>= fun _ => pure r) (EP X pins σ Q) X.xe s3) X.xe s := by
    rw [hs]
    exact wpAny_operating (d_getItem (by show X.A.units + 1 < cLine; omega) inv g ry fun w' s3 I3 rw' => wpAny_bind (wpAny_letTemporaryGo (wpAny_pure ⟨w, H, I3, rw', q⟩)))
  first
    | exact wpAny_pure (wpAny_bind last)
    | exact wpAny_bind (wpAny_pure (wpAny_bind last))
    | exact wpAny_bind last
end
end PL
end
section
set_option Elab.async false
set_option linter.all false
set_option maxRecDepth 100000
set_option autoImplicit false
namespace PL
open PySem PySem.Spec L2
open PyProof.Rows hiding St
/-- a tuple that stands is told -/
theorem tellTup {J : JT} {G : Gh} {H : Hp} {b : Addr} {vs : List V} (jo : JOk J) (co : Coh J G H) (h : H b = some (.tup vs)) : ∃ G', Step J G H G' H ∧ G' b = some (.tup vs) := by
  cases q : G b with
  | none =>
    refine ⟨gupd G b (.tup vs), ⟨GLe.upd q, Coh.add jo co q h, fun a o e nt z => ⟨e, ?_⟩, fun _ _ e => e⟩, gupd_same⟩
    rw [gupd_ne]
    · exact z
    · rintro rfl; rw [h] at e; cases e; exact nt vs rfl
  | some g =>
    refine ⟨G, Step.refl co, ?_⟩
    have x := co b g q
    cases g with
    | tup ws => rw [show H b = some (.tup ws) from x] at h; cases h; exact q
    | lst ws => rw [show H b = some (.lst ws) from x] at h; cases h
    | dK ws => rw [show H b = some (.dK ws) from x] at h; cases h
    | dT ws => rw [show H b = some (.dT ws) from x] at h; cases h
    | dF ws => rw [show H b = some (.dT ws) from x] at h; cases h
    | inv t ds => obtain ⟨o, e, nt⟩ := jo.dom x; rw [h] at e; cases e; exact absurd rfl (nt vs)
    | priv z => obtain ⟨o, e, nt⟩ := x; rw [h] at e; cases e; exact absurd rfl (nt vs)
    | code z => rw [show H b = some (LamX.CodeO b z) from x] at h; cases h
theorem rep_key {G : Gh} (k : Key) : Rep G (keyD k) (kV k) := by
  cases k with
  | inl i => exact rep_int i
  | inr x => exact rep_str x
theorem reps_keys {G : Gh} : ∀ ks : List Key, Reps G (ks.map keyD) (ks.map kV)
  | [] => .nil
  | k :: ks => .cons (rep_key k) (reps_keys ks)
theorem tellKeys {J : JT} {H : Hp} (jo : JOk J) : ∀ {es : List (List Key × V)} {bs : List Addr} {G : Gh} {kvs : List (D × D)}, Coh J G H → RepT G kvs es → IsKeys H es bs → ∃ G', Step J G H G' H ∧ Reps G' (kvs.map (·.1)) (bs.map V.ref)
  | [], bs, G, kvs, co, r, k => by
    cases k
    have := r.len
    cases kvs with
    | nil => exact ⟨G, Step.refl co, .nil⟩
    | cons => cases this
  | p :: es, bs, G, kvs, co, r, k => by
    cases k with
    | @cons _ b _ bs k1 k2 =>
      cases kvs with
      | nil => unfold RepT at r; cases r
      | cons kd kvs =>
        obtain ⟨k0, d0⟩ := kd
        unfold RepT at r
        obtain ⟨key, v, r', e, ek, h1, h2⟩ := r
        cases e
        obtain ⟨G1, s1, g1⟩ := tellTup jo co k1
        obtain ⟨G2, s2, r2⟩ := tellKeys jo s1.coh (RepT.mono s1.le _ _ h2) k2
        refine ⟨G2, s1.trans s2, .cons ?_ r2⟩
        subst ek
        show Rep _ (.tup _) _
        unfold Rep
        exact ⟨b, _, rfl, s2.le _ _ g1, reps_keys _⟩
section
variable {X : Cx} {c : Pc} {e a b : Expr} {fa fb f : WE} {pos : Pos} {st : Stmt}

/-! ### list(d) -/
def listDW : CallW := fun ds P => ∃ t kvs, ds = [.dct t kvs] ∧ P (.own (kvs.map (·.1)))
theorem cr_listD (hc : X.calm = true) : CallR X (.type "list") (rOf c listDW) := by
  intro pins s σ H vs us Q I rv ⟨G, ds, P, co, rs, ⟨t, kvs, e, p⟩, k⟩
  subst e
  obtain ⟨v, rfl, r1⟩ := rs.one
  obtain ⟨a, rfl, h⟩ := r1.dct_ co
  rcases h with ⟨rfl, es, h1, r2⟩ | ⟨rfl, es, h1, r2⟩
  · refine call_list_dK hc pins s σ H _ us Q I rv ⟨a, es, rfl, h1, fun q nq => k _ p _ _ _ (Step.newOwn c.jo co nq) (repR_own nq (co.fresh c.jo nq) ?_)⟩
    have key : ∀ {kvs : List (D × D)} {es : List (Key × V)}, RepK G kvs es → Reps G (kvs.map (·.1)) (es.map fun kv => kV kv.1) := by
      intro kvs
      induction kvs with
      | nil => intro es h; unfold RepK at h; subst h; exact .nil
      | cons kd kvs ih =>
        intro es h
        obtain ⟨k0, d0⟩ := kd
        unfold RepK at h
        obtain ⟨key, v, r', rfl, rfl, h1, h2⟩ := h
        exact .cons (rep_key key) (ih h2)
    exact key r2
  · refine call_list_dT hc pins s σ H _ us Q I rv ⟨a, es, rfl, .inl h1, fun q bs nq hk => ?_⟩
    obtain ⟨G', s', r3⟩ := tellKeys c.jo co r2 hk
    exact k _ p _ _ _ (s'.trans (Step.newOwn c.jo s'.coh nq)) (repR_own nq (s'.coh.fresh c.jo nq) r3)
abbrev listB : CallW := fun ds P => listW ds P ∨ listDW ds P
theorem cr_listB (hc : X.calm = true) : CallR X (.type "list") (fun vs H Q => (∃ p ys, vs = [.ref p] ∧ (SqL X.K H p ys ∨ SqT X.K H p ys) ∧ ∀ l, H l = none → Q (.ref l) (upd H l (.lst ys))) ∨ rOf c listDW vs H Q) := call_list_of.or (cr_listD hc)
theorem ok_listB : CallOk c (fun vs H Q => (∃ p ys, vs = [.ref p] ∧ (SqL X.K H p ys ∨ SqT X.K H p ys) ∧ ∀ l, H l = none → Q (.ref l) (upd H l (.lst ys))) ∨ rOf c listDW vs H Q) listB := CallOk.or ok_list ok_rOf

/-! ### list(range(..)), tuple(range(..)) -/
def wRg1 (f : WE) : Rho → (Int → Int → Prop) → XP → Prop := fun ρ P E => f ρ (fun r => ∃ n, r.toD = .int n ∧ P 0 n) E
def wRg2 (f g : WE) : Rho → (Int → Int → Prop) → XP → Prop := fun ρ P E => f ρ (fun r => g ρ (fun r' => ∃ i j, r.toD = .int i ∧ r'.toD = .int j ∧ P i j) E) E
def tWRg (c : Pc) (f : Rho → (Int → Int → Prop) → XP → Prop) : L2.St → Hp → (Int → Int → Hp → Prop) → Prop := fun σ H Q => ∃ G ρ P E, Coh c.J G H ∧ SRep c.H0 G H σ ρ ∧ f ρ P E ∧ (∀ i j, P i j → ∀ G' H', Step c.J G H G' H' → Q i j H') ∧ XQ c E G H σ
theorem PRg.imp {t t' : L2.St → Hp → (Int → Int → Hp → Prop) → Prop} (h : PRg X e t) (i : ∀ σ H Q, t' σ H Q → t σ H Q) : PRg X e t' := fun pins s σ H Q I q => h pins s σ H Q I (i σ H Q q)
theorem prg1D {p : Pos} (hg : Gl X "range") (hm : X.mg "range" = none) (ha : PE X a (tWE c fa)) (na : starEach [a] X.env = (false, eval a X.env) :: starEach [] X.env := by rfl) : PRg X (.Call (.Name "range" p) [a] [] pos) (tWRg c (wRg1 fa)) :=
  PRg.imp (prg_1 hg hm (pdD ha) na) fun σ H Q ⟨G, ρ, P, E, co, sr, h, hp, hx⟩ => opnd co sr hx h fun r pr x G1 H1 st1 rd co1 sr1 hx1 => by
    obtain ⟨n, e1, p⟩ := pr; rw [e1] at rd
    exact ⟨n, rd.int_, hp _ _ p _ _ st1⟩
def rangeL (i j : Int) : List D := rangeD i (j - i).toNat
theorem reps_rg {G : Gh} (i j : Int) : Reps G (rangeL i j) (rgV i j) := by
  unfold rangeL rangeD rgV
  generalize (List.range (j - i).toNat) = l
  induction l with
  | nil => exact .nil
  | cons n l ih => exact .cons (rep_int _) ih
def wListRg (f : Rho → (Int → Int → Prop) → XP → Prop) : WE := fun ρ P E => f ρ (fun i j => RgOk i j ∧ P (.own (rangeL i j))) E
def wTupRg (f : Rho → (Int → Int → Prop) → XP → Prop) : WE := fun ρ P E => f ρ (fun i j => RgOk i j ∧ P (.val (.tup (rangeL i j)))) E
theorem pd_listRg {f : Rho → (Int → Int → Prop) → XP → Prop} {p : Pos} (hc : X.calm = true) (hg : Gl X "list") (hm : X.mg "list" = none) (he : PRg X e (tWRg c f)) (na : starEach [e] X.env = (false, eval e X.env) :: starEach [] X.env := by rfl) : PE X (.Call (.Name "list" p) [e] [] pos) (tWE c (wListRg f)) :=
  PE.imp (pe_listRg hc hg hm he na) fun σ H Q ⟨G, ρ, P, E, co, sr, h, hp, hx⟩ => ⟨G, ρ, _, E, co, sr, h, fun i j pr G' H' st => ⟨pr.1, fun q nq => hp _ pr.2 _ _ _ (st.trans (Step.newOwn c.jo st.coh nq)) (repR_own (st.dom c.jo nq) (st.coh.fresh c.jo nq) (reps_rg i j))⟩, hx⟩
theorem pd_tupRg {f : Rho → (Int → Int → Prop) → XP → Prop} {p : Pos} (hc : X.calm = true) (hg : Gl X "tuple") (hm : X.mg "tuple" = none) (he : PRg X e (tWRg c f)) (na : starEach [e] X.env = (false, eval e X.env) :: starEach [] X.env := by rfl) : PE X (.Call (.Name "tuple" p) [e] [] pos) (tWE c (wTupRg f)) :=
  PE.imp (pe_tupRg hc hg hm he na) fun σ H Q ⟨G, ρ, P, E, co, sr, h, hp, hx⟩ => ⟨G, ρ, _, E, co, sr, h, fun i j pr G' H' st => ⟨pr.1, fun q nq => hp _ pr.2 _ _ _ (st.trans (newTup c.jo st.coh nq)) (rep_tup (st.coh.fresh c.jo nq) (reps_rg i j))⟩, hx⟩

/-! ### a < b < c -/
def wChain (g g' : OpW) (fa fb fc : WE) : WE := fun ρ P E => fa ρ (fun r1 => fb ρ (fun r2 => g r1.toD r2.toD (fun r => ∃ k, r = .val (.bl k) ∧ if k = true then fc ρ (fun r3 => g' r2.toD r3.toD P) E else P (.val (.bl false)))) E) E
theorem tChain_of {r r' : R2} {g g' : OpW} {fc : WE} (hg : OpOk c r g) (hg' : OpOk c r' g') {σ : L2.St} {H : Hp} {Q : VK} (h : tWE c (wChain g g' fa fb fc) σ H Q) : tChain r r' (tWD c fa) (tWD c fb) (tWD c fc) σ H Q := by
  obtain ⟨G, ρ, P, E, co, sr, h, hp, hx⟩ := h
  refine opnd co sr hx h fun r1 p1 x G1 H1 st1 rx co1 sr1 hx1 => opnd co1 sr1 hx1 p1 fun r2 p2 y G2 H2 st2 ry co2 sr2 hx2 => ?_
  refine hg G2 H2 _ _ x y _ _ co2 (Rep.mono st2.le _ _ rx) ry p2 fun r pr v G3 H3 st3 rr => ?_
  obtain ⟨k, rfl, pk⟩ := pr
  have ev := Rep.bl_ (show Rep G3 (.bl k) v from rr)
  refine ⟨k, ev, ?_⟩
  have s3 := (st1.trans st2).trans st3
  cases k with
  | false => simp only [Bool.false_eq_true, if_false] at pk ⊢; exact hp _ pk _ _ _ s3 rr_bl
  | true =>
    simp only [if_true] at pk ⊢
    refine opnd st3.coh (sr2.step st3) (hx2.step st3) pk fun r3 p3 z G4 H4 st4 rz co4 sr4 hx4 => ?_
    exact hg' G4 H4 _ _ y z P Q co4 (Rep.mono (st3.trans st4).le _ _ ry) rz p3 fun r pr v G' H' st rr => hp r pr v G' H' ((s3.trans st4).trans st) (rr.back c.jo (s3.trans st4))
theorem pd_chain {b2 : Expr} {fc : WE} {op op' : CmpOp} {r r' : R2} {g g' : OpW} (ho : OpR X (compareOp op) r) (ho' : OpR X (compareOp op') r') (hg : OpOk c r g) (hg' : OpOk c r' g') (ha : PE X a (tWE c fa)) (hb : PE X b (tWE c fb)) (hb2 : PE X b2 (tWE c fc)) (hlm : lastMarks [op, op'] [b, b2] = false := by rfl) :
    PE X (.Compare a [op, op'] [b, b2] pos) (tWE c (wChain g g' fa fb fc)) := PE.imp (pe_chain ho ho' (pdD ha) (pdD hb) (pdD hb2) hlm) fun _ _ _ h => tChain_of hg hg' h
theorem pt_chainD {b2 : Expr} {fc : WE} {op op' : CmpOp} {r r' : R2} {g g' : OpW} (ho : OpR X (compareOp op) r) (ho' : OpR X (compareOp op') r') (hg : OpOk c r g) (hg' : OpOk c r' g') (ha : PE X a (tWE c fa)) (hb : PE X b (tWE c fb)) (hb2 : PE X b2 (tWE c fc)) (hlm : lastMarks [op, op'] [b, b2] = false := by rfl) :
    PT X (.Compare a [op, op'] [b, b2] pos) (tWT c (wTst (wChain g g' fa fb fc))) := PT.imp (pt_chain ho ho' (pdD ha) (pdD hb) (pdD hb2) hlm) fun σ H Q ⟨G, ρ, P, E, co, sr, h, hp, hx⟩ => by
  refine tChain_of hg hg' ⟨G, ρ, fun r => ∃ b, r.toD = .bl b ∧ P b, E, co, sr, h, fun r pr v G' H' st rr => ?_, hx⟩
  obtain ⟨k, e1, p⟩ := pr
  obtain ⟨G2, st2, le, rd⟩ := rr.freeze c.jo st (fun _ h => h)
  rw [e1] at rd
  exact ⟨k, rd.bl_, hp _ p _ _ st2⟩

/-! ### dicts made and written -/
def wNewD (t : Bool) : WE := fun _ P _ => P (.ownd t [])
theorem pd_newT : PE X (.Dict [] [] pos) (tWE c (wNewD true)) := PE.imp pe_dnewT fun σ H Q ⟨G, ρ, P, E, co, sr, h, hp, hx⟩ => fun p np => hp _ h _ _ _ (Step.newOwn c.jo co np) ⟨p, [], rfl, np, co.fresh c.jo np, upd_same, by unfold RepT; rfl⟩
theorem pd_newK : PE X (.Dict [] [] pos) (tWE c (wNewD false)) := PE.imp pe_dnewK fun σ H Q ⟨G, ρ, P, E, co, sr, h, hp, hx⟩ => fun p np => hp _ h _ _ _ (Step.newOwn c.jo co np) ⟨p, [], rfl, np, co.fresh c.jo np, upd_same, by unfold RepK; rfl⟩
theorem SRep.mutG {J : JT} {G0 G : Gh} {H0 H : Hp} {σ : L2.St} {ρ : Rho} {i : Nat} {r r' : R} {p : Addr} {o' : HO} (jo : JOk J) (s : Step J G0 H0 G H) (sr : SRep H0 G H σ ρ) (hi : ρ[i]? = some (some r)) (ho : r.isOwn = true) (hv : σ[i]? = some (some (V.ref p)))
    (h0 : H0 p = none) (np : G p = none) (ho' : r'.isOwn = true) (new : RepR H0 G (upd H p o') (.ref p) r') : Step J G0 H0 G (upd H p o') ∧ SRep H0 G (upd H p o') σ (ρ.set i (some r')) := by
  refine ⟨⟨s.le, s.coh.move jo fun a g e => upd_ne ?_, fun a o h nt z => ?_, fun a xs h => ?_⟩, ⟨by rw [List.length_set]; exact sr.len, fun j r e => ?_, fun j k r1 r2 q e1 e2 o1 o2 h1 h2 => ?_⟩⟩
  · rintro rfl; rw [np] at e; cases e
  · have ne : a ≠ p := by rintro rfl; rw [h0] at h; cases h
    rw [upd_ne ne]; exact s.keep a o h nt z
  · have ne : a ≠ p := by rintro rfl; rw [h0] at h; cases h
    rw [upd_ne ne]; exact s.tups a xs h
  · by_cases hj : i = j
    · subst hj
      rw [List.getElem?_set, if_pos rfl] at e
      split at e <;> cases e
      exact ⟨_, hv, new⟩
    · rw [List.getElem?_set_ne hj] at e
      obtain ⟨w, hw, rr⟩ := sr.at_ j r e
      refine ⟨w, hw, ?_⟩
      have ne : r.isOwn = true → w ≠ V.ref p := fun o z => by
        rw [z] at hw
        exact hj (sr.apart i j _ r p hi e ho o hv hw)
      cases r with
      | val d => exact rr
      | own es =>
        obtain ⟨q, ws, e1, f1, n1, h1, r1⟩ := rr
        exact ⟨q, ws, e1, f1, n1, by rw [upd_ne (fun z => ne rfl (by rw [e1, z]))]; exact h1, r1⟩
      | ownd t es =>
        cases t <;>
        (obtain ⟨q, ws, e1, f1, n1, h1, r1⟩ := rr
         exact ⟨q, ws, e1, f1, n1, by rw [upd_ne (fun z => ne rfl (by rw [e1, z]))]; exact h1, r1⟩)
  · have other : ∀ (j : Nat) (r3 : R), (ρ.set i (some r'))[j]? = some (some r3) → r3.isOwn = true → ∃ r0, ρ[j]? = some (some r0) ∧ r0.isOwn = true := fun j r3 e o => by
      by_cases hj : i = j
      · subst hj; exact ⟨_, hi, ho⟩
      · rw [List.getElem?_set_ne hj] at e; exact ⟨r3, e, o⟩
    obtain ⟨r3, e3, o3⟩ := other j r1 e1 o1
    obtain ⟨r4, e4, o4⟩ := other k r2 e2 o2
    exact sr.apart j k r3 r4 q e3 e4 o3 o4 h1 h2
/-- d[k] = v, d an owned dict -/
def wDPut (i : Nat) (fk fv : WE) : WS := fun k E ρ => fv ρ (fun rv => ∃ t kvs, ρ[i]? = some (some (.ownd t kvs)) ∧ fk ρ (fun rk => (if t = true then (D.keys? rk.toD).isSome else (D.key? rk.toD).isSome) = true ∧ kvs.length < sizeLine ∧ k.nx (ρ.set i (some (.ownd t (putD kvs rk.toD rv.toD))))) E) E
theorem ws_dput {i : Nat} (h : PS X st (sDPut (tVar i) (tWD c fa) (tWD c fb))) : PS X st (tWS c (wDPut i fa fb)) := PS.imp h fun D σ H ⟨G, ρ, k, E, s, sr, h, ok, x⟩ => by
  refine inSD s sr x h fun rv pv v1 G1 H1 s1 t1 rr1 sr1 => ?_
  obtain ⟨t, kvs, hi, pv⟩ := pv
  obtain ⟨v, hv, rr⟩ := sr1.get hi
  cases t with
  | false =>
    obtain ⟨p, es, rfl, h0, np, hq, rs⟩ := rr
    refine ⟨_, hv, inSD s1 sr1 x pv fun rk pk y G2 H2 s2 t2 rr2 sr2 => ?_⟩
    obtain ⟨hk, hl, hn⟩ := pk
    simp only [Bool.false_eq_true, if_false, Option.isSome_iff_exists] at hk
    obtain ⟨key, hk⟩ := hk
    have e := key_some hk
    rw [e] at rr2 hn
    rw [kV_key key rr2]
    obtain ⟨hq', np'⟩ := t2.frame p _ hq np
    refine ⟨p, _, rfl, DPut.k hq' (by rw [← rs.len]; exact hl), ?_⟩
    obtain ⟨s3, sr3⟩ := sr2.mutG c.jo s2 hi rfl hv h0 np' (r' := .ownd false (putD kvs (keyD key) rv.toD)) rfl ⟨p, _, rfl, h0, np', upd_same, RepK.put (Rep.mono t2.le _ _ rr1) (RepK.mono t2.le _ _ rs)⟩
    exact ok.nx _ hn _ _ _ (t1.le.trans t2.le) s3 sr3
  | true =>
    obtain ⟨p, es, rfl, h0, np, hq, rs⟩ := rr
    refine ⟨_, hv, inSD s1 sr1 x pv fun rk pk y G2 H2 s2 t2 rr2 sr2 => ?_⟩
    obtain ⟨hk, hl, hn⟩ := pk
    simp only [if_true, Option.isSome_iff_exists] at hk
    obtain ⟨ks, hk⟩ := hk
    have e := keys_some hk
    rw [e] at rr2 hn
    obtain ⟨b, ws, rfl, hb, rb, gb⟩ := rr2.sqT (K := X.K) s2.coh
    have hb' := s2.coh b _ gb
    rw [rb.keys] at hb'
    obtain ⟨hq', np'⟩ := t2.frame p _ hq np
    refine ⟨p, _, rfl, DPut.t hq' hb' (by rw [← rs.len]; exact hl), ?_⟩
    obtain ⟨s3, sr3⟩ := sr2.mutG c.jo s2 hi rfl hv h0 np' (r' := .ownd true (putD kvs (.tup (ks.map keyD)) rv.toD)) rfl ⟨p, _, rfl, h0, np', upd_same, RepT.put (Rep.mono t2.le _ _ rr1) (RepT.mono t2.le _ _ rs)⟩
    exact ok.nx _ hn _ _ _ (t1.le.trans t2.le) s3 sr3
end
end PL
end
section
set_option Elab.async false
set_option linter.all false
set_option maxRecDepth 100000
set_option autoImplicit false
namespace PL
open PySem PySem.Spec L2
open PyProof.Rows hiding St

/-! ### data as what is shown -/
mutual
def toR : D → PyData
  | .non => .none
  | .bl b => .bool b
  | .int i => .int i
  | .str x => .str x
  | .tup xs => .tuple (toRs xs)
  | .lst xs => .list (toRs xs)
  | .dct _ kvs => .dict (toRk kvs)
  | .obj _ _ => .none
  | .raw _ _ _ => .none
def toRs : List D → List PyData
  | [] => []
  | x :: xs => toR x :: toRs xs
def toRk : List (D × D) → List (PyData × PyData)
  | [] => []
  | (k, v) :: r => (toR k, toR v) :: toRk r
end
mutual
/-- no objects within -/
def noObj : D → Bool
  | .obj _ _ => false
  | .raw _ _ _ => false
  | .tup xs => noObjs xs
  | .lst xs => noObjs xs
  | .dct _ kvs => noObjk kvs
  | _ => true
def noObjs : List D → Bool
  | [] => true
  | x :: xs => noObj x && noObjs xs
def noObjk : List (D × D) → Bool
  | [] => true
  | (k, v) :: r => noObj v && noObjk r
end
def keyP : Key → PyData
  | .inl i => .int i
  | .inr x => .str x
theorem toR_key (k : Key) : toR (keyD k) = keyP k := by cases k <;> (unfold keyD keyP toR; rfl)
theorem toRs_keys : ∀ ks : List Key, toRs (ks.map keyD) = ks.map keyP
  | [] => by unfold toRs; rfl
  | k :: ks => by rw [List.map_cons, toRs, toRs_keys ks, toR_key]; rfl
theorem toRs_map : ∀ xs : List D, toRs xs = xs.map toR
  | [] => by rw [toRs]; rfl
  | x :: xs => by rw [toRs, toRs_map xs]; rfl
theorem showableAll_cons {x : PyData} {xs : List PyData} (h : PyData.showableAll (x :: xs) = true) : x.showable = true ∧ PyData.showableAll xs = true := by
  unfold PyData.showableAll at h; simpa using h
theorem showableKv_cons {k v : PyData} {xs : List (PyData × PyData)} (h : PyData.showableKv ((k, v) :: xs) = true) : (k.showable = true ∧ v.showable = true) ∧ PyData.showableKv xs = true := by
  unfold PyData.showableKv at h; simpa using h
section
variable {P : Program} {w : World} {J : JT} {G : Gh} {H : Hp} {h : Heap}
def Shw (P : Program) (w : World) (h : Heap) (u : Value) (d : PyData) : Prop := ∃ as bs, Reads h u d as ∧ ReadAtMost h d.depth bs ∧ ReprK P w bs h d.depth u d.shown
def ShT (P : Program) (w : World) (h : Heap) (u : Value) (d : PyData) : Prop := Shw P w h u d ∧ ∀ a, u = .ref a → d.shown.length ≤ sizeLine → ∃ T idr, ShowsBy P w h a d T idr
theorem shw_key {k : Key} {u : Value} (hk : (mixKind P w).is k u = true) (hs : (keyP k).showable = true) (hz : (keyP k).shown.length ≤ sizeLine) : Shw P w h u (keyP k) := by
  rw [mixKind_is] at hk
  rcases keyIs_shape hk with ⟨i, t, rfl, rfl⟩ | ⟨x, t, rfl, rfl⟩
  · exact ⟨[], [], .int i t, (fun _ h => nomatch h), by unfold keyP; simp only [PyData.shown]; exact .of_is (ReprIs.int t (by simpa [keyP, PyData.showable] using hs)) _ _ _⟩
  · exact ⟨[], [], .str x t, (fun _ h => nomatch h), by unfold keyP at hz ⊢; simp only [PyData.shown] at hz ⊢; exact .of_is (ReprIs.str x t hz) _ _ _⟩
structure ShwAll (P : Program) (w : World) (h : Heap) (us : List Value) (ds : List PyData) : Prop where
  ex : ∃ as bs, ReadsAll h us ds as ∧ ReadAtMost h (PyData.depthAll ds) bs ∧ ReprAllK P w bs h (PyData.depthAll ds) us (PyData.shownAll ds)
theorem ShwAll.nil : ShwAll P w h [] [] := ⟨[], [], .nil, (fun _ h => nomatch h), by simp only [PyData.shownAll]; exact .nil⟩
theorem ShwAll.cons {u : Value} {us : List Value} {d : PyData} {ds : List PyData} (a : Shw P w h u d) (b : ShwAll P w h us ds) : ShwAll P w h (u :: us) (d :: ds) := by
  obtain ⟨as1, b1, r1, m1, k1⟩ := a
  obtain ⟨as2, b2, r2, m2, k2⟩ := b.ex
  refine ⟨as1 ++ as2, b1 ++ b2, .cons r1 r2, ?_, ?_⟩
  · simp only [PyData.depthAll]
    exact (m1.mono (Nat.le_max_left _ _)).append (m2.mono (Nat.le_max_right _ _))
  · simp only [PyData.depthAll, PyData.shownAll]
    exact .cons ((k1.more fun b hb => List.mem_append_left _ hb).level_le (Nat.le_max_left _ _)) (k2.more_le (fun b hb => List.mem_append_right _ hb) (Nat.le_max_right _ _))
theorem shw_list {a : Addr} {its : List Value} {n : Nat} {ds : List PyData} (e : h.get? a = some { cls := .type "list", data := .seq its.toArray n }) (x : ShwAll P w h its ds) : ShT P w h (.ref a) (.list ds) := by
  obtain ⟨as, bs, r, m, k⟩ := x.ex
  have rd : Reads h (.ref a) (.list ds) (a :: as) := .list e rfl rfl r
  have hna : a ∉ bs := not_mem_of_deeper rd (by simp only [PyData.depth]; omega) m
  refine ⟨⟨_, a :: bs, rd, ReadAtMost.cons rd (by simp only [PyData.depth]; omega) m, ?_⟩, fun b eb hsz => ?_⟩
  rotate_left
  · cases eb
    have hz' : (listText (PyData.shownAll ds)).length ≤ sizeLine := by simpa only [PyData.shown] using hsz
    refine ⟨"list", "list.__repr__", PySem.F.slot_list_repr.toG, PySem.F.slot_list_str, PySem.F.slot_list_format, fun s hk0 => ⟨_, hk0 _ _ e, rfl⟩, fun A E s Q hg hu hk0 hQ => ?_⟩
    simp only [PyData.depth] at hu
    simp only [PyData.shown] at hQ
    cases its with
    | nil => cases r; simp only [PyData.shownAll, listText_nil] at hQ; exact call_list_repr_empty ⟨_, hk0 _ _ e, rfl⟩ (hk0 _ _ e) rfl (hQ s.heap _ _ fun _ _ e => e)
    | cons y l => exact call_list_reprK e rfl rfl hna (by simpa using k.length_eq) (fun i y e => k.item i y (by simpa using e)) hg (fun b _ => Clear.nil b) hu hk0 hQ hz'
  simp only [PyData.depth, PyData.shown]
  cases its with
  | nil => cases r; simp only [PyData.shownAll, listText_nil]; exact ReprK.listEmpty e rfl rfl
  | cons y l => exact ReprK.list e rfl rfl hna (by simpa using k.length_eq) (fun i y e => k.item i y (by simpa using e))
theorem shw_tuple {a : Addr} {its : List Value} {ds : List PyData} (e : IsTup h a its.toArray) (x : ShwAll P w h its ds) : ShT P w h (.ref a) (.tuple ds) := by
  obtain ⟨as, bs, r, m, k⟩ := x.ex
  obtain ⟨o, h1, h2, n, h3⟩ := e
  have rd : Reads h (.ref a) (.tuple ds) as := .tuple h1 h2 h3 (by simpa using r)
  have hna : a ∉ bs := not_mem_of_deeper rd (by simp only [PyData.depth]; omega) m
  refine ⟨⟨_, a :: bs, rd, ReadAtMost.cons rd (by simp only [PyData.depth]; omega) m, ?_⟩, fun b eb hsz => ?_⟩
  rotate_left
  · cases eb
    have hz' : (tupleText (PyData.shownAll ds)).length ≤ sizeLine := by simpa only [PyData.shown] using hsz
    refine ⟨"tuple", "tuple.__repr__", PySem.F.slot_tuple_repr, PySem.F.slot_tuple_str, PySem.F.slot_tuple_format, fun s hk0 => ⟨o, hk0 _ _ h1, h2⟩, fun A E s Q hg hu hk0 hQ => ?_⟩
    simp only [PyData.depth] at hu
    simp only [PyData.shown] at hQ
    exact call_tuple_reprK h1 h2 h3 hna (by simpa using k) hg (fun b _ => Clear.nil b) hu hk0 hQ hz'
  simp only [PyData.depth, PyData.shown]
  exact ReprK.tuple h1 h2 h3 hna (by simpa using k)
theorem shw_dict {a : Addr} {o : Obj} {es : Array DictEntry} {n : Nat} {kvs : List (PyData × PyData)} (h1 : h.get? a = some o) (h2 : o.cls = .type "dict") (h3 : o.data = .dict es n) (hs : (a == sysModules) = false)
    (xk : ShwAll P w h (es.toList.map (·.key)) (kvs.map (·.1))) (xv : ShwAll P w h (es.toList.map (·.val)) (kvs.map (·.2))) : ShT P w h (.ref a) (.dict kvs) := by
  obtain ⟨as1, b1, r1, m1, k1⟩ := xk.ex
  obtain ⟨as2, b2, r2, m2, k2⟩ := xv.ex
  have rd : Reads h (.ref a) (.dict kvs) (a :: as1 ++ as2) := .dict h1 h2 h3 r1 r2
  have hb : ReadAtMost h (PyData.depthKv kvs) (b1 ++ b2) := (m1.mono (PyData.depthAll_keys_le kvs)).append (m2.mono (PyData.depthAll_vals_le kvs))
  have hna : a ∉ b1 ++ b2 := not_mem_of_deeper rd (by simp only [PyData.depth]; omega) hb
  refine ⟨⟨_, a :: (b1 ++ b2), rd, ReadAtMost.cons rd (by simp only [PyData.depth]; omega) hb, ?_⟩, fun b eb hsz => ?_⟩
  rotate_left
  · cases eb
    have hz' : (dictText (PyData.shownKv kvs)).length ≤ sizeLine := by simpa only [PyData.shown] using hsz
    refine ⟨"dict", "dict.__repr__", PySem.F.slot_dict_repr, PySem.F.slot_dict_str, PySem.F.slot_dict_format, fun s hk0 => ⟨o, hk0 _ _ h1, h2⟩, fun A E s Q hg hu hk0 hQ => ?_⟩
    simp only [PyData.depth] at hu
    simp only [PyData.shown, PyData.shownKv_eq] at hQ
    exact call_dict_reprK h1 h2 h3 hs hna (ReprEntriesK.of_two es.toList _ _
      (k1.more_le (fun b hb => List.mem_append_left _ hb) (PyData.depthAll_keys_le kvs)) (k2.more_le (fun b hb => List.mem_append_right _ hb) (PyData.depthAll_vals_le kvs))) hg (fun b _ => Clear.nil b) hu hk0 hQ (by rw [← PyData.shownKv_eq]; exact hz')
  simp only [PyData.depth, PyData.shown, PyData.shownKv_eq]
  exact ReprK.dict h1 h2 h3 hs hna (ReprEntriesK.of_two es.toList _ _
      (k1.more_le (fun b hb => List.mem_append_left _ hb) (PyData.depthAll_keys_le kvs)) (k2.more_le (fun b hb => List.mem_append_right _ hb) (PyData.depthAll_vals_le kvs)))

theorem shwKeys : ∀ {ks : List Key} {us : List Value}, Vals (ks.map kV) us → PyData.showableAll (ks.map keyP) = true → (∀ t ∈ PyData.shownAll (ks.map keyP), t.length ≤ sizeLine) → ShwAll P w h us (ks.map keyP)
  | [], _, r, _, _ => by cases r; exact .nil
  | k :: ks, _, r, hs, hz => by
    cases r with
    | cons r1 r2 =>
      obtain ⟨s1, s2⟩ := showableAll_cons hs
      rw [List.map_cons] at hz ⊢
      simp only [PyData.shownAll, List.mem_cons, forall_eq_or_imp] at hz
      exact .cons (shw_key (kV_is r1) s1 hz.1) (shwKeys r2 s2 hz.2)
theorem shw_keys_pairs {es : List DictEntry} {vs : List (Key × Value)} (p : Pairs (mixKind P w) es vs) : PyData.showableAll (vs.map fun x => keyP x.1) = true → (∀ t ∈ PyData.shownAll (vs.map fun x => keyP x.1), t.length ≤ sizeLine) → ShwAll P w h (es.map (·.key)) (vs.map fun x => keyP x.1) := by
  induction p with
  | nil => intro _ _; exact .nil
  | @cons e kv es kvs h1 h2 _ ih =>
    intro hs hz
    obtain ⟨s1, s2⟩ := showableAll_cons hs
    rw [List.map_cons] at hz
    simp only [PyData.shownAll, List.mem_cons, forall_eq_or_imp] at hz
    exact .cons (shw_key h1 s1 hz.1) (ih s2 hz.2)
theorem RepK.keys : ∀ {kvs : List (D × D)} {es : List (Key × V)}, RepK G kvs es → (toRk kvs).map (·.1) = es.map fun x => keyP x.1
  | [], es, r => by unfold RepK at r; subst r; unfold toRk; rfl
  | (k, d) :: kvs, es, r => by
    unfold RepK at r; obtain ⟨key, v, r', rfl, rfl, _, h2⟩ := r
    unfold toRk
    rw [List.map_cons, List.map_cons, RepK.keys h2, toR_key]
theorem RepT.keys : ∀ {kvs : List (D × D)} {es : List (List Key × V)}, RepT G kvs es → (toRk kvs).map (·.1) = es.map fun x => PyData.tuple (x.1.map keyP)
  | [], es, r => by unfold RepT at r; subst r; unfold toRk; rfl
  | (k, d) :: kvs, es, r => by
    unfold RepT at r; obtain ⟨key, v, r', rfl, rfl, _, h2⟩ := r
    unfold toRk
    rw [List.map_cons, List.map_cons, RepT.keys h2]
    congr 1
    unfold toR
    rw [toRs_keys]
theorem KV.fst {κ : Type} {kvs : List (κ × V)} {vs : List (κ × Value)} (r : KV kvs vs) {γ : Type} (f : κ → γ) : kvs.map (fun x => f x.1) = vs.map fun x => f x.1 := by
  unfold KV at r
  induction r with
  | nil => rfl
  | cons a b ih => rw [List.map_cons, List.map_cons, ih, a.1]
theorem Pairs.vals {K : Type} [DecidableEq K] {knd : PySem.KeyKind P w K} {es : List DictEntry} {vs : List (K × Value)} (p : Pairs knd es vs) : es.map (·.val) = vs.map (·.2) := by
  induction p with
  | nil => rfl
  | cons h1 h2 _ ih => rw [List.map_cons, List.map_cons, ih, h2]
theorem kv_len_key (kvs : List (PyData × PyData)) (hz : (dictText (PyData.shownKv kvs)).length ≤ sizeLine) : ∀ t ∈ PyData.shownAll (kvs.map (·.1)), t.length ≤ sizeLine := fun t ht =>
  let ⟨p, hp, hl⟩ := PyData.shownKv_key_le kvs t ht; Nat.le_trans hl (Nat.le_trans (dictText_mem_le hp) hz)
theorem kv_len_val (kvs : List (PyData × PyData)) (hz : (dictText (PyData.shownKv kvs)).length ≤ sizeLine) : ∀ t ∈ PyData.shownAll (kvs.map (·.2)), t.length ≤ sizeLine := fun t ht =>
  let ⟨p, hp, hl⟩ := PyData.shownKv_val_le kvs t ht; Nat.le_trans hl (Nat.le_trans (dictText_mem_le hp) hz)
theorem KV.vals {κ : Type} {kvs : List (κ × V)} {vs : List (κ × Value)} (r : KV kvs vs) : Vals (kvs.map (·.2)) (vs.map (·.2)) := by
  unfold KV at r
  induction r with
  | nil => exact .nil
  | cons a b ih => exact .cons a.2 ih
mutual
theorem Rep.shw (co : Coh J G H) (ok : HOk P w H h) : ∀ (d : D) (v : V) (u : Value), Rep G d v → RelV v u → noObj d = true → (toR d).showable = true → (toR d).shown.length ≤ sizeLine → ShT P w h u (toR d)
  | .non, v, u, r, l, _, _, _ => by
    unfold Rep at r; subst r
    cases (show u = Value.none from l)
    unfold toR; exact ⟨⟨[], [], .none, (fun _ h => nomatch h), by simp only [PyData.shown]; exact .of_is ReprIs.none _ _ _⟩, fun _ z => nomatch z⟩
  | .bl b, v, u, r, l, _, _, _ => by
    unfold Rep at r; subst r
    cases (show u = Value.bool b from l)
    unfold toR; exact ⟨⟨[], [], .bool b, (fun _ h => nomatch h), by simp only [PyData.shown]; exact .of_is (ReprIs.bool b) _ _ _⟩, fun _ z => nomatch z⟩
  | .int i, v, u, r, l, _, hs, hz => by
    unfold Rep at r; subst r
    obtain ⟨t, rfl⟩ := (show ∃ t, u = Value.int i t from l)
    unfold toR at hs ⊢; exact ⟨⟨[], [], .int i t, (fun _ h => nomatch h), by simp only [PyData.shown]; exact .of_is (ReprIs.int t (by simpa [PyData.showable] using hs)) _ _ _⟩, fun _ z => nomatch z⟩
  | .str x, v, u, r, l, _, hs, hz => by
    unfold Rep at r; subst r
    obtain ⟨t, rfl⟩ := (show ∃ t, u = Value.str x t from l)
    unfold toR at hs hz ⊢; exact ⟨⟨[], [], .str x t, (fun _ h => nomatch h), by simp only [PyData.shown] at hz ⊢; exact .of_is (ReprIs.str x t hz) _ _ _⟩, fun _ z => nomatch z⟩
  | .tup xs, v, u, r, l, no, hs, hz => by
    unfold Rep at r; obtain ⟨a, vs, rfl, g, r⟩ := r
    cases (show u = Value.ref a from l)
    unfold noObj at no
    unfold toR at hs hz ⊢
    obtain ⟨z, its, rel, ht⟩ := (ok a _ (co a _ g) : ObjOk P w H h a (.tup vs))
    have hz' : (tupleText (PyData.shownAll (toRs xs))).length ≤ sizeLine := by simpa only [PyData.shown] using hz
    exact shw_tuple ht (Reps.shw co ok xs vs its r rel no (by simpa [PyData.showable] using hs) (fun t ht => Nat.le_trans (tupleText_mem_le ht) hz'))
  | .lst xs, v, u, r, l, no, hs, hz => by
    unfold Rep at r; obtain ⟨a, vs, rfl, g, r⟩ := r
    cases (show u = Value.ref a from l)
    unfold noObj at no
    unfold toR at hs hz ⊢
    obtain ⟨z, its, n, rel, ht⟩ := (ok a _ (co a _ g) : ObjOk P w H h a (.lst vs))
    have hz' : (listText (PyData.shownAll (toRs xs))).length ≤ sizeLine := by simpa only [PyData.shown] using hz
    exact shw_list ht (Reps.shw co ok xs vs its r rel no (by simpa [PyData.showable] using hs) (fun t ht => Nat.le_trans (listText_mem_le ht) hz'))
  | .dct false kvs, v, u, r, l, no, hs, hz => by
    unfold Rep at r; obtain ⟨a, es, rfl, g, r⟩ := r
    cases (show u = Value.ref a from l)
    unfold noObj at no
    unfold toR at hs hz ⊢
    obtain ⟨z, hd, vs, rel, o, es', ep, h1, h2, h3, _, hp, _⟩ := (ok a _ (co a _ g) : ObjOk P w H h a (.dK es))
    have hz' : (dictText (PyData.shownKv (toRk kvs))).length ≤ sizeLine := by simpa only [PyData.shown] using hz
    obtain ⟨hs1, hs2⟩ := PyData.showableKv_split (toRk kvs) (by simpa [PyData.showable] using hs)
    have ek : (toRk kvs).map (·.1) = vs.map fun x => keyP x.1 := by rw [RepK.keys r, KV.fst rel keyP]
    refine shw_dict h1 h2.1 h3 hd ?_ ?_
    · rw [ek]
      refine shw_keys_pairs hp (by rw [← ek]; exact hs1) ?_
      rw [← ek]; exact kv_len_key _ hz'
    · rw [Pairs.vals hp]
      exact RepK.shw co ok kvs es _ r (KV.vals rel) no hs2 (kv_len_val _ hz')
  | .dct true kvs, v, u, r, l, no, hs, hz => by
    unfold Rep at r; obtain ⟨a, es, rfl, g, r⟩ := r
    cases (show u = Value.ref a from l)
    unfold noObj at no
    unfold toR at hs hz ⊢
    have hH : H a = some (.dT es) := by
      rcases g with g | g
      · exact co a _ g
      · exact co a _ g
    obtain ⟨z, hd, xs, rel, o, es', ep, h1, h2, h3, he, nd⟩ := (ok a _ hH : ObjOk P w H h a (.dT es))
    have hz' : (dictText (PyData.shownKv (toRk kvs))).length ≤ sizeLine := by simpa only [PyData.shown] using hz
    obtain ⟨hs1, hs2⟩ := PyData.showableKv_split (toRk kvs) (by simpa [PyData.showable] using hs)
    have ek : (toRk kvs).map (·.1) = es.map fun x => PyData.tuple (x.1.map keyP) := RepT.keys r
    refine shw_dict h1 h2.1 h3 hd ?_ ?_
    · rw [ek, he]
      have hk1 := kv_len_key _ hz'
      rw [ek] at hs1 hk1
      clear r he hs hz hz' hs2 h1 h2 h3 no ek hH z
      clear hd g nd
      induction rel with
      | nil => exact .nil
      | @cons p q ps qs e t ih =>
        obtain ⟨s1, s2⟩ := showableAll_cons hs1
        rw [List.map_cons] at hk1
        simp only [PyData.shownAll, List.mem_cons, forall_eq_or_imp] at hk1
        rw [List.map_cons, List.map_cons, List.map_cons]
        refine .cons ?_ (ih s2 hk1.2)
        obtain ⟨z2, its, rl, ht⟩ := (ok _ _ e.2.1 : ObjOk P w H h _ (.tup (p.1.map kV)))
        have hz2 : (tupleText (PyData.shownAll (p.1.map keyP))).length ≤ sizeLine := by simpa only [PyData.shown] using hk1.1
        exact And.left <| shw_tuple ht (shwKeys rl (by simpa [PyData.showable] using s1) (fun t ht => Nat.le_trans (tupleText_mem_le ht) hz2))
    · rw [he]
      have key : Vals (es.map (·.2)) ((xs.map (entryOfKey (tupleKind (mixKind P w)))).map (·.val)) := by
        clear r he hs hz hz' hs2 h1 h2 h3 no ek hH z hs1 g hd nd
        induction rel with
        | nil => exact .nil
        | @cons p q ps qs e t ih => exact .cons e.2.2 ih
      exact RepT.shw co ok kvs es _ r key no hs2 (kv_len_val _ hz')
  | .obj t ds, v, u, r, l, no, _, _ => by unfold noObj at no; cases no
  | .raw _ _ _, v, u, r, l, no, _, _ => by unfold noObj at no; cases no
theorem Reps.shw (co : Coh J G H) (ok : HOk P w H h) : ∀ (ds : List D) (vs : List V) (us : List Value), Reps G ds vs → Vals vs us → noObjs ds = true → PyData.showableAll (toRs ds) = true → (∀ t ∈ PyData.shownAll (toRs ds), t.length ≤ sizeLine) → ShwAll P w h us (toRs ds)
  | [], vs, us, r, l, _, _, _ => by unfold Reps at r; subst r; cases l; unfold toRs; exact .nil
  | d :: ds, vs, us, r, l, no, hs, hz => by
    obtain ⟨v, r', rfl, r1, r2⟩ := r.uncons
    cases l with
    | cons l1 l2 =>
      unfold noObjs at no
      rw [Bool.and_eq_true] at no
      unfold toRs at hs hz ⊢
      obtain ⟨s1, s2⟩ := showableAll_cons hs
      simp only [PyData.shownAll, List.mem_cons, forall_eq_or_imp] at hz
      exact .cons (Rep.shw co ok d v _ r1 l1 no.1 s1 hz.1).1 (Reps.shw co ok ds _ _ r2 l2 no.2 s2 hz.2)
theorem RepK.shw (co : Coh J G H) (ok : HOk P w H h) : ∀ (kvs : List (D × D)) (es : List (Key × V)) (us : List Value), RepK G kvs es → Vals (es.map (·.2)) us → noObjk kvs = true → PyData.showableAll ((toRk kvs).map (·.2)) = true → (∀ t ∈ PyData.shownAll ((toRk kvs).map (·.2)), t.length ≤ sizeLine) → ShwAll P w h us ((toRk kvs).map (·.2))
  | [], vs, us, r, l, _, _, _ => by unfold RepK at r; subst r; cases l; unfold toRk; exact .nil
  | (k, d) :: ds, vs, us, r, l, no, hs, hz => by
    unfold RepK at r
    obtain ⟨key, v, r', rfl, _, r1, r2⟩ := r
    cases l with
    | cons l1 l2 =>
      unfold noObjk at no
      rw [Bool.and_eq_true] at no
      unfold toRk at hs hz ⊢
      rw [List.map_cons] at hs hz ⊢
      obtain ⟨s1, s2⟩ := showableAll_cons hs
      simp only [PyData.shownAll, List.mem_cons, forall_eq_or_imp] at hz
      exact .cons (Rep.shw co ok d v _ r1 l1 no.1 s1 hz.1).1 (RepK.shw co ok ds _ _ r2 l2 no.2 s2 hz.2)
theorem RepT.shw (co : Coh J G H) (ok : HOk P w H h) : ∀ (kvs : List (D × D)) (es : List (List Key × V)) (us : List Value), RepT G kvs es → Vals (es.map (·.2)) us → noObjk kvs = true → PyData.showableAll ((toRk kvs).map (·.2)) = true → (∀ t ∈ PyData.shownAll ((toRk kvs).map (·.2)), t.length ≤ sizeLine) → ShwAll P w h us ((toRk kvs).map (·.2))
  | [], vs, us, r, l, _, _, _ => by unfold RepT at r; subst r; cases l; unfold toRk; exact .nil
  | (k, d) :: ds, vs, us, r, l, no, hs, hz => by
    unfold RepT at r
    obtain ⟨key, v, r', rfl, _, r1, r2⟩ := r
    cases l with
    | cons l1 l2 =>
      unfold noObjk at no
      rw [Bool.and_eq_true] at no
      unfold toRk at hs hz ⊢
      rw [List.map_cons] at hs hz ⊢
      obtain ⟨s1, s2⟩ := showableAll_cons hs
      simp only [PyData.shownAll, List.mem_cons, forall_eq_or_imp] at hz
      exact .cons (Rep.shw co ok d v _ r1 l1 no.1 s1 hz.1).1 (RepT.shw co ok ds _ _ r2 l2 no.2 s2 hz.2)
end
end
/-- the text of repr -/
def shownD (d : D) : Str := (toR d).shown
def reprW : CallW := fun ds P => ∃ d, ds = [d] ∧ noObj d = true ∧ (toR d).showable = true ∧ (toR d).depth ≤ 60 ∧ (shownD d).length ≤ sizeLine ∧ P (.val (.str (shownD d)))
section
variable {X : Cx} {c : Pc}
theorem cr_repr (hu : X.A.units + 64 < cLine) (hg : X.A.guards = some []) : CallR X (.builtin "repr") (rOf c reprW) := by
  intro pins s σ H vs us Q I rv ⟨G, ds, P, co, rs, ⟨d, e, no, sh, dp, sz, p⟩, k⟩
  subst e
  obtain ⟨v, rfl, r1⟩ := rs.one
  obtain ⟨u, rfl, l⟩ := vals1 rv
  obtain ⟨⟨as, bs, rd, m, kk⟩, top⟩ := Rep.shw (P := X.prog) (w := X.w) co I.hok d v u r1 l no sh sz
  have done : ∀ (h' : Heap) (t tk : Nat), (∀ b o, s.heap.get? b = some o → h'.get? b = some o) → EP X pins σ Q (.str (toR d).shown t) { s with heap := h', toks := tk } := fun h' t tk hk =>
    ⟨.str _, H, I.kept hk, ⟨t, rfl⟩, k _ p _ G H (Step.refl co) (rep_str (G := G) _)⟩
  cases u with
  | ref a =>
    obtain ⟨T, idr, S⟩ := top a rfl sz
    exact call_repr_slot (by omega) (S.typeIs s fun _ _ e => e) S.slotRepr (S.call X.A.in1 _ s _ hg (by show X.A.units + 1 + (toR d).depth < cLine; omega) (fun _ _ e => e) fun h' u tk hk => ⟨_, _, rfl, done h' u tk hk⟩)
  | none =>
    cases rd' : toR d <;> rw [rd'] at rd <;> try (cases rd; done)
    refine PySem.P.repr_of_none ?_
    have := done s.heap s.toks (s.toks + 1) fun _ _ e => e
    rw [rd'] at this; simpa only [PyData.shown] using this
  | bool b =>
    cases rd' : toR d <;> rw [rd'] at rd <;> try (cases rd; done)
    cases rd
    refine PySem.P.repr_of_bool ?_
    have := done s.heap s.toks (s.toks + 1) fun _ _ e => e
    rw [rd'] at this; simpa only [PyData.shown] using this
  | int i t =>
    cases rd' : toR d <;> rw [rd'] at rd sh <;> try (cases rd; done)
    cases rd
    refine PySem.P.repr_of_int (by simpa [PyData.showable] using sh) ?_
    have := done s.heap s.toks (s.toks + 1) fun _ _ e => e
    rw [rd'] at this; simpa only [PyData.shown] using this
  | str x t =>
    unfold shownD at sz
    cases rd' : toR d <;> rw [rd'] at rd sz <;> try (cases rd; done)
    cases rd
    refine PySem.P.repr_of_str ?_ (by simpa only [PyData.shown] using sz)
    have := done s.heap s.toks (s.toks + 1) fun _ _ e => e
    rw [rd'] at this; simpa only [PyData.shown] using this
  | _ => exact nomatch rd
end
end PL
end
section
set_option Elab.async false
set_option linter.all false
set_option maxRecDepth 100000
set_option autoImplicit false
namespace PL.RevT
open PySem PySem.Spec PyProof.Rows HT
section
variable {prog : Program} {w : World} {A : Around} {E : Value → Shared → Prop} {s : Shared}
theorem applied_rev {sl : Addr} {vl vu vs : Value} {n : Nat} {Q : Int × Int × Nat → Shared → Prop} (hs : s.heap.IsSliceOf sl vl vu vs) (pl : IsPart vl none) (pu : IsPart vu none) (ps : IsPart vs (some (-1)))
    (h : Q ((n : Int) - 1, -1, n) s) : wpAny (model prog w) A (Builtin.Slice.sliceApplied (.ref sl) (pure (n : Int))) Q E s := by
  obtain ⟨os, hos, hcs, hds⟩ := id hs
  unfold Builtin.Slice.sliceApplied Builtin.Slice.sliceFields
  refine wpAny_bind (wpAny_bind (wpAny_field hos hds (x := vl) rfl (wpAny_bind (wpAny_field hos hds (x := vu) rfl (wpAny_bind (wpAny_field hos hds (x := vs) rfl (wpAny_pure ?_)))))))
  refine wpAny_bind (slicePart_ ps ?_)
  show wpAny _ _ (if ((-1 : Int) == 0) = true then _ else _) _ _ s
  rw [if_neg (by decide)]
  refine wpAny_bind (slicePart_ pl (wpAny_bind (slicePart_ pu (wpAny_bind (wpAny_pure ?_)))))
  have e1 : Builtin.Slice.sliceAdjust none none (-1) (n : Int) = ((n : Int) - 1, -1) := by
    unfold Builtin.Slice.sliceAdjust
    have h1 : ((-1 : Int) < 0) := by omega
    simp [h1]
  have e2 : Builtin.Slice.slicePlaces ((n : Int) - 1) (-1) (-1) = n := by
    unfold Builtin.Slice.slicePlaces
    have h1 : ¬ ((-1 : Int) > 0) := by omega
    simp only [h1, if_false, Int.neg_neg, Int.ediv_one]
    split <;> omega
  show wpAny _ _ (match Builtin.Slice.sliceAdjust none none (-1) (n : Int) with | (lo, hi) => pure (lo, (-1 : Int), Builtin.Slice.slicePlaces lo hi (-1))) _ _ s
  rw [e1]
  show wpAny _ _ (pure ((n : Int) - 1, (-1 : Int), Builtin.Slice.slicePlaces ((n : Int) - 1) (-1) (-1))) _ _ s
  rw [e2]
  exact wpAny_pure h
theorem pick_rev (l : List Value) : ((List.range l.length).filterMap fun (m : Nat) => l[(((l.length : Int) - 1) + (m : Int) * (-1)).toNat]?) = l.reverse := by
  apply List.ext_getElem?
  intro i
  have e : (List.range l.length).filterMap (fun (m : Nat) => l[(((l.length : Int) - 1) + (m : Int) * (-1)).toNat]?) = (List.range l.length).map (fun m => l.getD (l.length - 1 - m) Value.none) := by
    have key : ∀ r : List Nat, (∀ m ∈ r, m < l.length) → r.filterMap (fun (m : Nat) => l[(((l.length : Int) - 1) + (m : Int) * (-1)).toNat]?) = r.map (fun m => l.getD (l.length - 1 - m) Value.none) := by
      intro r
      induction r with
      | nil => intro _; rfl
      | cons m r ih =>
        intro hm
        have hm' := hm m (List.mem_cons_self ..)
        have e0 : (((l.length : Int) - 1) + (m : Int) * (-1)).toNat = l.length - 1 - m := by omega
        have hlt : l.length - 1 - m < l.length := by omega
        rw [List.filterMap_cons, e0, List.getElem?_eq_getElem hlt, List.map_cons, ih (fun m hm2 => hm m (List.mem_cons_of_mem _ hm2)), List.getD_eq_getElem?_getD, List.getElem?_eq_getElem hlt]
        rfl
    exact key _ fun m hm => List.mem_range.mp hm
  rw [e, List.getElem?_map]
  by_cases hi : i < l.length
  · rw [List.getElem?_range hi, List.getElem?_reverse hi]
    have hlt : l.length - 1 - i < l.length := by omega
    simp [List.getElem?_eq_getElem hlt]
  · rw [List.getElem?_eq_none (by simpa using hi), List.getElem?_eq_none (by simpa using hi)]; rfl
theorem getItem_tuple_rev {t sl : Addr} {its : List Value} {vl vu vs : Value} {Q : Value → Shared → Prop} (ht : IsTup s.heap t its.toArray) (hs : s.heap.IsSliceOf sl vl vu vs) (pl : IsPart vl none) (pu : IsPart vu none) (ps : IsPart vs (some (-1)))
    (h : Q (.ref s.heap.objs.size) { s with heap := s.heap.push { cls := .type "tuple", data := .seq its.reverse.toArray } })
    (hsz : its.length ≤ sizeLine) : wpAny (model prog w) A (getItem (.ref t) (.ref sl)) Q E s := by
  have htake : sizeOk (.seq its.reverse.toArray) := by
    show its.reverse.toArray.size ≤ sizeLine
    rw [List.size_toArray, List.length_reverse]; exact hsz
  obtain ⟨os, hos, hcs, hds⟩ := id hs
  have hTs : s.TypeIs (.ref sl) "slice" := ⟨os, hos, hcs⟩
  unfold getItem
  try with_reducible refine wpAny_holding ?_
  first | refine wpAny_bind (wpAny_pure ?_) | skip
  refine wpAny_bind (wpAny_sequenceKey ht.typeIs (by decide) ?_)
  refine wpAny_bind (wpAny_callSpecial?_slot (name := Str.ofString "__getitem__") ht.typeIs PyProof.Rows.slot_tuple_getitem
    (wpAny_call_entry PyProof.Rows.slot_tuple_getitem ht.typeIs entry_tuple_getitem ?_ (args_tuple_getitem _ _)))
  show wpAny _ _ (Builtin.Tuple.tupleItemsOf (.ref t) >>= _) _ _ s
  refine wpAny_bind (tupleItemsOf_ ht ?_)
  refine wpAny_bind (wpAny_typeOf hTs ?_)
  rw [if_pos (by decide)]
  have en : (its.toArray.size : Int) = (its.length : Int) := by rw [List.size_toArray]
  refine wpAny_bind (applied_rev hs pl pu ps ?_)
  have hno : ¬ (((its.toArray.size : Int) - 1 == 0 && (-1 : Int) == 1 && its.toArray.size == its.toArray.size) = true) := by simp
  show wpAny _ _ (if ((its.toArray.size : Int) - 1 == 0 && (-1 : Int) == 1 && its.toArray.size == its.toArray.size) = true then _ else _) _ _ s
  rw [if_neg hno]
  have ep : ((List.range its.toArray.size).filterMap fun (m : Nat) => its.toArray[(((its.toArray.size : Int) - 1) + (m : Int) * (-1)).toNat]?).toArray = its.reverse.toArray := by
    have := pick_rev its
    simp only [List.size_toArray, List.getElem?_toArray]
    rw [this]
  rw [ep]
  first
    | exact wpAny_bind (m := Builtin.Tuple.tupleExact _) (wpAny_newObj_type (wpAny_pure ⟨_, rfl, wpAny_pure h⟩) htake)
    | exact wpAny_bind (m := Builtin.Tuple.tupleExact _) (wpAny_newObj_type (wpAny_bind (wpAny_pure (wpAny_pure ⟨_, rfl, wpAny_pure h⟩))) htake)
    | exact wpAny_bind (wpAny_bind (m := Builtin.Tuple.tupleExact _) (wpAny_newObj_type (wpAny_pure (wpAny_pure ⟨_, rfl, wpAny_pure h⟩)) htake))
    | exact wpAny_bind (wpAny_bind (m := Builtin.Tuple.tupleExact _) (wpAny_newObj_type (wpAny_pure ⟨_, rfl, wpAny_pure h⟩) htake))
end
end PL.RevT
namespace PL
open PySem PySem.Spec L2
open PyProof.Rows hiding St
section
variable {X : Cx} {c : Pc} {e a b : Expr} {fa fb f : WE} {pos : Pos} {st : Stmt}
/-! ### xs[::-1] of a list or a tuple -/
def tRevA (K : PySem.W.Frag) (te : TE) : TE := fun σ H Q => te σ H fun x H1 => ∃ a xs, x = .ref a ∧ ((SqL K H1 a xs ∧ ∀ p, H1 p = none → Q (.ref p) (upd H1 p (.lst xs.reverse))) ∨ (SqT K H1 a xs ∧ ∀ p, H1 p = none → Q (.ref p) (upd H1 p (.tup xs.reverse))))
theorem pe_revA {e : Expr} {te : TE} {k : Nat} {p1 p2 p3 pos : Pos} (he : PE X e te) : PE X (.Subscript e (.Slice none none (some (.UnaryOp .USub (.Constant (.int 1) k p1) p2)) p3) pos) (tRevA X.K te) := by
  refine ⟨fun pins s σ H Q I h => ?_⟩
  refine Subscript_ (thn (he.run pins s σ H _ I h) fun v s1 ⟨x, H1, I1, r1, q1⟩ => ?_)
  obtain ⟨a, xs, ex, hx⟩ := q1
  subst ex
  cases r1
  have hst : PO X (some (.UnaryOp .USub (.Constant (.int 1) k p1) p2)) (tPart (tUn (rU fun i => .int (-i)) (tC (.int 1)))) := po_some (pe_un un_neg pe_int)
  refine wpAny_Slice (thn (po_none.run pins s1 σ H1 (fun o H2 => o = none ∧ H2 = H1) I1 ⟨rfl, rfl⟩) fun vl s2 ⟨l, H2, I2, pl, el, e2⟩ => ?_)
  subst el e2
  refine thn (po_none.run pins s2 σ H2 (fun o H3 => o = none ∧ H3 = H2) I2 ⟨rfl, rfl⟩) fun vu s3 ⟨u, H3, I3, pu, eu, e3⟩ => ?_
  subst eu e3
  refine thn (hst.run pins s3 σ H3 (fun o H4 => o = some (-1) ∧ H4 = H3) I3 ⟨1, rfl, -1, rfl, rfl, rfl⟩) fun vs s4 ⟨o, H4, I4, ps, eo, e4⟩ => ?_
  subst eo e4
  have I5 : Inv X pins σ H4 { s4 with heap := s4.heap.push { cls := .type "slice", data := .fields #[vl, vu, vs] } } := I4.kept (t' := s4.toks) fun b ob q => Heap.get?_push_of_some _ q
  show wpAny (model X.prog X.w) X.A (subscriptTail e (.Slice none none (some (.UnaryOp .USub (.Constant (.int 1) k p1) p2)) p3) (.ref a) (.ref s4.heap.objs.size)) (EP X pins σ Q) X.xe { s4 with heap := s4.heap.push { cls := .type "slice", data := .fields #[vl, vu, vs] } }
  rcases hx with ⟨hx, q⟩ | ⟨hx, q⟩
  · obtain ⟨its, r, ht, hz⟩ := I5.list hx
    have hlen := r.length
    refine tail_any (ops := [.ref a, .ref s4.heap.objs.size]) ht.isList.typeIs (PySem.slot_list_getitem.lookup) ?_ (by with_unfolding_all rfl)
    refine wpAny_getItem_list_slice ht.isList (Heap.IsSliceOf.new _ vl vu vs) pl pu ps (by decide) ?_ (by rw [List.size_toArray]; omega)
    rw [PySem.W.krv_pick]
    refine ⟨.ref _, _, I5.laid (t' := s4.toks) (o := .lst xs.reverse) (fun b ob q => Heap.get?_push_of_some _ q) (Nat.le_refl _) ?_, rfl, q _ (I5.hok.fresh (Nat.le_refl _))⟩
    exact ⟨by rw [List.length_reverse]; exact hz, _, 0, r.reverse, Heap.get?_push_size _ rfl⟩
  · obtain ⟨its, r, ht, hz⟩ := I5.tuple hx
    have hlen := r.length
    refine tail_any (ops := [.ref a, .ref s4.heap.objs.size]) ht.typeIs (PyProof.Rows.slot_tuple_getitem.lookup) ?_ (by with_unfolding_all rfl)
    refine RevT.getItem_tuple_rev ht (Heap.IsSliceOf.new _ vl vu vs) pl pu ps ?_ (by omega)
    refine ⟨.ref _, _, I5.laid (t' := s4.toks) (o := .tup xs.reverse) (fun b ob q => Heap.get?_push_of_some _ q) (Nat.le_refl _) ?_, rfl, q _ (I5.hok.fresh (Nat.le_refl _))⟩
    exact ⟨by rw [List.length_reverse]; exact hz, _, r.reverse, ⟨_, Heap.get?_push_size _ rfl, rfl, _, rfl⟩⟩
def wRev (f : WE) : WE := fun ρ P E => f ρ (fun r => ∃ xs, (r.toD = .lst xs ∧ P (.own xs.reverse)) ∨ (r.toD = .tup xs ∧ P (.val (.tup xs.reverse)))) E
theorem pd_rev {k : Nat} {p1 p2 p3 : Pos} (he : PE X e (tWE c f)) : PE X (.Subscript e (.Slice none none (some (.UnaryOp .USub (.Constant (.int 1) k p1) p2)) p3) pos) (tWE c (wRev f)) :=
  PE.imp (pe_revA (pdD he)) fun σ H Q ⟨G, ρ, P, E, co, sr, h, hp, hx⟩ => opnd co sr hx h fun r pr x G1 H1 st1 rd co1 sr1 hx1 => by
    obtain ⟨xs, ⟨e1, p⟩ | ⟨e1, p⟩⟩ := pr
    · rw [e1] at rd
      obtain ⟨a, vs, rfl, h1, r1, _⟩ := rd.sqL co1
      exact ⟨a, vs, rfl, .inl ⟨.inl (.inl h1), fun q nq => hp _ p _ _ _ (st1.trans (Step.newOwn c.jo co1 nq)) (repR_own (st1.dom c.jo nq) (co1.fresh c.jo nq) r1.reverse)⟩⟩
    · rw [e1] at rd
      obtain ⟨a, vs, rfl, h1, r1, _⟩ := rd.sqT (K := X.K) co1
      exact ⟨a, vs, rfl, .inr ⟨h1, fun q nq => hp _ p _ _ _ (st1.trans (newTup c.jo co1 nq)) (rep_tup (co1.fresh c.jo nq) r1.reverse)⟩⟩

/-! ### {k: v} -/
def wDisp1 (fk fv : WE) : WE := fun ρ P E => fk ρ (fun rk => fv ρ (fun rv => ∃ k, D.key? rk.toD = some k ∧ P (.ownd false [(rk.toD, rv.toD)])) E) E
theorem rep_keyV {G : Gh} {d : D} {k : Key} {v : V} (hk : D.key? d = some k) (r : Rep G d v) : v = kV k := by
  rw [key_some hk] at r
  cases k with
  | inl i => exact r.int_
  | inr x => exact r.str_
theorem pd_disp1 {ka va : Expr} {fk fv : WE} (hk : PE X ka (tWE c fk)) (hv : PE X va (tWE c fv)) : PE X (.Dict [some ka] [va] pos) (tWE c (wDisp1 fk fv)) :=
  PE.imp (pe_disp (pps_cons (pdD hk) (pdD hv) pps_nil) rfl rfl (fun h => nomatch h) (Nat.le_of_ble_eq_true rfl)) fun σ H Q ⟨G, ρ, P, E, co, sr, h, hp, hx⟩ => fun p np => by
    have s0 := Step.newOwn (o := .dK []) c.jo co np
    refine opnd (G := G) s0.coh (sr.step s0) (hx.step s0) h fun rk pk x G1 H1 st1 rd1 co1 sr1 hx1 => ?_
    refine opnd co1 sr1 hx1 pk fun rv pv y G2 H2 st2 rd2 co2 sr2 hx2 => ?_
    obtain ⟨k, ek, pp⟩ := pv
    have st := st1.trans st2
    obtain ⟨h1, n1⟩ := st.frame p _ upd_same (co.fresh c.jo np)
    refine ⟨h1, [(k, y)], ?_, by simp, ?_⟩
    · rw [rep_keyV ek (Rep.mono st2.le _ _ rd1)]; rfl
    · have full := s0.trans st
      have s' : Step c.J G H G2 (upd H2 p (.dK [(k, y)])) := ⟨full.le, full.coh.move c.jo fun a g e => upd_ne (by rintro rfl; rw [n1] at e; cases e), fun a o h nt z => by
          have ne : a ≠ p := by rintro rfl; rw [np] at h; cases h
          rw [upd_ne ne]; exact full.keep a o h nt z, fun a xs h => by
          have ne : a ≠ p := by rintro rfl; rw [np] at h; cases h
          rw [upd_ne ne]; exact full.tups a xs h⟩
      refine hp _ pp (.ref p) G2 _ s' ⟨p, [(k, y)], rfl, np, n1, ?_, ?_⟩
      · rw [upd_same]; rfl
      · unfold RepK
        refine ⟨k, y, [], rfl, key_some ek, rd2, ?_⟩
        unfold RepK; rfl

/-! ### code that is never reached -/
def wNever : WS := fun _ _ _ => False
theorem ws_never : PS X st (tWS c wNever) := PS.imp ps_never fun D σ H ⟨G, ρ, k, E, s, sr, h, ok, x⟩ => h.elim
end
end PL
end
section
set_option Elab.async false
set_option linter.all false
set_option maxRecDepth 100000
set_option autoImplicit false
namespace PL
open PySem PySem.Spec L2
open PyProof.Rows hiding St
/-! ### dict(pairs), the keys tuples -/
def mergeT (acc : List (List Key × V)) (more : List (List Key × V)) : List (List Key × V) := more.foldl (fun acc kv => putK acc kv.1 kv.2) acc
theorem length_mergeT : ∀ (more acc : List (List Key × V)), (mergeT acc more).length ≤ acc.length + more.length
  | [], acc => by show acc.length ≤ acc.length + 0; omega
  | p :: r, acc => by
    have h1 := length_mergeT r (putK acc p.1 p.2)
    have h2 := length_putK acc p.1 p.2
    show (mergeT (putK acc p.1 p.2) r).length ≤ _
    rw [List.length_cons]; omega
structure PrOk (H : Hp) (p : Addr) (x : List Key × Addr × V) : Prop where
  pr : H p = some (.tup [.ref x.2.1, x.2.2])
  ky : H x.2.1 = some (.tup (x.1.map kV))
theorem KT.mergeT {H : Hp} : ∀ {l : List (List Key × Addr × V)} {m : List (List Key × Addr × Value)} {acc : List (List Key × V)} {vs : List (List Key × Addr × Value)},
    Paired (fun (x : List Key × Addr × V) (y : List Key × Addr × Value) => x.1 = y.1 ∧ x.2.1 = y.2.1 ∧ RelV x.2.2 y.2.2 ∧ H x.2.1 = some (.tup (x.1.map kV))) l m → KT H acc vs → KT H (PL.mergeT acc (l.map fun x => (x.1, x.2.2))) (storedAllH vs m) := by
  intro l m acc vs r
  induction r generalizing acc vs with
  | nil => intro q; exact q
  | @cons a b as bs h t ih =>
    intro q
    obtain ⟨k1, b1, v1⟩ := a
    obtain ⟨k2, b2, v2⟩ := b
    obtain ⟨e1, e2, e3, e4⟩ := h
    simp only at e1 e2 e3 e4
    subst e1 e2
    rw [List.map_cons]
    exact ih (q.put k1 e4 e3)
section
variable {X : Cx}
theorem prs_of {pins : List (Addr × Obj)} {σ : L2.St} {H : Hp} {s : Shared} (I : Inv X pins σ H s) : ∀ {ps : List Addr} {l : List (List Key × Addr × V)}, Paired (PrOk H) ps l →
    ∃ m : List (List Key × Addr × Value), Paired (fun (x : List Key × Addr × V) (y : List Key × Addr × Value) => x.1 = y.1 ∧ x.2.1 = y.2.1 ∧ RelV x.2.2 y.2.2 ∧ H x.2.1 = some (.tup (x.1.map kV))) l m ∧
      m.length = ps.length ∧ (∀ (j : Nat) (q : List Key × Addr × Value), m[j]? = some q → ∃ p, ps[j]? = some p ∧ IsTup s.heap p #[.ref q.2.1, q.2.2]) ∧ ∀ q ∈ m, (tupleKind (mixKind X.prog X.w)).is s.heap q.1 q.2.1
  | _, _, .nil => ⟨[], .nil, rfl, fun j q e => by simp at e, fun q h => nomatch h⟩
  | _, _, .cons (a := p) (b := x) h t => by
    obtain ⟨m, r, hl, hp, hk⟩ := prs_of I t
    obtain ⟨k, b, v⟩ := x
    obtain ⟨its, rv, ht, _⟩ := I.tuple (xs := [.ref b, v]) (.inl (.inl h.pr))
    obtain ⟨u, y, ei, ru, ry⟩ := vals2 rv
    subst ei
    obtain rfl : u = Value.ref b := ru
    refine ⟨(k, b, y) :: m, .cons ⟨rfl, rfl, ry, h.ky⟩ r, by rw [List.length_cons, List.length_cons, hl], fun j q e => ?_, fun q hq => ?_⟩
    · cases j with
      | zero =>
        have e' : (k, b, y) = q := Option.some.inj e
        subst e'
        exact ⟨p, rfl, ht⟩
      | succ j =>
        obtain ⟨p', e1, e2⟩ := hp j q (by simpa using e)
        exact ⟨p', by simpa using e1, e2⟩
    · rcases List.mem_cons.mp hq with rfl | hq
      · exact key_of I.hok h.ky
      · exact hk q hq
theorem is_tup {h : Heap} {a : Addr} {its : Array Value} (x : IsTup h a its) : h.IsTuple a its := x
theorem call_dictT (hcalm : X.calm = true) (hu : X.A.units + 64 < cLine) : CallR X (.type "dict") (fun xs H Q => ∃ (a : Addr) (ps : List Addr) (l : List (List Key × Addr × V)), xs = [.ref a] ∧ H a = some (.lst (ps.map V.ref)) ∧ Paired (PrOk H) ps l ∧
    ∀ p, H p = none → Q (.ref p) (upd H p (.dT (mergeT [] (l.map fun x => (x.1, x.2.2)))))) := by
  intro pins s σ H xs us Q I r q
  obtain ⟨a, ps, l, ex, hq, hp, q⟩ := q
  subst ex
  obtain ⟨u, eu, rx⟩ := vals1 r
  subst eu
  cases rx
  obtain ⟨hz, its, n, rv, ho⟩ := (I.hok a _ hq : ObjOk X.prog X.w H s.heap a (.lst (ps.map V.ref)))
  have ei := refs_at rv
  subst ei
  rw [List.length_map] at hz
  obtain ⟨m, rel, hl, hpr, hk⟩ := prs_of I hp
  have hml : m.length = l.length := (Paired.length rel).symm
  refine call_dict_pairsH (knd := tupleKind (mixKind X.prog X.w)) (ps := m) (n := (m.map fun q => ((Value.ref q.2.1, q.2.2) : Value × Value)).length) (Rel := PairRel (m.map fun q => (Value.ref q.2.1, q.2.2)))
    (PairArg.list (prog := X.prog) (w := X.w) a (ps.map Value.ref).toArray (fun j => ps.getD j 0) (m.map fun q => (Value.ref q.2.1, q.2.2))) (I.ok.hd hcalm) (tupleKind_room_in1 (A := X.A.in1) (by show X.A.units + 1 + 1 < cLine; omega)) ?_ ?_ ?_ (by rw [List.length_map, hl]; exact hz) fun h' tk hd' k => ?_
  · refine ⟨⟨_, n, ho, rfl, rfl, rfl⟩, by simp [hl], fun j k v e => ?_⟩
    rw [List.getElem?_map] at e
    obtain ⟨q', e1, e2⟩ := Option.map_eq_some_iff.mp e
    cases e2
    obtain ⟨p, e3, e4⟩ := hpr j q' e1
    have eg : ps.getD j 0 = p := by rw [List.getD_eq_getElem?_getD, e3]; rfl
    refine ⟨by simp [e3], ?_⟩
    show PairAt s.heap (ps.getD j 0) _ _
    rw [eg]
    exact .inl (is_tup e4)
  · refine ⟨by rw [List.length_map], fun i key v e => ?_⟩
    have e' : (m.map fun q => ((Value.ref q.2.1, q.2.2) : Value × Value))[i]? = some (key, v) := e
    rw [List.getElem?_map] at e'
    obtain ⟨q', e1, e2⟩ := Option.map_eq_some_iff.mp e'
    cases e2
    exact ⟨q'.1, q'.2.1, e1, rfl⟩
  · intro h' hk' x hx
    obtain ⟨o, its, n', h1, h2, h3, h4⟩ := hk x hx
    exact ⟨o, its, n', hk' _ _ (Nat.ne_of_lt (Heap.lt_size h1)) (fun z => nomatch z) h1, h2, h3, h4⟩
  · have k' : ∀ b o, s.heap.get? b = some o → h'.get? b = some o := fun b o e => k b o (fun z => nomatch z) e
    have hm : (s.heap.objs.size == sysModules) = false := beq_eq_false_iff_ne.mpr (Nat.ne_of_gt I.big)
    have hlen : (mergeT [] (l.map fun x => (x.1, x.2.2))).length ≤ sizeLine := by
      refine Nat.le_trans (length_mergeT _ []) ?_
      rw [List.length_nil, Nat.zero_add, List.length_map, ← hml, hl]
      exact hz
    have nw : H s.heap.objs.size = none := I.hok.fresh (Nat.le_refl _)
    refine ⟨.ref s.heap.objs.size, upd H s.heap.objs.size (.dT (mergeT [] (l.map fun x => (x.1, x.2.2)))), I.laid (t' := tk) k' (Nat.le_refl _) ?_, rfl, q _ nw⟩
    obtain ⟨qo, es, ep, hq', h2, h3, h4, _, h5⟩ := hd'
    refine ⟨hlen, hm, storedAllH [] m, (KT.mergeT rel (.nil : KT H [] [])).keeps fun b ys eb => ?_, qo, es, ep, hq', h2, h3, h4, h5⟩
    rw [upd_ne (ne_of_none eb nw)]
    exact eb
end
def putAllD (kvs : List (D × D)) : List (D × D) := kvs.foldl (fun acc p => putD acc p.1 p.2) []
def dictPW : CallW := fun ds P => ∃ kvs : List (D × D), ds = [.lst (kvs.map fun p => .tup [p.1, p.2])] ∧ (∀ p ∈ kvs, (D.keys? p.1).isSome = true) ∧ P (.ownd true (putAllD kvs))
section
variable {X : Cx} {c : Pc} {e a b : Expr} {fa fb f : WE} {pos : Pos} {st : Stmt}
theorem reps_kV {G : Gh} : ∀ {ks : List Key} {vs : List V}, Reps G (ks.map keyD) vs → vs = ks.map kV
  | [], vs, h => by unfold Reps at h; exact h
  | x :: ks, vs, h => by
    obtain ⟨w, r5, rfl, rw1, rw2⟩ := h.uncons
    rw [List.map_cons, reps_kV rw2]
    congr 1
    cases x with
    | inl i => exact rw1.int_
    | inr z => exact rw1.str_
theorem pairs_rep {J : JT} {G : Gh} {H : Hp} (co : Coh J G H) : ∀ {kvs : List (D × D)} {vs : List V}, Reps G (kvs.map fun p => .tup [p.1, p.2]) vs → (∀ p ∈ kvs, (D.keys? p.1).isSome = true) →
    ∃ ps l, vs = ps.map V.ref ∧ Paired (PrOk H) ps l ∧ ∀ acc es, RepT G acc es → RepT G (kvs.foldl (fun acc p => putD acc p.1 p.2) acc) (mergeT es (l.map fun x => (x.1, x.2.2)))
  | [], vs, r, _ => by cases vs with
    | nil => exact ⟨[], [], rfl, .nil, fun _ _ h => h⟩
    | cons => cases r.length
  | (k, d) :: kvs, vs, r, hk => by
    obtain ⟨v, r', rfl, r1, r2⟩ := r.uncons
    obtain ⟨ps, l, rfl, hp, hf⟩ := pairs_rep co r2 (fun p hp => hk p (List.mem_cons_of_mem _ hp))
    have hk1 := hk (k, d) (List.mem_cons_self ..)
    obtain ⟨ks, eks⟩ := Option.isSome_iff_exists.mp hk1
    have ek := keys_some eks
    simp only at ek
    subst ek
    unfold Rep at r1
    obtain ⟨p, vs1, rfl, g1, rr⟩ := r1
    obtain ⟨u1, r3, rfl, ru1, rr2⟩ := rr.uncons
    obtain ⟨u2, r4, rfl, ru2, rr3⟩ := rr2.uncons
    cases r4 with
    | cons => cases rr3.length
    | nil =>
      unfold Rep at ru1
      obtain ⟨b, vs2, rfl, g2, rk⟩ := ru1
      have ev : vs2 = ks.map kV := reps_kV rk
      subst ev
      refine ⟨p :: ps, (ks, b, u2) :: l, rfl, .cons ⟨co p _ g1, co b _ g2⟩ hp, fun acc es h => ?_⟩
      rw [List.map_cons]
      exact hf _ _ (RepT.put ru2 h)
theorem cr_dictP (hc : X.calm = true) (hu : X.A.units + 64 < cLine) : CallR X (.type "dict") (rOf c dictPW) := by
  intro pins s σ H vs us Q I rv ⟨G, ds, P, co, rs, ⟨kvs, e, hk, p⟩, k⟩
  subst e
  obtain ⟨v, rfl, r1⟩ := rs.one
  obtain ⟨a, ws, rfl, h1, r2, _⟩ := r1.sqL co
  obtain ⟨ps, l, rfl, hp, hf⟩ := pairs_rep co r2 hk
  refine call_dictT hc hu pins s σ H _ us Q I rv ⟨a, ps, l, rfl, h1, hp, fun q nq => k _ p _ _ _ (Step.newOwn c.jo co nq) ⟨q, _, rfl, nq, co.fresh c.jo nq, upd_same, hf [] [] (by unfold RepT; rfl)⟩⟩
end
end PL
end
section
set_option Elab.async false
set_option linter.all false
set_option maxRecDepth 100000
set_option autoImplicit false
namespace PL
open PySem PySem.Spec L2
open PyProof.Rows hiding St
/-! ### what is never thawed -/
def gsol (G : Gh) : Gh := fun a => match G a with
  | some (.lst _) => none
  | some (.dK _) => none
  | some (.dT _) => none
  | o => o
theorem gsol_le (G : Gh) : GLe (gsol G) G := fun a g h => by
  unfold gsol at h
  split at h
  · cases h
  · cases h
  · cases h
  · exact h
theorem gsol_of {G : Gh} {a : Addr} {g : GO} (h : G a = some g) (n : ¬ Tmp g) : gsol G a = some g := by
  unfold gsol
  rw [h]
  cases g with
  | lst _ => exact absurd trivial n
  | dK _ => exact absurd trivial n
  | dT _ => exact absurd trivial n
  | _ => rfl
theorem gsol_tmp {G : Gh} {a : Addr} {g : GO} (h : gsol G a = some g) : ¬ Tmp g ∧ G a = some g := by
  refine ⟨fun t => ?_, gsol_le G a g h⟩
  have h2 := gsol_le G a g h
  unfold gsol at h
  rw [h2] at h
  cases g with
  | lst _ => cases h
  | dK _ => cases h
  | dT _ => cases h
  | _ => exact t
theorem gsol_mono {G G' : Gh} (le : GLe G G') : GLe (gsol G) (gsol G') := fun a g h => by
  obtain ⟨n, h2⟩ := gsol_tmp h
  exact gsol_of (le a g h2) n
theorem gsol_del {G : Gh} {p : Addr} {g : GO} (h : G p = some g) (t : Tmp g) : GLe (gsol G) (gsol (gdel G p)) := fun a o e => by
  obtain ⟨n, h2⟩ := gsol_tmp e
  refine gsol_of ?_ n
  rw [gdel_ne]
  · exact h2
  · rintro rfl; rw [h] at h2; cases h2; exact n t
mutual
theorem Rep.sol {G : Gh} : ∀ (d : D) (v : V), d.solid = true → Rep G d v → Rep (gsol G) d v
  | .non, v, _, h => by unfold Rep at h ⊢; exact h
  | .bl b, v, _, h => by unfold Rep at h ⊢; exact h
  | .int b, v, _, h => by unfold Rep at h ⊢; exact h
  | .str b, v, _, h => by unfold Rep at h ⊢; exact h
  | .tup ds, v, s, h => by
    unfold Rep at h ⊢; obtain ⟨a, vs, e, q, r⟩ := h
    unfold D.solid at s
    exact ⟨a, vs, e, gsol_of q (fun z => z), Reps.sol ds vs s r⟩
  | .lst ds, v, s, h => by unfold D.solid at s; cases s
  | .dct _ kvs, v, s, h => by unfold D.solid at s; cases s
  | .obj t ds, v, s, h => by
    unfold Rep at h ⊢; obtain ⟨a, e, q⟩ := h
    exact ⟨a, e, gsol_of q (fun z => z)⟩
  | .raw _ none _, v, _, h => by unfold Rep at h ⊢; exact h
  | .raw _ (some _) _, v, _, h => by unfold Rep at h ⊢; exact ⟨h.1, gsol_of h.2 (fun z => z)⟩
theorem Reps.sol {G : Gh} : ∀ (ds : List D) (vs : List V), D.solids ds = true → Reps G ds vs → Reps (gsol G) ds vs
  | [], vs, _, h => by unfold Reps at h ⊢; exact h
  | d :: ds, vs, s, h => by
    unfold D.solids at s; simp only [Bool.and_eq_true] at s
    obtain ⟨v, r, rfl, h1, h2⟩ := h.uncons
    exact .cons (Rep.sol d v s.1 h1) (Reps.sol ds r s.2 h2)
end
theorem RepT.sol {G : Gh} : ∀ (kvs : List (D × D)) (es : List (List Key × V)), (∀ p ∈ kvs, p.2.solid = true) → RepT G kvs es → RepT (gsol G) kvs es
  | [], vs, _, h => by unfold RepT at h ⊢; exact h
  | (k, d) :: ds, vs, s, h => by
    unfold RepT at h ⊢; obtain ⟨key, v, r, e, ek, h1, h2⟩ := h; exact ⟨key, v, r, e, ek, Rep.sol d v (s (k, d) (List.mem_cons_self ..)) h1, RepT.sol ds r (fun p hp => s p (List.mem_cons_of_mem _ hp)) h2⟩

/-! ### a private write -/
theorem Step.objWrite {J : JT} {G : Gh} {H : Hp} {a p : Addr} {t : Nat} {ds : List D} {o : HO} (jo : JOk J) (co : Coh J G H) (ga : G a = some (.inv t ds)) (hp : p = a ∨ G p = some (.priv a)) (nt : NT o) (new : J t ds G (upd H p o) a) : Step J G H G (upd H p o) := by
  have gp : ∀ g, G p = some g → g = .inv t ds ∧ p = a ∨ g = .priv a := fun g e => by
    rcases hp with hp | hp
    · subst hp; rw [ga] at e; cases e; exact .inl ⟨rfl, rfl⟩
    · rw [hp] at e; cases e; exact .inr rfl
  have np : ∃ g, G p = some g := by
    rcases hp with hp | hp
    · exact ⟨_, hp ▸ ga⟩
    · exact ⟨_, hp⟩
  refine ⟨GLe.refl G, ⟨fun b g e => ?_, co.st⟩, fun b o' h n z => ⟨?_, z⟩, fun b xs h => ?_⟩
  · by_cases hb : b = p
    · subst hb
      rcases gp g e with ⟨rfl, hba⟩ | rfl
      · subst hba; exact new
      · exact ⟨o, upd_same, nt⟩
    · have y := co b g e
      cases g with
      | tup vs => exact (upd_ne hb).trans (show H b = _ from y)
      | lst vs => exact (upd_ne hb).trans (show H b = _ from y)
      | dK vs => exact (upd_ne hb).trans (show H b = _ from y)
      | dT vs => exact (upd_ne hb).trans (show H b = _ from y)
      | dF vs => exact (upd_ne hb).trans (show H b = _ from y)
      | inv t' ds' =>
        by_cases hba : b = a
        · subst hba; rw [ga] at e; cases e; exact new
        · refine jo.mono (H' := upd H p o) y (GLe.refl G) fun x hx => upd_ne ?_
          rcases hx with rfl | hx
          · exact hb
          · rintro rfl
            rcases gp _ hx with ⟨z, _⟩ | z
            · cases z
            · cases z; exact hba rfl
      | priv z => obtain ⟨o2, h2, n2⟩ := y; exact ⟨o2, (upd_ne hb).trans h2, n2⟩
      | code q => exact (upd_ne hb).trans (show H b = _ from y)
  · rw [upd_ne]
    · exact h
    · rintro rfl; obtain ⟨g, e⟩ := np; rw [z] at e; cases e
  · by_cases hb : b = p
    · subst hb
      exfalso
      obtain ⟨g, e⟩ := np
      rcases gp g e with ⟨rfl, rfl⟩ | rfl
      · obtain ⟨o2, e2, n2⟩ := jo.dom (co _ _ e); rw [h] at e2; cases e2; exact n2 xs rfl
      · obtain ⟨o2, e2, n2⟩ := co _ _ e; rw [h] at e2; cases e2; exact n2 xs rfl
    · rw [upd_ne hb]; exact h

/-! ### the objects -/
/-- a code table: its code objects are known -/
def JTab (ds : List D) (G : Gh) (H : Hp) (a : Addr) : Prop := ∃ (q : Str) (ps : Array Value), ds = [.str q] ∧ H a = some (.tbl ps) ∧ PySem.TriplesOk ps.toList ∧ ∀ (pos : Pos) (cv : Value), codeAmong pos ps.toList = some cv → ∃ c, cv = .ref c ∧ G c = some (.code q)
structure OP where
  CF : Addr
  valid : Str → List D → D → Prop
  names : List Str
  named : ∀ {x ds d}, valid x ds d → x ∈ names
  few : names.length < 100
  tabs : List (Addr × Str)
  more : JT
  moreOk : JOk more
def JHand (G : Gh) (H : Hp) (a : Addr) : Prop := ∃ (c : Addr) (cells : List Int) (i big mix cnt : Int), H a = some (.lst [.ref c, .int i, .int big, .int mix, .int cnt]) ∧ G c = some (.priv a) ∧ H c = some (.lst (cells.map V.int)) ∧
  (∀ x ∈ cells, 0 ≤ x) ∧ 0 ≤ i ∧ 0 ≤ big
def JFam (o : OP) (ds : List D) (G : Gh) (H : Hp) (a : Addr) : Prop := ∃ (dp dl : D) (dx l : Addr) (vp vl : V) (es : List (Key × V)), ds = [dp, dl] ∧ H a = some (.ins o.CF dx [("points", vp), ("lots", vl), ("looked", .ref l)]) ∧
  G dx = some (.priv a) ∧ H dx = some (.own a) ∧ G l = some (.priv a) ∧ H l = some (.dK es) ∧ Rep (gsol G) dp vp ∧ Rep (gsol G) dl vl ∧ (es.map (·.1)).Nodup ∧ ∀ k v, (k, v) ∈ es → ∃ x d, k = .inr x ∧ o.valid x ds d ∧ Rep (gsol G) d v
/-- the dict of an exception: one field, a number or a text -/
def JExn (ds : List D) (H : Hp) (a : Addr) : Prop := ∃ (n : Str) (f : D) (v : V), ds = [.str n, f] ∧ H a = some (.xd [(n, v)]) ∧ ((∃ i, f = .int i ∧ v = .int i) ∨ ∃ x, f = .str x ∧ v = .str x)
def JO (o : OP) : JT := fun t ds G H a => match t with
  | 0 => ds = [] ∧ JHand G H a
  | 1 => JFam o ds G H a
  | 2 => JExn ds H a
  | 3 => JTab ds G H a
  | 4 => (∃ q, ds = [.str q] ∧ (a, q) ∈ o.tabs) ∧ ∃ u, H a = some u ∧ NT u
  | t + 5 => o.more (t + 5) ds G H a
theorem joOk (o : OP) : JOk (JO o) where
  mono := by
    intro t ds G H G' H' a j le eq
    match t, j with
    | 0, ⟨e, c, cells, i, big, mix, cnt, h1, h2, h3, h4⟩ => exact ⟨e, c, cells, i, big, mix, cnt, (eq _ (.inl rfl)).trans h1, le _ _ h2, (eq _ (.inr h2)).trans h3, h4⟩
    | 1, ⟨dp, dl, dx, l, vp, vl, es, e, h1, h2, h3, h4, h5, h6, h7, h8, h9⟩ =>
      exact ⟨dp, dl, dx, l, vp, vl, es, e, (eq _ (.inl rfl)).trans h1, le _ _ h2, (eq _ (.inr h2)).trans h3, le _ _ h4, (eq _ (.inr h4)).trans h5, Rep.mono (gsol_mono le) _ _ h6, Rep.mono (gsol_mono le) _ _ h7, h8,
        fun k v hm => let ⟨x, d, e1, e2, e3⟩ := h9 k v hm; ⟨x, d, e1, e2, Rep.mono (gsol_mono le) _ _ e3⟩⟩
    | 2, ⟨n, f, v, e, h1, h2⟩ => exact ⟨n, f, v, e, (eq _ (.inl rfl)).trans h1, h2⟩
    | 3, ⟨q, ps, e, h1, h2, h3⟩ => exact ⟨q, ps, e, (eq _ (.inl rfl)).trans h1, h2, fun pos cv hc => let ⟨c, e1, e2⟩ := h3 pos cv hc; ⟨c, e1, le _ _ e2⟩⟩
    | 4, ⟨h, u, e, n⟩ => exact ⟨h, u, (eq _ (.inl rfl)).trans e, n⟩
    | t + 5, j => exact o.moreOk.mono j le eq
  dom := by
    intro t ds G H a j
    match t, j with
    | 0, ⟨e, c, cells, i, big, mix, cnt, h1, h2, h3, h4⟩ => exact ⟨_, h1, fun _ z => nomatch z⟩
    | 1, ⟨dp, dl, dx, l, vp, vl, es, e, h1, _⟩ => exact ⟨_, h1, fun _ z => nomatch z⟩
    | 2, ⟨n, f, v, e, h1, h2⟩ => exact ⟨_, h1, fun _ z => nomatch z⟩
    | 3, ⟨q, ps, e, h1, h2, h3⟩ => exact ⟨_, h1, fun _ z => nomatch z⟩
    | 4, ⟨h, u, e, n⟩ => exact ⟨u, e, n⟩
    | t + 5, j => exact o.moreOk.dom j
  del := by
    intro t ds G H a p g j gp tm
    match t, j with
    | 0, ⟨e, c, cells, i, big, mix, cnt, h1, h2, h3, h4⟩ =>
      refine ⟨e, c, cells, i, big, mix, cnt, h1, ?_, h3, h4⟩
      rw [gdel_ne]
      · exact h2
      · rintro rfl; rw [gp] at h2; cases h2; exact tm
    | 1, ⟨dp, dl, dx, l, vp, vl, es, e, h1, h2, h3, h4, h5, h6, h7, h8, h9⟩ =>
      have k1 : ∀ b, G b = some (.priv a) → gdel G p b = some (.priv a) := fun b hb => by
        rw [gdel_ne]
        · exact hb
        · rintro rfl; rw [gp] at hb; cases hb; exact tm
      have k2 := gsol_del gp tm
      exact ⟨dp, dl, dx, l, vp, vl, es, e, h1, k1 _ h2, h3, k1 _ h4, h5, Rep.mono k2 _ _ h6, Rep.mono k2 _ _ h7, h8, fun k v hm => let ⟨x, d, e1, e2, e3⟩ := h9 k v hm; ⟨x, d, e1, e2, Rep.mono k2 _ _ e3⟩⟩
    | 2, j => exact j
    | 3, ⟨q, ps, e, h1, h2, h3⟩ =>
      refine ⟨q, ps, e, h1, h2, fun pos cv hc => ?_⟩
      obtain ⟨c, e1, e2⟩ := h3 pos cv hc
      refine ⟨c, e1, ?_⟩
      rw [gdel_ne]
      · exact e2
      · rintro rfl; rw [gp] at e2; cases e2; exact tm
    | 4, j => exact j
    | t + 5, j => exact o.moreOk.del j gp tm
/-- no other objects -/
def noMore : JT := fun _ _ _ _ _ => False
theorem noMoreOk : JOk noMore := ⟨fun h _ _ => h.elim, fun h => h.elim, fun h _ _ => h.elim⟩
abbrev dHand : D := .obj 0 []
abbrev dFam (p l : D) : D := .obj 1 [p, l]
end PL
end
section
set_option Elab.async false
set_option linter.all false
set_option maxRecDepth 100000
set_option autoImplicit false
namespace PL
open PySem PySem.Spec L2
open PyProof.Rows hiding St
theorem nodup_le {α : Type} [DecidableEq α] : ∀ (l m : List α), l.Nodup → (∀ x ∈ l, x ∈ m) → l.length ≤ m.length
  | [], m, _, _ => Nat.zero_le _
  | x :: l, m, h, hm => by
    rw [List.nodup_cons] at h
    have hx := hm x (List.mem_cons_self ..)
    have ih := nodup_le l (m.erase x) h.2 (fun y hy => by
      have ne : y ≠ x := by rintro rfl; exact h.1 hy
      exact (List.mem_erase_of_ne ne).mpr (hm y (List.mem_cons_of_mem _ hy)))
    rw [List.length_erase_of_mem hx] at ih
    have : 0 < m.length := List.length_pos_of_mem hx
    rw [List.length_cons]; omega
section
variable {κ : Type} [DecidableEq κ]
theorem putK_keys (kvs : List (κ × V)) (k : κ) (v : V) : (kvs.map (·.1)).Nodup → ((putK kvs k v).map (·.1)).Nodup := by
  intro h
  unfold putK
  by_cases a : (kvs.any fun kv => decide (kv.1 = k)) = true
  · rw [if_pos a, List.map_map]
    have : ((fun x : κ × V => x.1) ∘ fun kv => if kv.1 = k then (kv.1, v) else kv) = fun x => x.1 := by
      funext x; show (if x.1 = k then (x.1, v) else x).1 = x.1; split <;> rfl
    rw [this]; exact h
  · rw [if_neg a, List.map_append, List.map_cons, List.map_nil]
    rw [List.nodup_append]
    refine ⟨h, by simp, fun x hx y hy => ?_⟩
    simp only [List.mem_singleton] at hy
    subst hy
    rintro rfl
    apply a
    rw [List.any_eq_true]
    obtain ⟨p, hp, rfl⟩ := List.mem_map.mp hx
    exact ⟨p, hp, decide_eq_true rfl⟩
theorem putK_mem {kvs : List (κ × V)} {k j : κ} {v u : V} (h : (j, u) ∈ putK kvs k v) : (j = k ∧ u = v) ∨ (j, u) ∈ kvs := by
  unfold putK at h
  by_cases a : (kvs.any fun kv => decide (kv.1 = k)) = true
  · rw [if_pos a] at h
    obtain ⟨p, hp, e⟩ := List.mem_map.mp h
    by_cases q : p.1 = k
    · rw [if_pos q] at e; cases e; exact .inl ⟨q, rfl⟩
    · rw [if_neg q] at e; subst e; exact .inr hp
  · rw [if_neg a] at h
    rcases List.mem_append.mp h with h | h
    · exact .inr h
    · simp only [List.mem_singleton] at h
      cases h; exact .inl ⟨rfl, rfl⟩
theorem valV_mem {kvs : List (κ × V)} {k : κ} {v : V} (h : valV kvs k = some v) : (k, v) ∈ kvs := by
  unfold valV at h
  obtain ⟨p, hp, rfl⟩ := Option.map_eq_some_iff.mp h
  have h1 := List.find?_some hp
  have h2 := List.mem_of_find?_eq_some hp
  have e : p.1 = k := of_decide_eq_true h1
  subst e; exact h2
end
theorem fam_at {o : OP} {G : Gh} {H : Hp} {p l : D} {v : V} (co : Coh (JO o) G H) (r : Rep G (dFam p l) v) : ∃ a, v = .ref a ∧ G a = some (.inv 1 [p, l]) ∧ JFam o [p, l] G H a := by
  unfold Rep at r
  obtain ⟨a, rfl, g⟩ := r
  exact ⟨a, rfl, g, co a _ g⟩
structure FamF (K : PySem.W.Frag) (o : OP) : Prop where
  cls : Cls K o.CF
  nP : NoAttr K o.CF "points"
  nL : NoAttr K o.CF "lots"
  nK : NoAttr K o.CF "looked"
section
variable {X : Cx} {c : Pc} {e a b : Expr} {fa fb f : WE} {pos : Pos} {st : Stmt} {o : OP}
def w_points (f : WE) : WE := fun ρ P E => f ρ (fun r => ∃ p l, r.toD = dFam p l ∧ P (.val p)) E
def w_lots (f : WE) : WE := fun ρ P E => f ρ (fun r => ∃ p l, r.toD = dFam p l ∧ P (.val l)) E
theorem pd_points (F : FamF X.K o) (hJ : c.J = JO o) (he : PE X e (tWE c f)) (hb : attributeBase e "points" X.env (eval e X.env) = eval e X.env := by rfl) : PE X (.Attribute e "points" pos) (tWE c (w_points f)) :=
  PE.imp (pe_fld (pdD he) hb) fun σ H Q ⟨G, ρ, P, E, co, sr, h, hp, hx⟩ => opnd co sr hx h fun r pr x G1 H1 st1 rd co1 sr1 hx1 => by
    obtain ⟨p, l, e1, pp⟩ := pr
    rw [e1] at rd
    rw [hJ] at co1
    obtain ⟨a, rfl, g, dp, dl, dx, l', vp, vl, es, e2, h1, h2, h3, h4, h5, h6, h7, h8, h9⟩ := fam_at co1 rd
    cases e2
    exact ⟨a, o.CF, dx, _, vp, rfl, h1, F.cls, F.nP, rfl, hp _ pp _ _ _ st1 (Rep.mono (gsol_le _) _ _ h6)⟩
theorem pd_lots (F : FamF X.K o) (hJ : c.J = JO o) (he : PE X e (tWE c f)) (hb : attributeBase e "lots" X.env (eval e X.env) = eval e X.env := by rfl) : PE X (.Attribute e "lots" pos) (tWE c (w_lots f)) :=
  PE.imp (pe_fld (pdD he) hb) fun σ H Q ⟨G, ρ, P, E, co, sr, h, hp, hx⟩ => opnd co sr hx h fun r pr x G1 H1 st1 rd co1 sr1 hx1 => by
    obtain ⟨p, l, e1, pp⟩ := pr
    rw [e1] at rd
    rw [hJ] at co1
    obtain ⟨a, rfl, g, dp, dl, dx, l', vp, vl, es, e2, h1, h2, h3, h4, h5, h6, h7, h8, h9⟩ := fam_at co1 rd
    cases e2
    exact ⟨a, o.CF, dx, _, vl, rfl, h1, F.cls, F.nL, rfl, hp _ pp _ _ _ st1 (Rep.mono (gsol_le _) _ _ h7)⟩

/-! ### what is looked up once -/
def Keepable : R → Prop
  | .val d => d.solid = true
  | .ownd true kvs => ∀ p ∈ kvs, p.2.solid = true
  | _ => False
theorem keepable {J : JT} {Hf H : Hp} {G : Gh} {v : V} {r : R} (jo : JOk J) (co : Coh J G H) (k : Keepable r) (rr : RepR Hf G H v r) (hf : ∀ a o, Hf a = none → G a = none → H a = some o → True) : ∃ G', Step J G H G' H ∨ True := ⟨G, .inr trivial⟩
/-- kept for good: the ghost heap tells it -/
theorem RepR.keepR {J : JT} {Hf G0H : Hp} {G0 G : Gh} {H : Hp} {v : V} {r : R} (jo : JOk J) (k : Keepable r) (s : Step J G0 G0H G H) (hf : ∀ a, Hf a = none → G0H a = none) (rr : RepR Hf G H v r) : ∃ G', GLe G G' ∧ Step J G0 G0H G' H ∧ Rep (gsol G') r.toD v := by
  match r, k, rr with
  | .val d, k, rr => exact ⟨G, GLe.refl G, s, Rep.sol d v k rr⟩
  | .ownd true kvs, k, ⟨p, es, e, f, n, q, rt⟩ =>
    subst e
    refine ⟨gupd G p (.dF es), GLe.upd n, ⟨s.le.trans (GLe.upd n), Coh.add jo s.coh n q, fun a o h nt z => ?_, s.tups⟩, ?_⟩
    · obtain ⟨h1, n1⟩ := s.keep a o h nt z
      refine ⟨h1, ?_⟩
      rw [gupd_ne]
      · exact n1
      · rintro rfl; rw [hf _ f] at h; cases h
    · show Rep _ (.dct true kvs) _
      unfold Rep
      refine ⟨p, es, rfl, .inr (gsol_of gupd_same (fun z => z)), RepT.mono (gsol_mono (GLe.upd n)) _ _ (RepT.sol kvs es k rt)⟩
/-- o.looked[k] = v -/
theorem look_put {G : Gh} {H : Hp} {a dx l : Addr} {ds : List D} {x : Str} {d : D} {v : V} {vp vl : V} {es : List (Key × V)} {dp dl : D} (co : Coh (JO o) G H) (ga : G a = some (.inv 1 ds))
    (e : ds = [dp, dl]) (h1 : H a = some (.ins o.CF dx [("points", vp), ("lots", vl), ("looked", .ref l)])) (h2 : G dx = some (.priv a)) (h3 : H dx = some (.own a)) (h4 : G l = some (.priv a)) (h5 : H l = some (.dK es)) (h6 : Rep (gsol G) dp vp) (h7 : Rep (gsol G) dl vl) (h8 : (es.map (·.1)).Nodup)
    (h9 : ∀ k v, (k, v) ∈ es → ∃ x d, k = .inr x ∧ o.valid x ds d ∧ Rep (gsol G) d v) (hv : o.valid x ds d) (rd : Rep (gsol G) d v) : es.length < sizeLine ∧ Step (JO o) G H G (upd H l (.dK (putK es (.inr x) v))) := by
  have ne1 : a ≠ l := by rintro rfl; rw [ga] at h4; cases h4
  have ne2 : dx ≠ l := by rintro rfl; rw [h3] at h5; cases h5
  constructor
  · have hn : es.length ≤ o.names.length := by
      have := nodup_le (es.map (·.1)) (o.names.map fun x => (Sum.inr x : Key)) h8 (fun k hk => by
        obtain ⟨p, hp, rfl⟩ := List.mem_map.mp hk
        obtain ⟨x, d, e1, e2, _⟩ := h9 p.1 p.2 hp
        rw [e1]; exact List.mem_map.mpr ⟨x, o.named e2, rfl⟩)
      simpa using this
    have := o.few
    rw [sizeLine_eq]; omega
  · refine Step.objWrite (joOk o) co ga (.inr h4) (fun _ z => nomatch z) ?_
    refine ⟨dp, dl, dx, l, vp, vl, _, e, (upd_ne ne1).trans h1, h2, (upd_ne ne2).trans h3, h4, upd_same, h6, h7, putK_keys _ _ _ h8, fun k u hk => ?_⟩
    rcases putK_mem hk with ⟨rfl, rfl⟩ | hk
    · exact ⟨x, d, rfl, hv, rd⟩
    · exact h9 k u hk
abbrev cacheT (K : PySem.W.Frag) (x : Str) (i : Nat) (te : TE) : TS := tIfS (tB (tDNotIn (tC (.str x)) (tFld K (tVar i) "looked"))) (sDPut (tFld K (tVar i) "looked") (tC (.str x)) te) tNext
/-- what stands after 'if x not in o.looked: o.looked[x] = e' -/
theorem cache_ok {K : PySem.W.Frag} (hJ : c.J = JO o) (F : FamF K o) {Dn : L2.Ends} {σ : L2.St} {H : Hp} {G : Gh} {ρ : Rho} {E : XP} {i : Nat} {x : Str} {t2 : TS} {p l : D}
    (s : Step c.J c.G0 c.H0 G H) (sr : SRep c.H0 G H σ ρ) (xa : XA c E) (hi : ρ[i]? = some (some (.val (dFam p l)))) (hf : f ρ (fun r => Keepable r ∧ o.valid x [p, l] r.toD) E)
    (k : ∀ G' H' a dx l' vp vl es v d, GLe G G' → Step c.J c.G0 c.H0 G' H' → SRep c.H0 G' H' σ ρ → σ[i]? = some (some (V.ref a)) → H' a = some (.ins o.CF dx [("points", vp), ("lots", vl), ("looked", .ref l')]) → H' l' = some (.dK es) →
      valV es (.inr x) = some v → o.valid x [p, l] d → Rep G' d v → t2 Dn σ H') : tSeq (cacheT K x i (tWE c f)) t2 Dn σ H := by
  obtain ⟨J, jo, mg, H0, G0, W⟩ := c
  change J = JO o at hJ
  subst hJ
  simp only at s sr xa k
  obtain ⟨v0, hv0, rd⟩ := sr.get hi
  obtain ⟨a, rfl, ga, dp, dl, dx, l', vp, vl, es, e2, h1, h2, h3, h4, h5, h6, h7, h8, h9⟩ := fam_at s.coh rd
  refine ⟨V.ref a, hv0, a, o.CF, dx, _, V.ref l', rfl, h1, F.cls, F.nK, rfl, l', valV es (.inr x), rfl, DGet.k (k := .inr x) h5, _, rfl, ?_⟩
  cases hq : valV es (.inr x) with
  | some v =>
    obtain ⟨x', d, ex, e4, e5⟩ := h9 _ _ (valV_mem hq)
    cases ex
    show (if (!true) = true then _ else _)
    rw [if_neg (by decide)]
    exact k G H a dx l' vp vl es v d (GLe.refl G) s sr hv0 h1 h5 hq e4 (Rep.mono (gsol_le _) _ _ e5)
  | none =>
    show (if (!false) = true then _ else _)
    rw [if_pos (by decide)]
    refine inS s sr xa hf fun r pr v G1 H1 s1 t1 rr sr1 => ?_
    obtain ⟨kp, vd⟩ := pr
    obtain ⟨G2, le2, t2', rs⟩ := RepR.keepR (joOk o) kp t1 (fun _ z => z) rr
    have s2 := s.trans t2'
    have co2 := t2'.coh
    have sr2 := sr.step t2'
    have ga2 := t2'.le _ _ ga
    obtain ⟨dp', dl', dx', l2, vp', vl', es', e2', k1, k2, k3, k4, k5, k6, k7, k8, k9⟩ : JFam o [p, l] G2 H1 a := co2 a _ ga2
    obtain ⟨hl, st⟩ := look_put co2 ga2 e2' k1 k2 k3 k4 k5 k6 k7 k8 k9 vd rs
    refine ⟨V.ref a, hv0, a, o.CF, dx', _, V.ref l2, rfl, k1, F.cls, F.nK, rfl, l2, _, rfl, DPut.k (k := .inr x) k5 hl, ?_⟩
    have ne1 : a ≠ l2 := by rintro rfl; rw [ga2] at k4; cases k4
    refine k G2 _ a dx' l2 vp' vl' _ v r.toD t2'.le (s2.trans st) (sr2.step st) hv0 ((upd_ne ne1).trans k1) upd_same ?_ vd (Rep.mono (gsol_le _) _ _ rs)
    rw [valV_put, if_pos rfl]
/-- if x not in o.looked: o.looked[x] = e; return o.looked[x] -/
def wCacheRet (va : Str → List D → D → Prop) (x : Str) (i : Nat) (f : WE) : WS := fun k E ρ => ∃ p l, ρ[i]? = some (some (.val (dFam p l))) ∧ f ρ (fun r => Keepable r ∧ va x [p, l] r.toD) E ∧ ∀ d, va x [p, l] d → k.rt (.val d)
theorem ws_cacheRet {K : PySem.W.Frag} {x : Str} {i : Nat} {s2 : Stmt} (hJ : c.J = JO o) (F : FamF K o) (h1 : PS X st (cacheT K x i (tWE c f))) (h2 : PS X s2 (tRet (tDGet (tFld K (tVar i) "looked") (tC (.str x))))) : PSs X [st, s2] (tWS c (wCacheRet o.valid x i f)) :=
  PSs.imp (pss_cons h1 (pss_one h2)) fun D σ H ⟨G, ρ, k, E, s, sr, ⟨p, l, hi, hf, hk⟩, ok, xa⟩ => cache_ok hJ F s sr xa hi hf fun G' H' a dx l' vp vl es v d le s' sr' ha q1 q2 q3 q4 q5 => by
    refine ⟨V.ref a, ha, a, o.CF, dx, _, V.ref l', rfl, q1, F.cls, F.nK, rfl, l', v, rfl, ?_, ?_⟩
    · rw [← q3]; exact DGet.k (k := .inr x) q2
    · exact ok.rt _ (hk d q4) v G' H' le s' q5
/-- .. ; if not o.looked[x]: u -/
def wCacheIf (va : Str → List D → D → Prop) (x : Str) (i : Nat) (f : WE) (u : WS) : WS := fun k E ρ => ∃ p l, ρ[i]? = some (some (.val (dFam p l))) ∧ f ρ (fun r => Keepable r ∧ va x [p, l] r.toD) E ∧ ∀ d, va x [p, l] d → ∃ b, d = .bl b ∧ if b = true then k.nx ρ else u k E ρ
theorem ws_cacheIf {K : PySem.W.Frag} {x : Str} {i : Nat} {e2 : Expr} {ss : List Stmt} {u : WS} {p2 : Pos} (hJ : c.J = JO o) (F : FamF K o) (h1 : PS X st (cacheT K x i (tWE c f))) (h2 : PT X e2 (tNot (tB (tDGet (tFld K (tVar i) "looked") (tC (.str x)))))) (h3 : PSs X ss (tWS c u)) :
    PSs X [st, .If e2 ss [] p2] (tWS c (wCacheIf o.valid x i f u)) :=
  PSs.imp (pss_cons h1 (pss_one (ps_if h2 h3 pss_nil))) fun D σ H ⟨G, ρ, k, E, s, sr, ⟨p, l, hi, hf, hk⟩, ok, xa⟩ => cache_ok hJ F s sr xa hi hf fun G' H' a dx l' vp vl es v d le s' sr' ha q1 q2 q3 q4 q5 => by
    obtain ⟨b, rfl, hb⟩ := hk d q4
    refine ⟨V.ref a, ha, a, o.CF, dx, _, V.ref l', rfl, q1, F.cls, F.nK, rfl, l', v, rfl, ?_, b, q5.bl_, ?_⟩
    · rw [← q3]; exact DGet.k (k := .inr x) q2
    · cases b with
      | true => 
        rw [if_pos rfl] at hb
        show (if (!true) = true then _ else _)
        rw [if_neg (by decide)]
        exact ok.nx _ hb _ _ _ le s' sr'
      | false =>
        rw [if_neg (by decide)] at hb
        show (if (!false) = true then _ else _)
        rw [if_pos (by decide)]
        exact ⟨G', ρ, k, E, s', sr', hb, ok.up le, xa⟩
end
end PL
end
section
set_option Elab.async false
set_option linter.all false
set_option maxRecDepth 100000
set_option autoImplicit false
namespace PL
open PySem PySem.Spec L2
open PyProof.Rows hiding St
theorem hand_at {o : OP} {G : Gh} {H : Hp} {v : V} (co : Coh (JO o) G H) (r : Rep G dHand v) : ∃ a, v = .ref a ∧ G a = some (.inv 0 []) ∧ JHand G H a := by
  unfold Rep at r
  obtain ⟨a, rfl, g⟩ := r
  exact ⟨a, rfl, g, (co a _ g).2⟩
abbrev rLenQ (K : PySem.W.Frag) : List V → Hp → VK → Prop := fun xs H Q => ∃ p ys, xs = [.ref p] ∧ (SqL K H p ys ∨ SqT K H p ys) ∧ Q (.int ys.length) H
abbrev tH (K : PySem.W.Frag) (i : Nat) (k : Int) : TE := tOp (rIxL K) (tVar i) (tC (.int k))
abbrev tHT (K : PySem.W.Frag) (i : Nat) : TT := tAnd (tB (tEqI (tH K i 2) (tC (.int 0)))) (tB (tLt (tH K i 1) (tCB (rLenQ K) (tCons (tH K i 0) tNil))))
abbrev tHC (K : PySem.W.Frag) (i j : Nat) : TS := tAsg (tOp (rIxL K) (tH K i 0) (tH K i 1)) (gName j)
section
variable {X : Cx} {c : Pc} {e a b : Expr} {fa fb f : WE} {pos : Pos} {st : Stmt} {o : OP} {ss : List Stmt}
theorem at0 (c : Addr) (i big mix cnt : Int) : atI [V.ref c, .int i, .int big, .int mix, .int cnt] 0 = some (V.ref c) := rfl
theorem at1 (c : Addr) (i big mix cnt : Int) : atI [V.ref c, .int i, .int big, .int mix, .int cnt] 1 = some (V.int i) := rfl
theorem at2 (c : Addr) (i big mix cnt : Int) : atI [V.ref c, .int i, .int big, .int mix, .int cnt] 2 = some (V.int big) := rfl
theorem at3 (c : Addr) (i big mix cnt : Int) : atI [V.ref c, .int i, .int big, .int mix, .int cnt] 3 = some (V.int mix) := rfl
theorem at4 (c : Addr) (i big mix cnt : Int) : atI [V.ref c, .int i, .int big, .int mix, .int cnt] 4 = some (V.int cnt) := rfl
/-- if hand[2] == 0 and hand[1] < len(hand[0]): cell = hand[0][hand[1]]; .. -/
def wHandIf (i j : Nat) (u : WS) : WS := fun k E ρ => ρ[i]? = some (some (.val dHand)) ∧ (∀ n : Int, 0 ≤ n → u k E (ρ.set j (some (.val (.int n))))) ∧ k.nx ρ
theorem ws_handIf {i j : Nat} {u : WS} {s1 : Stmt} (hJ : c.J = JO o) (hT : PT X e (tHT X.K i)) (hC : PS X s1 (tHC X.K i j)) (hr : PSs X ss (tWS c u)) : PS X (.If e (s1 :: ss) [] pos) (tWS c (wHandIf i j u)) :=
  PS.imp (ps_if hT (pss_cons hC hr) pss_nil) fun D σ H ⟨G, ρ, k, E, s, sr, ⟨hi, hu, hn⟩, ok, xa⟩ => by
    obtain ⟨v0, hv0, rd⟩ := sr.get hi
    have co := s.coh
    rw [hJ] at co
    obtain ⟨a, rfl, ga, c', cells, x, big, mix, cnt, h1, h2, h3, h4, h5, h6⟩ := hand_at co rd
    have sq : SqL X.K H a [.ref c', .int x, .int big, .int mix, .int cnt] := .inl (.inl h1)
    have sc : SqL X.K H c' (cells.map V.int) := .inl (.inl h3)
    have no : tNext { nx := D.nx, rt := D.rt, bk := D.bk, ct := D.ct } σ H := ok.nx _ hn _ _ _ (GLe.refl _) s sr
    refine ⟨V.ref a, hv0, a, _, 2, V.int big, rfl, rfl, sq, rfl, big, 0, rfl, rfl, _, rfl, ?_⟩
    show (if decide (big = 0) = true then _ else _)
    by_cases hb : big = 0
    · rw [if_pos (decide_eq_true hb)]
      refine ⟨V.ref a, hv0, a, _, 1, V.int x, rfl, rfl, sq, rfl, V.ref a, hv0, a, _, 0, V.ref c', rfl, rfl, sq, rfl, c', _, rfl, .inl sc, x, _, rfl, rfl, _, rfl, ?_⟩
      show (if decide (x < ((cells.map V.int).length : Int)) = true then _ else _)
      by_cases hl : x < ((cells.map V.int).length : Int)
      · rw [if_pos (decide_eq_true hl)]
        rw [List.length_map] at hl
        have hx : x.toNat < cells.length := by omega
        have hat : atI (cells.map V.int) x = some (V.int cells[x.toNat]) := by
          unfold L2.atI
          have e2 : ixN (cells.map V.int).length x = some x.toNat := by
            rw [List.length_map]; unfold ixN
            have e1 : ¬ x < 0 := by omega
            simp [e1, h5, hl]
          rw [e2]
          simp [hx]
        refine ⟨V.ref a, hv0, a, _, 0, V.ref c', rfl, rfl, sq, rfl, V.ref a, hv0, a, _, 1, V.int x, rfl, rfl, sq, rfl, c', _, x, _, rfl, rfl, sc, hat, ?_⟩
        exact ⟨G, _, k, E, s, sr.setVal j (rep_int _), hu _ (h4 _ (List.getElem_mem hx)), ok, xa⟩
      · rw [if_neg (fun z => hl (of_decide_eq_true z))]; exact no
    · rw [if_neg (fun z => hb (of_decide_eq_true z))]; exact no
/-- hand[k], read -/
def handIxW : OpW := fun a b P => a = dHand ∧ (((b = .int 1 ∨ b = .int 2) ∧ ∀ n : Int, 0 ≤ n → P (.val (.int n))) ∨ ((b = .int 3 ∨ b = .int 4) ∧ ∀ n : Int, P (.val (.int n))))
theorem ok_hix (hJ : c.J = JO o) : OpOk c (rIxL X.K) handIxW := fun G H dx dy x y P Q co rx ry ⟨e1, p⟩ k => by
  subst e1
  have co' := co
  rw [hJ] at co'
  obtain ⟨a, rfl, ga, c', cells, i, big, mix, cnt, h1, h2, h3, h4, h5, h6⟩ := hand_at co' rx
  have sq : SqL X.K H a [.ref c', .int i, .int big, .int mix, .int cnt] := .inl (.inl h1)
  rcases p with ⟨e1 | e1, p⟩ | ⟨e1 | e1, p⟩
  · subst e1; exact ⟨a, _, 1, V.int i, rfl, ry.int_, sq, rfl, k _ (p i h5) _ _ _ (Step.refl co) rr_int⟩
  · subst e1; exact ⟨a, _, 2, V.int big, rfl, ry.int_, sq, rfl, k _ (p big h6) _ _ _ (Step.refl co) rr_int⟩
  · subst e1; exact ⟨a, _, 3, V.int mix, rfl, ry.int_, sq, rfl, k _ (p mix) _ _ _ (Step.refl co) rr_int⟩
  · subst e1; exact ⟨a, _, 4, V.int cnt, rfl, ry.int_, sq, rfl, k _ (p cnt) _ _ _ (Step.refl co) rr_int⟩
theorem pd_hix (hJ : c.J = JO o) (ha : PE X a (tWE c fa)) (hb : PE X b (tWE c fb)) (hs : PlainIx b := by intro _ _; rfl) : PE X (.Subscript a b pos) (tWE c (wBin handIxW fa fb)) :=
  PE.imp (pe_ix ix_list (pdD ha) (pdD hb) hs) fun _ _ _ h => tOp_of (ok_hix hJ) h
/-- hand[k] = e -/
def wHPut (i : Nat) (k : Int) (f : WE) : WS := fun kk E ρ => f ρ (fun r => ρ[i]? = some (some (.val dHand)) ∧ ∃ n : Int, r.toD = .int n ∧ (((k = 1 ∨ k = 2) ∧ 0 ≤ n) ∨ k = 3 ∨ k = 4) ∧ kk.nx ρ) E
theorem ws_hput {i : Nat} {k : Int} (hJ : c.J = JO o) (hh : PS X st (tAsg (tWD c fa) (gSub (tVar i) (tC (.int k)) rSetL))) : PS X st (tWS c (wHPut i k fa)) := PS.imp hh fun D σ H ⟨G, ρ, kk, E, s, sr, h, ok, x⟩ => by
  obtain ⟨J, jo, mg, H0, G0, W⟩ := c
  change J = JO o at hJ
  subst hJ
  refine inSD s sr x h fun r1 p1 v1 G1 H1 s1 t1 rr1 sr1 => ?_
  obtain ⟨hi, n, e1, hk, hn⟩ := p1
  rw [e1] at rr1
  obtain ⟨v0, hv0, rd⟩ := sr1.get hi
  obtain ⟨a, rfl, ga, c', cells, i', big, mix, cnt, h1, h2, h3, h4, h5, h6⟩ := hand_at s1.coh rd
  have ne : a ≠ c' := by rintro rfl; rw [ga] at h2; cases h2
  have fin : ∀ xs', (∃ i'' big' mix' cnt', xs' = [V.ref c', .int i'', .int big', .int mix', .int cnt'] ∧ 0 ≤ i'' ∧ 0 ≤ big') → D.nx σ (upd H1 a (.lst xs')) := fun xs' ⟨i'', big', mix', cnt', e, g1, g2⟩ => by
    subst e
    have st : Step (JO o) G1 H1 G1 (upd H1 a (.lst [V.ref c', .int i'', .int big', .int mix', .int cnt'])) := Step.objWrite (joOk o) s1.coh ga (.inl rfl) (fun _ z => nomatch z) ⟨rfl, c', cells, i'', big', mix', cnt', upd_same, h2, (upd_ne (Ne.symm ne)).trans h3, h4, g1, g2⟩
    exact ok.nx _ hn _ _ _ t1.le (s1.trans st) (sr1.step st)
  refine ⟨_, hv0, a, [V.ref c', .int i', .int big, .int mix, .int cnt], k, ?_⟩
  rcases hk with ⟨rfl | rfl, g⟩ | rfl | rfl
  · exact ⟨1, rfl, rfl, h1, rfl, fin _ ⟨n, big, mix, cnt, by rw [rr1.int_]; rfl, g, h6⟩⟩
  · exact ⟨2, rfl, rfl, h1, rfl, fin _ ⟨i', n, mix, cnt, by rw [rr1.int_]; rfl, h5, g⟩⟩
  · exact ⟨3, rfl, rfl, h1, rfl, fin _ ⟨i', big, n, cnt, by rw [rr1.int_]; rfl, h5, h6⟩⟩
  · exact ⟨4, rfl, rfl, h1, rfl, fin _ ⟨i', big, mix, n, by rw [rr1.int_]; rfl, h5, h6⟩⟩
/-- return [cells, 0, 0, e, 0] -/
def wHandRet (i : Nat) (f : WE) : WS := fun kk E ρ => ∃ ns : List Int, ρ[i]? = some (some (.own (ns.map D.int))) ∧ (∀ n ∈ ns, 0 ≤ n) ∧ f ρ (fun r => ∃ n : Int, r.toD = .int n) E ∧ kk.rt (.val dHand)
theorem reps_ints {G : Gh} : ∀ {ns : List Int} {vs : List V}, Reps G (ns.map D.int) vs → vs = ns.map V.int
  | [], vs, h => by unfold Reps at h; exact h
  | n :: ns, vs, h => by
    obtain ⟨v, r, rfl, h1, h2⟩ := h.uncons
    rw [h1.int_, reps_ints h2]; rfl
theorem ints_reps {G : Gh} : ∀ ns : List Int, Reps G (ns.map D.int) (ns.map V.int)
  | [] => .nil
  | n :: ns => .cons (rep_int n) (ints_reps ns)
theorem ws_handRet {i : Nat} (hJ : c.J = JO o) (h : PS X st (tRet (tLst (tCons (tVar i) (tCons (tC (.int 0)) (tCons (tC (.int 0)) (tCons (tWD c f) (tCons (tC (.int 0)) tNil)))))))) : PS X st (tWS c (wHandRet i f)) := PS.imp h fun D σ H ⟨G, ρ, kk, E, s, sr, ⟨ns, hi, hn, hf, hk⟩, ok, x⟩ => by
  obtain ⟨J, jo, mg, H0, G0, W⟩ := c
  change J = JO o at hJ
  subst hJ
  obtain ⟨v0, hv0, c', vs, rfl, f0, n0, q0, r0⟩ := sr.get hi
  have ev := reps_ints r0
  subst ev
  refine ⟨_, hv0, inSD s sr x hf fun r1 p1 v1 G1 H1 s1 t1 rr1 sr1 => ?_⟩
  obtain ⟨n, e1⟩ := p1
  rw [e1] at rr1
  obtain ⟨q1, n1⟩ := t1.frame c' _ q0 n0
  refine ⟨by show 5 ≤ sizeLine; rw [sizeLine_eq]; omega, fun p np => ?_⟩
  show D.rt (V.ref p) (upd H1 p (.lst [V.ref c', .int 0, .int 0, v1, .int 0]))
  rw [rr1.int_]
  have ne : c' ≠ p := by rintro rfl; rw [q1] at np; cases np
  have g1p : G1 p = none := s1.coh.fresh jo np
  -- the cells are hidden, then the hand laid
  have f0' : H0 c' = none := f0
  have sA : Step (JO o) G0 H0 (gupd G1 c' (.priv p)) H1 := ⟨s1.le.trans (GLe.upd n1), Coh.add (joOk o) s1.coh n1 ⟨_, q1, fun _ z => nomatch z⟩, fun b ob hb nt z => by
      obtain ⟨k1, k2⟩ := s1.keep b ob hb nt z
      refine ⟨k1, ?_⟩
      rw [gupd_ne]
      · exact k2
      · intro e; subst e; rw [f0'] at hb; exact (nomatch hb), s1.tups⟩
  have g1p' : gupd G1 c' (.priv p) p = none := by rw [gupd_ne (Ne.symm ne)]; exact g1p
  have sB : Step (JO o) (gupd G1 c' (.priv p)) H1 (gupd (gupd G1 c' (.priv p)) p (.inv 0 [])) (upd H1 p (.lst [V.ref c', .int 0, .int 0, .int n, .int 0])) := Step.new (joOk o) sA.coh np
    ⟨rfl, c', ns, 0, 0, n, 0, upd_same, by rw [gupd_ne ne, gupd_same], (upd_ne ne).trans q1, hn, by omega, by omega⟩
  refine ok.rt _ hk _ _ _ ((t1.le.trans (GLe.upd n1)).trans (GLe.upd g1p')) (sA.trans sB) ?_
  show Rep _ dHand _
  unfold Rep
  exact ⟨p, rfl, gupd_same⟩
end
end PL
end
section
set_option Elab.async false
set_option linter.all false
set_option maxRecDepth 100000
set_option autoImplicit false
namespace PL
open PySem PySem.Spec L2
open PyProof.Rows hiding St
/-! ### _law_hand -/
/-- a def that is given the script -/
def spScr (J : JT) (K : PySem.W.Frag) (d : D) : Sp := fun vs H Q E => ∃ (G : Gh) (a : Addr) (ns : List Int), vs = [.ref a] ∧ Coh J G H ∧ SqL K H a (ns.map V.int) ∧ ∀ v G' H', Step J G H G' H' → Rep G' d v → Q v H'
theorem spScr_len {J : JT} {K : PySem.W.Frag} {d : D} (vs : List V) (H : Hp) (Q : VK) (E : XK) (h : spScr J K d vs H Q E) : vs.length = 1 := by
  obtain ⟨G, a, ns, rfl, _⟩ := h; rfl
/-- script[:63], walked -/
abbrev tScr (K : PySem.W.Frag) : TI := iSeqV K (tSl (rSlL K) (tVar 0) tNoPart (tPart (tC (.int 63))))
section
variable {X : Cx} {c : Pc} {e a b : Expr} {fa fb f : WE} {pos : Pos} {st : Stmt} {o : OP} {ss : List Stmt}
theorem cut_ints (ns : List Int) (lo hi : Option Int) : cutV (ns.map V.int) lo hi = ((ns.drop (HT.sIx ns.length 0 lo)).take (HT.sIx ns.length ns.length hi - HT.sIx ns.length 0 lo)).map V.int := by
  unfold cutV
  rw [List.length_map, List.map_take, List.map_drop]
theorem cut63 (ns : List Int) : (cutV (ns.map V.int) none (some 63)).length ≤ 63 := by
  rw [cut_ints, List.length_map, List.length_take, List.length_drop]
  have h1 : HT.sIx ns.length 0 none = 0 := rfl
  have h2 : HT.sIx ns.length ns.length (some 63) ≤ 63 := by
    show (if (63 : Int) < 0 then ((63 : Int) + (ns.length : Int)).toNat else min (63 : Int).toNat ns.length) ≤ 63
    rw [if_neg (by decide)]; exact Nat.min_le_left _ _
  omega
/-- cells = [.. for cell in script[:63]], and what follows -/
theorem scr_first {J : JT} {jo : JOk J} {mg : Str → Option Value} {K : PySem.W.Frag} {N : List Str} {a : Addr} {ns : List Int} {H : Hp} {G : Gh} {E : XK} {i : Nat} {vs sl : List Nat} {g : WG} {ft : WT} {fe : WE} {u : WS} {Dn : L2.Ends} {k : WEnds} {EX : XP} (h0 : 0 < N.length)
    (co : Coh J G H) (sq : SqL K H a (ns.map V.int)) (hsl : ∀ j ∈ sl, j ∈ vs) (hi : i ≠ 0)
    (ok : EndsOk (pcOf J jo mg H G E) G Dn k) (xa : XA (pcOf J jo mg H G E) EX)
    (hw : ∀ ms : List Int, ms.length ≤ 63 → wLcGo g ft fe (wipeR (List.replicate N.length none) vs) (ms.map D.int) [] (fun r => u k EX ((List.replicate N.length none).set i (some r)))) :
    tSeq (tAsg (tLc (tScr K) (tWG (pcOf J jo mg H G E).quiet sl g) (tWT (pcOf J jo mg H G E).quiet ft) (tWD (pcOf J jo mg H G E).quiet fe) vs) (gName i)) (tWS (pcOf J jo mg H G E) u) Dn (L2.start N [.ref a]) H := by
  have sr : SRep H G H (L2.start N [.ref a]) (List.replicate N.length none) := by
    refine ⟨by unfold L2.start; simp; omega, fun j r e => ?_, fun j k' r r' p e _ _ _ _ _ => ?_⟩
    · rw [List.getElem?_replicate] at e; split at e <;> cases e
    · rw [List.getElem?_replicate] at e; split at e <;> cases e
  have hs0 : (L2.start N [V.ref a])[0]? = some (some (V.ref a)) := rfl
  refine ⟨V.ref a, hs0, 63, rfl, a, _, rfl, sq, fun p np => ⟨p, rfl, .inl ⟨⟨cutV (ns.map V.int) none (some 63), .inl (.inl upd_same)⟩, ?_⟩⟩⟩
  have st := newLst (c := pcOf J jo mg H G E) (vs := cutV (ns.map V.int) none (some 63)) jo co np
  have rs : Reps (gupd G p (.lst (cutV (ns.map V.int) none (some 63)))) (((ns.drop (HT.sIx ns.length 0 none)).take (HT.sIx ns.length ns.length (some 63) - HT.sIx ns.length 0 none)).map D.int) (cutV (ns.map V.int) none (some 63)) := by
    rw [cut_ints]; exact ints_reps _
  have hl := cut63 ns
  suffices key : tLc (fun _ H' R => R (Itl K p) H') (tWG (pcOf J jo mg H G E).quiet sl g) (tWT (pcOf J jo mg H G E).quiet ft) (tWD (pcOf J jo mg H G E).quiet fe) vs (L2.start N [V.ref a]) (upd H p (.lst (cutV (ns.map V.int) none (some 63)))) (fun x H1 => tWS (pcOf J jo mg H G E) u Dn ((L2.start N [V.ref a]).set i (some x)) H1) from key
  refine lcSem (c := pcOf J jo mg H G E) (sl := sl) sr (fun r pr v G' H' s' rr => ?_) st (yields_list gupd_same rs) (by rw [← rs.vlen, line_eq]; omega) (hw _ (by rw [cut_ints, List.length_map] at hl; exact hl)) hsl
  exact ⟨G', _, k, EX, s', (sr.step s').setR i (rr.back jo (Step.refl co)) (fun _ j r' _ hr' _ => by
    rw [List.getElem?_replicate] at hr'; split at hr' <;> cases hr'), pr, ok.up s'.le, xa⟩
end
end PL
end
section
set_option Elab.async false
set_option linter.all false
set_option maxRecDepth 100000
set_option autoImplicit false
namespace PL
open PySem PySem.Spec L2
open PyProof.Rows hiding St
section
variable {p : Around → Prop} {P : Program} {w : World} {K : PySem.W.Frag} {mg : Str → Option Value} {base : Heap} {o : OP}
/-- _law_hand(script) -/
theorem hand_ok {x qual : Str} {st : Stmt} {f : Addr} {fd : FuncData} {N : List Str} {k i : Nat} {vs sl : List Nat} {g : WG} {ft : WT} {fe fr : WE} {s1 s2 : Stmt} (F : FnP K x qual st f fd) (S : FnScope N ["script"] (defScope st)) (kp : Keeps p) (hN : 0 < N.length) (hb : defBody st = [s1, s2])
    (h1 : ∀ (cdv : Value) (A : Around) (outer : List Env) (s : Shared) (H : Hp) (E : XK) (G : Gh), Room k (A.deeper (envOfC qual (defScope st) s.heap.objs.size f cdv)) → p (A.deeper (envOfC qual (defScope st) s.heap.objs.size f cdv)) →
      PS (cxOf (L2.CX P w) P w K mg base N qual (defScope st) f cdv A outer s H E) s1 (tAsg (tLc (tScr K) (tWG (pcOf (JO o) (joOk o) mg H G E).quiet sl g) (tWT (pcOf (JO o) (joOk o) mg H G E).quiet ft) (tWD (pcOf (JO o) (joOk o) mg H G E).quiet fe) vs) (gName i)))
    (h2 : ∀ (cdv : Value) (A : Around) (outer : List Env) (s : Shared) (H : Hp) (E : XK) (G : Gh), Room k (A.deeper (envOfC qual (defScope st) s.heap.objs.size f cdv)) → p (A.deeper (envOfC qual (defScope st) s.heap.objs.size f cdv)) →
      PS (cxOf (L2.CX P w) P w K mg base N qual (defScope st) f cdv A outer s H E) s2 (tRet (tLst (tCons (tVar i) (tCons (tC (.int 0)) (tCons (tC (.int 0)) (tCons (tWD (pcOf (JO o) (joOk o) mg H G E) fr) (tCons (tC (.int 0)) tNil))))))))
    (sem : ∀ ms : List Int, ms.length ≤ 63 → ∀ kk : WEnds, kk.rt (.val dHand) → wLcGo g ft fe (wipeR (List.replicate N.length none) vs) (ms.map D.int) [] (fun r => wHandRet i fr kk noX ((List.replicate N.length none).set i (some r))))
    (hi : i ≠ 0) (hsl : ∀ j ∈ sl, j ∈ vs) : FnG p P w K mg base (L2.CX P w) (k + 1) f fd ["script"] (spScr (JO o) K dHand) := by
  refine def_any F S (fun vs H Q E h => spScr_len vs H Q E h) kp (fun cdv A outer s H us Q E hr hpa h => ?_)
  obtain ⟨G, a, ns, rfl, co, sq, hq⟩ := h
  rw [hb]
  refine ⟨_, pss_cons (h1 cdv A outer s H E G hr hpa) (pss_one (ws_handRet (c := pcOf (JO o) (joOk o) mg H G E) rfl (h2 cdv A outer s H E G hr hpa))), ?_⟩
  refine scr_first (jo := joOk o) (k := { nx := fun _ => False, rt := fun r => r = .val dHand, bk := fun _ => False, ct := fun _ => False }) (EX := noX) hN co sq hsl hi ⟨fun _ h => h.elim, fun r h v G' H' _ s' rr => ?_, fun _ h => h.elim, fun _ h => h.elim⟩ (fun _ h => h.elim) (fun ms hm => sem ms hm _ rfl)
  subst h
  exact hq v G' H' s' rr
/-- a law -/
def spLaw (J : JT) (K : PySem.W.Frag) : Sp := fun vs H Q E => ∃ (G : Gh) (a : Addr) (ns : List Int), vs = [.ref a] ∧ Coh J G H ∧ SqL K H a (ns.map V.int) ∧ ∀ H', Q (.bl true) H'
theorem law_ok {x qual : Str} {st : Stmt} {f : Addr} {fd : FuncData} {N : List Str} {k i : Nat} {s1 : Stmt} {ss : List Stmt} {b : WS} (F : FnP K x qual st f fd) (S : FnScope N ["script"] (defScope st)) (kp : Keeps p) (hN : 0 < N.length) (hb : defBody st = s1 :: ss)
    (h1 : ∀ (cdv : Value) (A : Around) (outer : List Env) (s : Shared) (H : Hp) (E : XK) (G : Gh), Room k (A.deeper (envOfC qual (defScope st) s.heap.objs.size f cdv)) → p (A.deeper (envOfC qual (defScope st) s.heap.objs.size f cdv)) →
      PS (cxOf (L2.CX P w) P w K mg base N qual (defScope st) f cdv A outer s H E) s1 (tAsg (tCallS (spScr (JO o) K dHand) (fun σ cls d H' => E cls d H') (tCons (tVar 0) tNil)) (gName i)))
    (h2 : ∀ (cdv : Value) (A : Around) (outer : List Env) (s : Shared) (H : Hp) (E : XK) (G : Gh), Room k (A.deeper (envOfC qual (defScope st) s.heap.objs.size f cdv)) → p (A.deeper (envOfC qual (defScope st) s.heap.objs.size f cdv)) →
      PSs (cxOf (L2.CX P w) P w K mg base N qual (defScope st) f cdv A outer s H E) ss (tWS (pcOf (JO o) (joOk o) mg H G E) b))
    (sem : b { nx := fun _ => False, rt := fun r => r = .val (.bl true), bk := fun _ => False, ct := fun _ => False } noX ((List.replicate N.length none).set i (some (.val dHand)))) : FnG p P w K mg base (L2.CX P w) (k + 1) f fd ["script"] (spLaw (JO o) K) := by
  refine def_any F S (fun vs H Q E h => ?_) kp (fun cdv A outer s H us Q E hr hpa h => ?_)
  · obtain ⟨G, a, ns, rfl, _⟩ := h; rfl
  obtain ⟨G, a, ns, rfl, co, sq, hq⟩ := h
  rw [hb]
  refine ⟨_, pss_cons (h1 cdv A outer s H E G hr hpa) (h2 cdv A outer s H E G hr hpa), ?_⟩
  have hs0 : (L2.start N [V.ref a])[0]? = some (some (V.ref a)) := rfl
  have sr : SRep H G H (L2.start N [.ref a]) (List.replicate N.length none) := by
    refine ⟨by unfold L2.start; simp; omega, fun j r e => ?_, fun j k' r r' p e _ _ _ _ _ => ?_⟩
    · rw [List.getElem?_replicate] at e; split at e <;> cases e
    · rw [List.getElem?_replicate] at e; split at e <;> cases e
  refine ⟨V.ref a, hs0, G, a, ns, rfl, co, sq, fun v G' H' s' rd => ?_⟩
  exact ⟨G', _, _, noX, s', (sr.step s').setVal i rd, sem, ⟨fun _ h => h.elim, fun r h v G2 H2 _ s2 rr => by
    subst h
    rw [Rep.bl_ (show Rep G2 (.bl true) v from rr)]; exact hq H2, fun _ h => h.elim, fun _ h => h.elim⟩, fun _ h => h.elim⟩
end

/-! ### a target that is an attribute -/
def gFld (K : PySem.W.Frag) (ta : TE) (f : Str) : TG := fun v σ H Q => ta σ H fun x H1 => ∃ a C dx fs, x = .ref a ∧ H1 a = some (.ins C dx fs) ∧ Cls K C ∧ NoAttr K C f ∧ fs.length < 1000 ∧ Q σ (upd H1 a (.ins C dx (putF f v fs)))
section
variable {X : Cx} {c : Pc} {e a b : Expr} {fa fb f : WE} {pos : Pos} {st : Stmt} {o : OP} {ss : List Stmt}
theorem pg_fld {e : Expr} {f : Str} {ta : TE} (he : PE X e ta) : PG X (.Attribute e f pos) (gFld X.K ta f) := by
  refine ⟨fun pins s σ H v u Q I r h => ?_⟩
  rw [assign_Attribute]
  refine wpAny_bind (wpAny_holding (thn (he.run pins s σ H _ I h) fun ov s1 ⟨x, H1, I1, rx, a, C, dx, fs, ex, ea, cl, n, l, q⟩ => ?_))
  subst ex
  obtain rfl : ov = Value.ref a := rx
  exact wpAny_bind (wpAny_standAt (wpAny_bind (wpAny_holding (setattr_ok I1 ea cl n l r fun s2 I2 => wpAny_release ⟨σ, _, I2, q⟩))))

/-! ### Family(points, lots) -/
structure FamMk (o : OP) (FamOk : D → D → Prop) : Prop where
  sp : ∀ {p l}, FamOk p l → p.solid = true ∧ l.solid = true
def spInit (o : OP) (FamOk : D → D → Prop) : Sp := fun vs H Q E => ∃ (G : Gh) (H0 : Hp) (x dx : Addr) (dp dl : D) (vp vl : V), vs = [.ref x, vp, vl] ∧ Step (JO o) G H0 G H ∧ H0 x = none ∧ H0 dx = none ∧ dx ≠ x ∧ Rep G dp vp ∧ Rep G dl vl ∧ H x = some (.ins o.CF dx []) ∧ H dx = some (.own x) ∧ G x = none ∧ G dx = none ∧
  FamOk dp dl ∧ ∀ G' H', Step (JO o) G H0 G' H' → G' x = some (.inv 1 [dp, dl]) → Q .non H'
theorem spInit_len {o : OP} {FamOk : D → D → Prop} (vs : List V) (H : Hp) (Q : VK) (E : XK) (h : spInit o FamOk vs H Q E) : vs.length = 3 := by
  obtain ⟨G, H0, x, dx, dp, dl, vp, vl, rfl, _⟩ := h; rfl
/-- the new instance is laid -/
theorem lay_fam {o : OP} {G0 G : Gh} {H0 H : Hp} {x dx l q : Addr} {dp dl : D} {vp vl : V} {tv : List V} (s : Step (JO o) G0 H0 G H) (hx0 : H0 x = none) (hdx0 : H0 dx = none) (hne : dx ≠ x) (rp : Rep G dp vp) (rl : Rep G dl vl) (sp : dp.solid = true) (sl : dl.solid = true)
    (nx : G x = none) (ndx : G dx = none) (hdx : H dx = some (.own x)) (hxi : ∃ fs, H x = some (.ins o.CF dx fs)) (hq : H q = none) (hl : H l = none) (hql : l ≠ q) :
    ∃ G', Step (JO o) G0 H0 G' (upd (upd (upd H q (.tup tv)) l (.dK [])) x (.ins o.CF dx [("points", vp), ("lots", vl), ("looked", .ref l)])) ∧ G' x = some (.inv 1 [dp, dl]) := by
  obtain ⟨fs, hxi⟩ := hxi
  have co := s.coh
  have jo := joOk o
  have nq := co.fresh jo hq
  have nl := co.fresh jo hl
  have xq : x ≠ q := by rintro rfl; rw [hxi] at hq; cases hq
  have xl : x ≠ l := by rintro rfl; rw [hxi] at hl; cases hl
  have dq : dx ≠ q := by rintro rfl; rw [hdx] at hq; cases hq
  have dl' : dx ≠ l := by rintro rfl; rw [hdx] at hl; cases hl
  generalize eH : upd (upd (upd H q (.tup tv)) l (.dK [])) x (.ins o.CF dx [("points", vp), ("lots", vl), ("looked", .ref l)]) = H'
  have other : ∀ b, b ≠ x → b ≠ l → b ≠ q → H' b = H b := fun b h1 h2 h3 => by rw [← eH, upd_ne h1, upd_ne h2, upd_ne h3]
  have h'x : H' x = some (.ins o.CF dx [("points", vp), ("lots", vl), ("looked", .ref l)]) := by rw [← eH, upd_same]
  have h'l : H' l = some (.dK []) := by rw [← eH, upd_ne (Ne.symm xl), upd_same]
  have h'd : H' dx = some (.own x) := (other dx hne dl' dq).trans hdx
  have c0 : Coh (JO o) G H' := co.move jo fun a g e => other a (by rintro rfl; rw [nx] at e; cases e) (by rintro rfl; rw [nl] at e; cases e) (by rintro rfl; rw [nq] at e; cases e)
  have c1 : Coh (JO o) (gupd G dx (.priv x)) H' := Coh.add jo c0 ndx ⟨_, h'd, fun _ z => nomatch z⟩
  have n1 : gupd G dx (.priv x) l = none := by rw [gupd_ne (Ne.symm dl')]; exact nl
  have c2 : Coh (JO o) (gupd (gupd G dx (.priv x)) l (.priv x)) H' := Coh.add jo c1 n1 ⟨_, h'l, fun _ z => nomatch z⟩
  have n2 : gupd (gupd G dx (.priv x)) l (.priv x) x = none := by rw [gupd_ne xl, gupd_ne (Ne.symm hne)]; exact nx
  have le2 : GLe G (gupd (gupd G dx (.priv x)) l (.priv x)) := (GLe.upd ndx).trans (GLe.upd n1)
  have c3 : Coh (JO o) (gupd (gupd (gupd G dx (.priv x)) l (.priv x)) x (.inv 1 [dp, dl])) H' := Coh.add jo c2 n2 (by
    have le3 := le2.trans (GLe.upd (g := .inv 1 [dp, dl]) n2)
    refine ⟨dp, dl, dx, l, vp, vl, [], rfl, h'x, ?_, h'd, ?_, h'l, Rep.mono (gsol_mono le3) _ _ (Rep.sol _ _ sp rp), Rep.mono (gsol_mono le3) _ _ (Rep.sol _ _ sl rl), List.nodup_nil, fun k v h => nomatch h⟩
    · rw [gupd_ne hne, gupd_ne dl', gupd_same]
    · rw [gupd_ne (Ne.symm xl), gupd_same])
  refine ⟨_, ⟨(s.le.trans le2).trans (GLe.upd n2), c3, fun a ob ha nt z => ?_, fun a xs ha => ?_⟩, gupd_same⟩
  · obtain ⟨k1, k2⟩ := s.keep a ob ha nt z
    have ax : a ≠ x := by rintro rfl; rw [hx0] at ha; cases ha
    have ad : a ≠ dx := by rintro rfl; rw [hdx0] at ha; cases ha
    have aq : a ≠ q := by rintro rfl; rw [k1] at hq; cases hq
    have al : a ≠ l := by rintro rfl; rw [k1] at hl; cases hl
    exact ⟨(other a ax al aq).trans k1, by rw [gupd_ne ax, gupd_ne al, gupd_ne ad]; exact k2⟩
  · have k1 := s.tups a xs ha
    have ax : a ≠ x := by rintro rfl; rw [hx0] at ha; cases ha
    have aq : a ≠ q := by rintro rfl; rw [k1] at hq; cases hq
    have al : a ≠ l := by rintro rfl; rw [k1] at hl; cases hl
    exact (other a ax al aq).trans k1
abbrev tInit3 (K : PySem.W.Frag) : TS := tAsg (tTup (tCons (tVar 1) (tCons (tVar 2) tNil))) (gTup K 2 (gCons (gFld K (tVar 0) "points") (gCons (gFld K (tVar 0) "lots") gNil)))
abbrev tInit4 (K : PySem.W.Frag) : TS := sFld K (tVar 0) tDNewK "looked"
end
section
variable {p : Around → Prop} {P : Program} {w : World} {K : PySem.W.Frag} {mg : Str → Option Value} {base : Heap} {o : OP} {FamOk : D → D → Prop}
theorem init_ok {x qual : Str} {st : Stmt} {f : Addr} {fd : FuncData} {N : List Str} {k : Nat} {s1 s2 s3 s4 : Stmt} {t1 t2 : WT} (FF : FamF K o) (M : FamMk o FamOk) (F : FnP K x qual st f fd) (S : FnScope N ["self", "points", "lots"] (defScope st)) (kp : Keeps p) (hN : N.length = 3) (hb : defBody st = [s1, s2, s3, s4])
    (h : ∀ (cdv : Value) (A : Around) (outer : List Env) (s : Shared) (H : Hp) (E : XK) (G : Gh), Room k (A.deeper (envOfC qual (defScope st) s.heap.objs.size f cdv)) → p (A.deeper (envOfC qual (defScope st) s.heap.objs.size f cdv)) →
      PS (cxOf (L2.CX P w) P w K mg base N qual (defScope st) f cdv A outer s H E) s1 (tIfS (tWT (pcOf (JO o) (joOk o) mg H G E) t1) tNever tNext) ∧ PS (cxOf (L2.CX P w) P w K mg base N qual (defScope st) f cdv A outer s H E) s2 (tIfS (tWT (pcOf (JO o) (joOk o) mg H G E) t2) tNever tNext) ∧
      PS (cxOf (L2.CX P w) P w K mg base N qual (defScope st) f cdv A outer s H E) s3 (tInit3 K) ∧ PS (cxOf (L2.CX P w) P w K mg base N qual (defScope st) f cdv A outer s H E) s4 (tInit4 K))
    (sem : ∀ dp dl, FamOk dp dl → ∀ Q : Bool → Prop, Q false → t1 [none, some (.val dp), some (.val dl)] Q noX ∧ t2 [none, some (.val dp), some (.val dl)] Q noX) : FnG p P w K mg base (L2.CX P w) (k + 1) f fd ["self", "points", "lots"] (spInit o FamOk) := by
  refine def_any F S (fun vs H Q E h => spInit_len vs H Q E h) kp (fun cdv A outer s H us Q E hr hpa hh => ?_)
  obtain ⟨G, H0, x, dx, dp, dl, vp, vl, rfl, st0, hx0, hdx0, hne, rp, rl, hx, hdx, gx, gdx, fo, hq⟩ := hh
  obtain ⟨k1, k2, k3, k4⟩ := h cdv A outer s H E G hr hpa
  rw [hb]
  refine ⟨_, pss_cons k1 (pss_cons k2 (pss_cons k3 (pss_one k4))), ?_⟩
  have co := st0.coh
  have es : L2.start N [V.ref x, vp, vl] = [some (V.ref x), some vp, some vl] := by
    unfold L2.start; rw [hN]; rfl
  rw [es]
  have sr : SRep H G H [some (V.ref x), some vp, some vl] [none, some (.val dp), some (.val dl)] := by
    refine ⟨rfl, fun j r e => ?_, fun j k' r r' p e _ o _ _ _ => ?_⟩
    · match j, e with
      | 1, e => cases e; exact ⟨vp, rfl, rp⟩
      | 2, e => cases e; exact ⟨vl, rfl, rl⟩
    · match j, e with
      | 1, e => cases e; cases o
      | 2, e => cases e; cases o
  obtain ⟨sp, sl⟩ := M.sp fo
  refine ⟨G, _, fun b => b = false, noX, co, sr, (sem dp dl fo (fun b => b = false) rfl).1, fun b hbf G1 H1 s1 => ?_, fun _ h => h.elim⟩
  subst hbf
  show (if false = true then _ else _)
  rw [if_neg (by decide)]
  refine ⟨G1, _, fun b => b = false, noX, s1.coh, sr.step s1, (sem dp dl fo (fun b => b = false) rfl).2, fun b hbf G2 H2 s2 => ?_, fun _ h => h.elim⟩
  subst hbf
  show (if false = true then _ else _)
  rw [if_neg (by decide)]
  have s12 := s1.trans s2
  obtain ⟨hx2, gx2⟩ := s12.frame x _ hx gx
  obtain ⟨hdx2, gdx2⟩ := s12.frame dx _ hdx gdx
  have st2 := st0.trans s12
  refine ⟨vp, rfl, vl, rfl, by show 2 ≤ sizeLine; rw [sizeLine_eq]; omega, fun q nq => ?_⟩
  have xq : x ≠ q := by rintro rfl; rw [hx2] at nq; cases nq
  refine ⟨q, [vp, vl], rfl, .inl (.inl upd_same), rfl, vp, [vl], rfl, V.ref x, rfl, x, o.CF, dx, [], rfl, (upd_ne xq).trans hx2, FF.cls, FF.nP, Nat.succ_pos _, vl, [], rfl, V.ref x, rfl, x, o.CF, dx, [("points", vp)], rfl, upd_same, FF.cls, FF.nL, (show 1 < 1000 by decide), rfl, ?_⟩
  rw [upd_upd]
  intro l nl
  have lx : l ≠ x := by rintro rfl; rw [upd_same] at nl; cases nl
  rw [upd_ne lx] at nl
  have lq : l ≠ q := by rintro rfl; rw [upd_same] at nl; cases nl
  have nl' : H2 l = none := by rw [upd_ne lq] at nl; exact nl
  refine ⟨V.ref x, rfl, x, o.CF, dx, [("points", vp), ("lots", vl)], rfl, by rw [upd_ne (Ne.symm lx), upd_same]; rfl, FF.cls, FF.nK, (show 2 < 1000 by decide), ?_⟩
  obtain ⟨G3, s3, g3⟩ := lay_fam (tv := [vp, vl]) st2 hx0 hdx0 hne (Rep.mono s12.le _ _ rp) (Rep.mono s12.le _ _ rl) sp sl gx2 gdx2 hdx2 ⟨_, hx2⟩ nq nl' lq
  refine hq G3 _ ?_ g3
  have eH : upd (upd (upd (upd H2 q (.tup [vp, vl])) x (.ins o.CF dx (putF "lots" vl [("points", vp)]))) l (.dK [])) x (.ins o.CF dx (putF "looked" (V.ref l) [("points", vp), ("lots", vl)])) = upd (upd (upd H2 q (.tup [vp, vl])) l (.dK [])) x (.ins o.CF dx [("points", vp), ("lots", vl), ("looked", .ref l)]) := by
    funext b
    by_cases h1 : b = x
    · subst h1; rw [upd_same, upd_same]; rfl
    · rw [upd_ne h1, upd_ne h1]
      by_cases h2 : b = l
      · subst h2; rw [upd_same, upd_same]
      · rw [upd_ne h2, upd_ne h2, upd_ne h1]
  exact eH ▸ s3
end
section
variable {X : Cx} {c : Pc} {e a b : Expr} {fa fb f : WE} {pos : Pos} {st : Stmt} {o : OP} {ss : List Stmt} {FamOk : D → D → Prop}
def wFamily (FamOk : D → D → Prop) (fs : List WE) : WE := fun ρ P E => wArgs fs ρ [] (fun ds => ∃ p l, ds = [p, l] ∧ FamOk p l ∧ P (.val (dFam p l))) E
theorem pd_family {k : Nat} {fI : Addr} {fd : FuncData} {pp : Pos} {f1 f2 : WE} (hJ : c.J = JO o) (M : Mk X.K o.CF fI) (F : FnOk X.prog X.w X.K X.mg X.base (L2.CX X.prog X.w) k fI fd ["self", "points", "lots"] (spInit o FamOk)) (hr : Room (k + 1) X.A) (hm : X.mg "Family" = some (.ref o.CF)) (hb : Binds X.K fd ["self", "points", "lots"] [])
    (ha : PA X [a, b] (tWA c [f1, f2])) (hg : Gl X "Family" := by rfl) (he : starEach [a, b] X.env = (false, eval a X.env) :: starEach [b] X.env := by rfl) (hpl : (backTo pos (starEach [b] X.env)).any (·.1) = false := by rfl) :
    PE X (.Call (.Name "Family" pp) [a, b] [] pos) (tWE c (wFamily FamOk [f1, f2])) :=
  PE.imp (pe_make (E := fun _ _ _ => False) M F hr hg hm hb .nil (fun pins σ H s e s' I ⟨_, _, _, _, _, _, _, _, _, _, _, _, z⟩ => z.elim) ha (by decide) he hpl) fun σ H Q ⟨G, ρ, P, E, co, sr, h, hp, hx⟩ => by
    obtain ⟨J, jo, mg, H0, G0, W⟩ := c
    change J = JO o at hJ
    subst hJ
    refine args co sr hx h fun ds pd hl2 vs G1 H1 st rs co1 sr1 hx1 => ?_
    obtain ⟨dp, dl, rfl, fo, hP⟩ := pd
    obtain ⟨vp, vl, rfl, rp, rl⟩ := rs.two
    intro x dx nx ndx hne
    have sA : Step (JO o) G1 H1 G1 (upd H1 dx (.own x)) := Step.newOwn jo co1 ndx
    have nx' : upd H1 dx (.own x) x = none := by rw [upd_ne (Ne.symm hne)]; exact nx
    have sB : Step (JO o) G1 (upd H1 dx (.own x)) G1 (upd (upd H1 dx (.own x)) x (.ins o.CF dx [])) := Step.newOwn jo sA.coh nx'
    have sAB := sA.trans sB
    refine ⟨G1, H1, x, dx, dp, dl, vp, vl, rfl, sAB, nx, ndx, hne, rp, rl, upd_same, by rw [upd_ne hne, upd_same], co1.fresh jo nx, co1.fresh jo ndx, fo, fun G' H' s' g' => ⟨rfl, ?_⟩⟩
    refine hp _ hP _ G' H' (st.trans s') ?_
    show Rep _ (dFam dp dl) _
    unfold Rep
    exact ⟨x, rfl, g'⟩

/-! ### o.m() -/
theorem pe_methG0 {p : Around → Prop} {CX : CXT} {k : Nat} {C f : Addr} {fd : FuncData} {ps : List Str} {sp : Sp} {E : L2.St → XK} {m : Str} {apos : Pos} {ta : TE} {pl : Sem Bool} (he : PE X e ta) (cl : Cls X.K C) (hm : Meth X.K C m f) (F : FnG p X.prog X.w X.K X.mg X.base CX k f fd ps sp) (hr : Room k X.A) (hp : p X.A) (hb : Binds X.K fd ps []) (hx : ∀ σ, PassesAt CX X σ (E σ))
    (ht : eval (.Call (.Attribute e m apos) [] [] pos) X.env = (do
      let ov ← eval e X.env
      standAt apos.atName
      let (f, first) ← holding [ov] (getMethod ov m pl)
      callWith pos f first (backTo pos (starEach [] X.env)) (backToKw pos (keywordEach [] X.env))) := by rfl) :
    PE X (.Call (.Attribute e m apos) [] [] pos) (fun σ H Q => ta σ H fun x H1 => ∃ a dx fs, x = .ref a ∧ H1 a = some (.ins C dx fs) ∧ fs.lookup m = none ∧ sp [x] H1 Q (E σ)) := by
  refine ⟨fun pins s σ H Q I h => ?_⟩
  refine PySem.W.methodCall_KW (pl := pl) (thn (he.run pins s σ H _ I h) fun u s1 ⟨x, H1, I1, rx, a, dx, fs, ex, ea, l, q⟩ => ?_) ht
  subst ex
  obtain rfl : u = Value.ref a := rx
  refine getmeth_ok I1 ea cl hm l ?_
  exact PySem.W.callWith_K0 (first := [.ref a]) I1.kIn hm.kp (run_fnG (us := [.ref a]) (vs := [.ref a]) F hr hp hb (hx σ) I1 (.cons rfl .nil) q)
/-- o.m() of a Family -/
def wMeth0 (m : MW) (f : WE) : WE := fun ρ P E => f ρ (fun r => ∃ p l, r.toD = dFam p l ∧ m [dFam p l] P E) E
theorem pd_meth0 {p : Around → Prop} {k : Nat} {fm : Addr} {fd : FuncData} {ps : List Str} {m : MW} {x : Str} {apos : Pos} {pl : Sem Bool} (hJ : c.J = JO o) (FF : FamF X.K o) (he : PE X e (tWE c f)) (hm : Meth X.K o.CF x fm) (F : FnG p X.prog X.w X.K X.mg X.base (L2.CX X.prog X.w) k fm fd ps (spD c.J c.mg 1 m)) (hr : Room k X.A) (hp : p X.A) (hb : Binds X.K fd ps [])
    (tk : Takes X c.W) (hx1 : x ≠ "points") (hx2 : x ≠ "lots") (hx3 : x ≠ "looked") (ht : eval (.Call (.Attribute e x apos) [] [] pos) X.env = (do
      let ov ← eval e X.env
      standAt apos.atName
      let (f, first) ← holding [ov] (getMethod ov x pl)
      callWith pos f first (backTo pos (starEach [] X.env)) (backToKw pos (keywordEach [] X.env))) := by rfl) : PE X (.Call (.Attribute e x apos) [] [] pos) (tWE c (wMeth0 m f)) := by
  refine PE.imp (pe_methG0 (E := fun σ cls d H => c.W cls d σ H) (pdD he) FF.cls hm F hr hp hb (fun σ => passAt tk σ) ht) fun σ H Q ⟨G, ρ, P, E, co, sr, h, hP, hx⟩ => opnd co sr hx h fun r pr x' G1 H1 st1 rd co1 sr1 hx1' => ?_
  obtain ⟨p', l', e1, hm'⟩ := pr
  rw [e1] at rd
  have co1' := co1
  rw [hJ] at co1'
  obtain ⟨a, rfl, ga, dp, dl, dx, l2, vp, vl, es, e2, h1, _⟩ := fam_at co1' rd
  refine ⟨a, dx, _, rfl, h1, ?_, G1, [dFam p' l'], P, E, co1, .cons rd .nil, rfl, hm', fun r pr v G' H' s2 rr => hP r pr v G' H' (st1.trans s2) (rr.back c.jo st1), fun y hy cls d G' H' s2 xr => hx1' y hy cls d G' H' s2 xr⟩
  simp [List.lookup, beq_eq_false_iff_ne.mpr hx1, beq_eq_false_iff_ne.mpr hx2, beq_eq_false_iff_ne.mpr hx3]
end
end PL
end
section
set_option Elab.async false
set_option linter.all false
set_option maxRecDepth 100000
set_option autoImplicit false
namespace PL
open PySem PySem.Spec L2
open PyProof.Rows hiding St
/-- nothing is being shown -/
def pG : Around → Prop := fun A => A.guards = some []
theorem pG_keeps : Keeps pG := fun A env h => h
theorem pT_keeps : Keeps (fun _ => True) := fun _ _ _ => trivial
section
variable {P : Program} {w : World} {K : PySem.W.Frag} {mg mb : Str → Option Value} {s : Shared} {a : Addr} {vs : List Value} {ns : List Int}
/-- what the law's call starts from: the script told as it stands -/
structure Begin (P : Program) (w : World) (K : PySem.W.Frag) (mg : Str → Option Value) (s : Shared) (a : Addr) (ns : List Int) (H : Hp) (base : Heap) : Prop where
  e0 : Env0 P w K mg base callerA [] s H
  kin : K.In base
  nsb : base.Ns mainGlobals mg
  sq : SqL K H a (ns.map V.int)
  only : ∀ b, H b = none ∨ ∃ o u, H b = some (.frz o u)
theorem begin_of (KX : K.In s.heap) (hns : s.heap.Ns mainGlobals mg) (hb : s.heap.Ns builtinsNs mb) (hbb : ∀ x : Str, x ≠ "__name__" → mb x = bootBuiltins x) (hlim : s.heap.NoLimit) (hg : s.gens = #[])
    (ha : s.heap.get? a = some { cls := .type "list", data := .seq vs.toArray }) (hi : IntsAre vs ns) (hl : ns.length ≤ sizeLine) : ∃ H base, Begin P w K mg s a ns H base := by
  have rel := vals_ints hi
  -- a heap of which at most the script's list is told
  have made : ∀ H : Hp, (∀ b u, H b = some u → b = a ∧ K.lookup a = none ∧ u = .frz { cls := .type "list", data := .seq vs.toArray } (.lst (ns.map V.int))) → SqL K H a (ns.map V.int) → Begin P w K mg s a ns H (hidT s.heap H) := by
    intro H hH sq
    have keep : ∀ {b : Addr} {o : Obj}, s.heap.get? b = some o → (∀ xs n, o.data ≠ .seq xs n) → (hidT s.heap H).get? b = some o := fun {b o} e d => by
      refine hidT_get e ?_
      cases q : H b with
      | none => rfl
      | some u =>
        obtain ⟨rfl, _, _⟩ := hH b u q
        rw [ha] at e; cases e
        exact absurd rfl (d _ _)
    have nsK : ∀ {b : Addr} {m : Str → Option Value}, s.heap.Ns b m → (hidT s.heap H).Ns b m := fun {b m} ⟨o, es, ep, e, d, r⟩ => ⟨o, es, ep, keep e (fun xs n z => by rw [d] at z; cases z), d, r⟩
    have kb : K.In (hidT s.heap H) := fun b o e => by
      refine hidT_get (KX b o e) ?_
      cases q : H b with
      | none => rfl
      | some u => obtain ⟨rfl, z, _⟩ := hH b u q; rw [z] at e; cases e
    have hok : HOk P w H s.heap := fun b u q => by
      obtain ⟨rfl, _, rfl⟩ := hH b u q
      exact ⟨ha, by rw [List.length_map]; exact hl, vs, _, rel, ha⟩
    refine ⟨⟨rfl, ⟨kb, nsK hns, ⟨mb, nsK hb, hbb⟩, ?_⟩, fun b o e => of_hidT e, Nat.le_of_eq (hidT_size _ _), trivial, fun b z => (nomatch z), hok, .of_eq hg⟩, kb, nsK hns, sq, fun b => ?_⟩
    · obtain ⟨mc, h1, h2⟩ := hlim; exact ⟨mc, nsK h1, h2⟩
    · cases q : H b with
      | none => exact .inl rfl
      | some u => obtain ⟨_, _, rfl⟩ := hH b u q; exact .inr ⟨_, _, rfl⟩
  cases hk : K.lookup a with
  | none =>
    refine ⟨_, _, made (fun b => if b = a then some (.frz { cls := .type "list", data := .seq vs.toArray } (.lst (ns.map V.int))) else none) (fun b u q => ?_) (.inl (.inr ⟨_, if_pos rfl⟩))⟩
    by_cases e : b = a
    · rw [if_pos e] at q; cases q; exact ⟨e, hk, rfl⟩
    · rw [if_neg e] at q; cases q
  | some ob =>
    have e := KX a ob hk
    rw [ha] at e; cases e
    exact ⟨_, _, made (fun _ => none) (fun b u q => nomatch q) (.inr ⟨_, vs.toArray, _, hk, rfl, rfl, rfl, by rw [List.size_toArray, hi.length]; exact hl, by simpa using rel⟩)⟩
/-- the law's call, of a promise where nothing is being shown -/
theorem law_run {J : JT} {k : Nat} {fa : Addr} {fd : FuncData} {H : Hp} {base : Heap} (B : Begin P w K mg s a ns H base) (hr : Room k callerA) (hst : ∀ P ds, ¬ Stat J P ds) (F : FnG pG P w K mg base (L2.CX P w) k fa fd ["script"] (spLaw J K)) (hbind : BindsTo s fd ⟨[.ref a], []⟩ [("script", .ref a)]) :
    codeAny (model P w) callerA (.call (.ref fa) ⟨[.ref a], []⟩) (fun r s' => r = .ok (.ret (.bool true)) ∧ PySem.OldK s.heap s'.heap ∧ s'.os = s.os ∧ AllBare s'.gens) s := by
  have start : spLaw J K [V.ref a] H (fun v _ => v = .bl true) (fun _ _ _ => False) := ⟨fun _ => none, a, ns, rfl, ⟨(fun b g e => by cases e), (fun P ds z => absurd z (hst P ds))⟩, B.sq, fun _ => rfl⟩
  refine codeAny_mono (F.run callerA [] s H ⟨[.ref a], []⟩ [.ref a] [.ref a] _ _ hr rfl B.e0 hbind (.cons rfl .nil) start) fun r s' h => ?_
  match r, h with
  | .error e, h => obtain ⟨_, _, _, _, _, _, _, _, _, _, _, _, z⟩ := h; exact z.elim
  | .ok .next, h => exact False.elim h
  | .ok .brk, h => exact False.elim h
  | .ok .cont, h => exact False.elim h
  | .ok (.ret u), h =>
    obtain ⟨v, H', os, bare, un, hok', rv, hv⟩ := h
    change v = .bl true at hv
    subst hv
    obtain rfl : u = Value.bool true := rv
    refine ⟨rfl, PySem.OldK.of_keep fun b o e => ?_, os, bare⟩
    rcases B.only b with q | ⟨ob, u, q⟩
    · exact un.keep b o e q (fun z => nomatch z) (fun z => nomatch z)
    · obtain ⟨e1, _⟩ := B.e0.hok b _ q
      obtain ⟨e2, _⟩ := hok' b _ (un.frzs b ob _ q)
      rw [e] at e1; cases e1
      exact e2
end
/-- a law over a head by facts -/
theorem walk_law {l : PySem.W.OpenLaw} {n k : Nat} {q : Program} {loose : List Str} {XP : (Str → Option Value) → Heap → Prop} {YP : World → Heap → Prop} {d : DefRec}
    (hn : l.most = some n) (hn2 : n ≤ sizeLine) (hdf : d.params.defaults = []) (hr : Room k callerA)
    (F : ∀ (w : World) (mg : Str → Option Value) (fa : Addr) (h : Heap), YP w h → h.Ns mainGlobals mg → mg d.name = some (.ref fa) →
      ∃ (K : PySem.W.Frag) (fd : FuncData) (J : JT), (∀ P ds, ¬ Stat J P ds) ∧ K.In h ∧ (∀ (s : Shared) (u : Value), BindsTo s fd ⟨[u], []⟩ [("script", u)]) ∧ ∀ base : Heap, K.In base → base.Ns mainGlobals mg → FnG pG l.prog w K mg base (L2.CX l.prog w) k fa fd ["script"] (spLaw J K)) :
    PySem.W.WalkO q loose XP YP l.row.toRowW d [] (fun f vs => PySem.call f vs) := by
  refine Att.attach_call hn hdf fun w s₀ s₁ mg mb fa o pm cd doc a vs ns G Y ho hd hcd hmg hobj hints hlen hg => ?_
  obtain ⟨K, fd, J, hst, KX, hb, hF⟩ := F w mg fa _ Y G.T.g hmg
  obtain ⟨H, base, B⟩ := begin_of (P := l.prog) (w := w) KX G.T.g G.T.b G.T.builtins G.T.nolimit hg hobj hints (Nat.le_trans hlen hn2)
  exact law_run B hr hst (hF base B.kin B.nsb) (hb s₁ (.ref a))
end PL
end
section
set_option Elab.async false
set_option linter.all false
set_option maxRecDepth 100000
set_option autoImplicit false
namespace PL
open PySem PySem.Spec L2
open PyProof.Rows hiding St
theorem bt_len : bootBuiltins "len" = some (.builtin "len") := by decide +kernel
theorem bt_sum : bootBuiltins "sum" = some (.builtin "sum") := by decide +kernel
theorem bt_all : bootBuiltins "all" = some (.builtin "all") := by decide +kernel
theorem bt_any : bootBuiltins "any" = some (.builtin "any") := by decide +kernel
theorem bt_abs : bootBuiltins "abs" = some (.builtin "abs") := by decide +kernel
theorem bt_sorted : bootBuiltins "sorted" = some (.builtin "sorted") := by decide +kernel
theorem bt_repr : bootBuiltins "repr" = some (.builtin "repr") := by decide +kernel
theorem bt_min : bootBuiltins "min" = some (.builtin "min") := by decide +kernel
theorem bt_max : bootBuiltins "max" = some (.builtin "max") := by decide +kernel
theorem bt_list : bootBuiltins "list" = some (.type "list") := by decide +kernel
theorem bt_tuple : bootBuiltins "tuple" = some (.type "tuple") := by decide +kernel
theorem bt_int : bootBuiltins "int" = some (.type "int") := by decide +kernel
theorem bt_bool : bootBuiltins "bool" = some (.type "bool") := by decide +kernel
theorem bt_str : bootBuiltins "str" = some (.type "str") := by decide +kernel
theorem bt_dict : bootBuiltins "dict" = some (.type "dict") := by decide +kernel
theorem bt_set : bootBuiltins "set" = some (.type "set") := by decide +kernel
/-! ### lots, families -/
def dLot (xs : List Int) : D := .tup (xs.map D.int)
def dLots (L : List (List Int)) : D := .tup (L.map dLot)
theorem solids_map {α : Type} {f : α → D} (h : ∀ x, (f x).solid = true) : ∀ l : List α, D.solids (l.map f) = true
  | [] => by unfold D.solids; rfl
  | x :: l => by rw [List.map_cons]; unfold D.solids; rw [h x, solids_map h l]; rfl
theorem solid_lot (xs : List Int) : (dLot xs).solid = true := by unfold dLot D.solid; exact solids_map (fun x => by unfold D.solid; rfl) xs
theorem solid_lots (L : List (List Int)) : (dLots L).solid = true := by unfold dLots D.solid; exact solids_map solid_lot L
/-- a lot of n points -/
def LOk (n : Int) (q : List Int) : Prop := (∀ x ∈ q, 0 ≤ x ∧ x < n) ∧ q.Pairwise (· < ·)
/-- lots ascend -/
def lexB : List Int → List Int → Bool
  | [], [] => false
  | [], _ :: _ => true
  | _ :: _, [] => false
  | x :: xs, y :: ys => decide (x < y) || (decide (x = y) && lexB xs ys)
def FOk (n : Int) (L : List (List Int)) : Prop := 1 ≤ n ∧ n ≤ 7 ∧ (∀ q ∈ L, LOk n q) ∧ L.Pairwise fun a b => lexB a b = true
def FamOk (p l : D) : Prop := ∃ n L, p = .int n ∧ l = dLots L ∧ FOk n L
theorem famMk (o : OP) : FamMk o FamOk := ⟨fun h => by
  obtain ⟨n, L, rfl, rfl, _⟩ := h
  exact ⟨by unfold D.solid; rfl, solid_lots L⟩⟩
def thereD (L : List (List Int)) : D := .dct true (L.map fun q => (dLot q, .bl true))
end PL
theorem L2.Room.units1 {k : Nat} {A : PySem.Around} (r : L2.Room k A) : A.units + 1 < PySem.cLine := by have := r.un; omega
end
section
set_option Elab.async false
set_option linter.all false
set_option maxRecDepth 100000
set_option autoImplicit false
namespace PL
open PySem PySem.Spec L2
open PyProof.Rows hiding St
/-! ### unfolding -/
section
variable {ρ : Rho} {P : R → Prop} {E : XP} {k : WEnds} {f g h : WE} {t t' : WT} {u v : WS} {i j : Nat} {d : D}
@[simp] theorem u_then : wThen u v k E ρ = u { k with nx := fun ρ' => v k E ρ' } E ρ := rfl
@[simp] theorem u_skip : wSkip k E ρ = k.nx ρ := rfl
@[simp] theorem u_expr : wExpr f k E ρ = f ρ (fun _ => k.nx ρ) E := rfl
@[simp] theorem u_ret : wRet f k E ρ = f ρ k.rt E := rfl
@[simp] theorem u_retN : wRetN k E ρ = k.rt (.val .non) := rfl
@[simp] theorem u_retV : wRetV i k E ρ = ∃ r, ρ[i]? = some (some r) ∧ k.rt r := rfl
@[simp] theorem u_set : wSet i f k E ρ = f ρ (fun r => k.nx (ρ.set i (some (.val r.toD)))) E := rfl
@[simp] theorem u_setO : wSetO i f k E ρ = f ρ (fun r => k.nx (ρ.set i (some r))) E := rfl
@[simp] theorem u_frz : wFrz i u k E ρ = ∃ r, ρ[i]? = some (some r) ∧ u k E (ρ.set i (some (.val r.toD))) := rfl
@[simp] theorem u_ifS : wIfS t u v k E ρ = t ρ (fun b => if b = true then u k E ρ else v k E ρ) E := rfl
@[simp] theorem u_var : wVar i ρ P E = ∃ d, ρ[i]? = some (some (.val d)) ∧ P (.val d) := rfl
@[simp] theorem u_c : wC d ρ P E = P (.val d) := rfl
@[simp] theorem u_args0 {acc : List D} {P : List D → Prop} : wArgs [] ρ acc P E = P acc := rfl
@[simp] theorem u_args {fs : List WE} {acc : List D} {P : List D → Prop} : wArgs (f :: fs) ρ acc P E = f ρ (fun r => wArgs fs ρ (acc ++ [r.toD]) P E) E := rfl
@[simp] theorem u_tup {fs : List WE} : wTup fs ρ P E = wArgs fs ρ [] (fun ds => P (.val (.tup ds))) E := rfl
@[simp] theorem u_lst {fs : List WE} : wLst fs ρ P E = wArgs fs ρ [] (fun ds => P (.own ds)) E := rfl
@[simp] theorem u_bin {o : OpW} : wBin o f g ρ P E = f ρ (fun r1 => g ρ (fun r2 => o r1.toD r2.toD P) E) E := rfl
@[simp] theorem u_neg : wNeg f ρ P E = f ρ (fun r => ∃ i, r.toD = .int i ∧ P (.val (.int (-i)))) E := rfl
@[simp] theorem u_and : wAnd f g ρ P E = f ρ (fun r => ∃ b, r.toD = .bl b ∧ if b = true then g ρ P E else P (.val (.bl false))) E := rfl
@[simp] theorem u_or : wOr f g ρ P E = f ρ (fun r => ∃ b, r.toD = .bl b ∧ if b = true then P (.val (.bl true)) else g ρ P E) E := rfl
@[simp] theorem u_not : wNot f ρ P E = f ρ (fun r => ∃ i, r.toD = .bl i ∧ P (.val (.bl (!i)))) E := rfl
@[simp] theorem u_tst {P : Bool → Prop} : wTst f ρ P E = f ρ (fun r => ∃ b, r.toD = .bl b ∧ P b) E := rfl
@[simp] theorem u_notT {P : Bool → Prop} : wNotT t ρ P E = t ρ (fun b => P (!b)) E := rfl
@[simp] theorem u_andT {P : Bool → Prop} : wAndT t t' ρ P E = t ρ (fun b => if b = true then t' ρ P E else P false) E := rfl
@[simp] theorem u_orT {P : Bool → Prop} : wOrT t t' ρ P E = t ρ (fun b => if b = true then P true else t' ρ P E) E := rfl
@[simp] theorem u_yes {P : Bool → Prop} : wYes ρ P E = P true := rfl
@[simp] theorem u_if : wIf t f g ρ P E = t ρ (fun b => if b = true then f ρ P E else g ρ P E) E := rfl
@[simp] theorem u_callB {o : CallW} {fs : List WE} : wCallB o fs ρ P E = wArgs fs ρ [] (fun ds => o ds P) E := rfl
@[simp] theorem u_call {m : MW} {fs : List WE} : wCall m fs ρ P E = wArgs fs ρ [] (fun ds => m ds P E) E := rfl
@[simp] theorem u_gName {P : Rho → Prop} : wgName i d ρ P = P (ρ.set i (some (.val d))) := rfl
@[simp] theorem u_gTup {is : List Nat} {P : Rho → Prop} : wgTup is d ρ P = ∃ ds, d = .tup ds ∧ ds.length = is.length ∧ P (setAll is ds ρ) := rfl
@[simp] theorem u_setAll {is : List Nat} {ds : List D} : setAll (i :: is) (d :: ds) ρ = setAll is ds (ρ.set i (some (.val d))) := rfl
@[simp] theorem u_setAll0 {ds : List D} : setAll [] ds ρ = ρ := rfl
@[simp] theorem u_val : wVal f ρ P E = f ρ (fun r => P (.val r.toD)) E := rfl
@[simp] theorem u_asg {g : WG} : wAsg f g k E ρ = f ρ (fun r => g r.toD ρ k.nx) E := rfl
@[simp] theorem u_par : wPar i j f g k E ρ = f ρ (fun r1 => g ρ (fun r2 => k.nx ((ρ.set i (some r1)).set j (some r2))) E) E := rfl
@[simp] theorem u_app : wApp i f k E ρ = ∃ ds, ρ[i]? = some (some (.own ds)) ∧ f ρ (fun r => ds.length < sizeLine ∧ k.nx (ρ.set i (some (.own (ds ++ [r.toD]))))) E := rfl
@[simp] theorem u_bor : wBor i f ρ P E = ∃ r0, ρ[i]? = some (some r0) ∧ r0.isOwn = true ∧ f (ρ.set i (some (.val r0.toD))) (fun r => r.solid = true ∧ P r) (fun x => x.fs = [] ∧ E x) := rfl
@[simp] theorem u_borT {P : Bool → Prop} : wBorT i t ρ P E = ∃ r0, ρ[i]? = some (some r0) ∧ r0.isOwn = true ∧ t (ρ.set i (some (.val r0.toD))) P (fun x => x.fs = [] ∧ E x) := rfl
@[simp] theorem u_seqL {Q : List D → Prop} : wSeq f ρ Q E = f ρ (fun r => match r.toD with | .lst xs => Q xs | .tup xs => Q xs | _ => False) E := rfl
@[simp] theorem u_chain {o o' : OpW} : wChain o o' f g h ρ P E = f ρ (fun r1 => g ρ (fun r2 => o r1.toD r2.toD (fun r => ∃ k, r = .val (.bl k) ∧ if k = true then h ρ (fun r3 => o' r2.toD r3.toD P) E else P (.val (.bl false)))) E) E := rfl
@[simp] theorem u_isi {T : String} : wIsi T f ρ P E = f ρ (fun r => ∃ b, isiD T r.toD = some b ∧ P (.val (.bl b))) E := rfl
@[simp] theorem u_slice {lo hi : Option WE} : wSlice f lo hi ρ P E = f ρ (fun r => wPart lo ρ (fun l => wPart hi ρ (fun h => sliceW r.toD l h P) E) E) E := rfl
@[simp] theorem u_part0 {P : Option Int → Prop} : wPart none ρ P E = P none := rfl
@[simp] theorem u_part {P : Option Int → Prop} : wPart (some f) ρ P E = f ρ (fun r => ∃ i, r.toD = .int i ∧ P (some i)) E := rfl
@[simp] theorem u_zip {Q : List D → Prop} : wZip f g ρ Q E = wArgs [f, g] ρ [] (fun ds => zipP ds Q) E := rfl
@[simp] theorem u_points : w_points f ρ P E = f ρ (fun r => ∃ p l, r.toD = dFam p l ∧ P (.val p)) E := rfl
@[simp] theorem u_lots : w_lots f ρ P E = f ρ (fun r => ∃ p l, r.toD = dFam p l ∧ P (.val l)) E := rfl
@[simp] theorem u_meth0 {m : MW} : wMeth0 m f ρ P E = f ρ (fun r => ∃ p l, r.toD = dFam p l ∧ m [dFam p l] P E) E := rfl
@[simp] theorem u_family {F : D → D → Prop} {fs : List WE} : wFamily F fs ρ P E = wArgs fs ρ [] (fun ds => ∃ p l, ds = [p, l] ∧ F p l ∧ P (.val (dFam p l))) E := rfl
@[simp] theorem u_never : wNever k E ρ = False := rfl
@[simp] theorem u_newD {b : Bool} : wNewD b ρ P E = P (.ownd b []) := rfl
@[simp] theorem u_rev : wRev f ρ P E = f ρ (fun r => ∃ xs, (r.toD = .lst xs ∧ P (.own xs.reverse)) ∨ (r.toD = .tup xs ∧ P (.val (.tup xs.reverse)))) E := rfl
@[simp] theorem u_disp1 : wDisp1 f g ρ P E = f ρ (fun rk => g ρ (fun rv => ∃ k, D.key? rk.toD = some k ∧ P (.ownd false [(rk.toD, rv.toD)])) E) E := rfl
@[simp] theorem u_rng1 {Q : List D → Prop} : wRange1 f ρ Q E = wArgs [f] ρ [] (fun ds => ∃ j : Int, ds = [.int j] ∧ -16777216 ≤ j ∧ j ≤ 16777216 ∧ Q (rangeD 0 j.toNat)) E := rfl
@[simp] theorem u_mOf {n : Nat} {b : WS} {ds : List D} : mOf n b ds P E = b { nx := fun _ => P (.val .non), rt := P, bk := fun _ => False, ct := fun _ => False } E (rho0 n ds) := rfl
@[simp] theorem u_dput {fk fv : WE} : wDPut i fk fv k E ρ = fv ρ (fun rv => ∃ t kvs, ρ[i]? = some (some (.ownd t kvs)) ∧ fk ρ (fun rk => (if t = true then (D.keys? rk.toD).isSome else (D.key? rk.toD).isSome) = true ∧ kvs.length < sizeLine ∧ k.nx (ρ.set i (some (.ownd t (putD kvs rk.toD rv.toD))))) E) E := rfl
end
/-! ### values -/
section
variable {P : R → Prop} {i j : Int} {xs ys : List D}
@[simp] theorem v_add : addW (.int i) (.int j) P = P (.val (.int (i + j))) := rfl
@[simp] theorem v_addL : addW (.lst xs) (.lst ys) P = (xs.length + ys.length ≤ sizeLine ∧ P (.own (xs ++ ys))) := rfl
@[simp] theorem v_addT : addW (.tup xs) (.tup ys) P = (xs.length + ys.length ≤ sizeLine ∧ P (.val (.tup (xs ++ ys)))) := rfl
@[simp] theorem v_int : intOp0 (fun i j => i - j) (.int i) (.int j) P = P (.val (.int (i - j))) := by
  refine propext ⟨fun ⟨a, b, e1, e2, h⟩ => ?_, fun h => ⟨i, j, rfl, rfl, h⟩⟩
  cases e1; cases e2; exact h
@[simp] theorem v_num {g : Int → Int → Bool} {o : OpW} : numOp g o (.int i) (.int j) P = P (.val (.bl (g i j))) := rfl
@[simp] theorem v_lenL : lenW [.lst xs] P = P (.val (.int xs.length)) := rfl
@[simp] theorem v_lenT : lenW [.tup xs] P = P (.val (.int xs.length)) := rfl
@[simp] theorem v_lenD {t : Bool} {kvs : List (D × D)} : lenW [.dct t kvs] P = P (.val (.int kvs.length)) := rfl
@[simp] theorem v_listL : listW [.lst xs] P = P (.own xs) := rfl
@[simp] theorem v_listT : listW [.tup xs] P = P (.own xs) := rfl
@[simp] theorem v_tupleL : tupleW [.lst xs] P = P (.val (.tup xs)) := rfl
@[simp] theorem v_tupleT : tupleW [.tup xs] P = P (.val (.tup xs)) := rfl
@[simp] theorem v_intI : intW [.int i] P = P (.val (.int i)) := rfl
@[simp] theorem v_sliceT {lo hi : Option Int} : sliceW (.tup xs) lo hi P = P (.val (.tup (cutD xs lo hi))) := rfl
@[simp] theorem v_sliceL {lo hi : Option Int} : sliceW (.lst xs) lo hi P = P (.own (cutD xs lo hi)) := rfl
@[simp] theorem v_zipT {Q : List D → Prop} : zipP [.tup xs, .tup ys] Q = Q (zipD xs ys) := rfl
@[simp] theorem v_zipL {Q : List D → Prop} : zipP [.lst xs, .lst ys] Q = Q (zipD xs ys) := rfl
@[simp] theorem v_solid {d : D} : (R.val d).solid = d.solid := rfl
@[simp] theorem v_own {xs : List D} : (R.own xs).isOwn = true := rfl
@[simp] theorem v_ownd {t : Bool} {xs : List (D × D)} : (R.ownd t xs).isOwn = true := rfl
@[simp] theorem v_valo {d : D} : (R.val d).isOwn = false := rfl
theorem kit_ii : kitB "int" "int" = some true := by decide +kernel
theorem kit_ib : kitB "int" "bool" = some false := by decide +kernel
theorem kit_bi : kitB "bool" "int" = some true := by decide +kernel
theorem kit_bb : kitB "bool" "bool" = some true := by decide +kernel
theorem kit_tt : kitB "tuple" "tuple" = some true := by decide +kernel
theorem kit_lt : kitB "list" "tuple" = some false := by decide +kernel
theorem kit_it : kitB "int" "tuple" = some false := by decide +kernel
theorem kit_bt : kitB "bool" "tuple" = some false := by decide +kernel
theorem kit_st : kitB "str" "tuple" = some false := by decide +kernel
theorem kit_nt : kitB "NoneType" "tuple" = some false := by decide +kernel
theorem kit_dt : kitB "dict" "tuple" = some false := by decide +kernel
theorem kit_ni : kitB "NoneType" "int" = some false := by decide +kernel
theorem kit_si : kitB "str" "int" = some false := by decide +kernel
theorem kit_ti : kitB "tuple" "int" = some false := by decide +kernel
theorem kit_li : kitB "list" "int" = some false := by decide +kernel
theorem kit_di : kitB "dict" "int" = some false := by decide +kernel
theorem kit_nb : kitB "NoneType" "bool" = some false := by decide +kernel
theorem kit_tb : kitB "tuple" "bool" = some false := by decide +kernel
theorem kit_lb : kitB "list" "bool" = some false := by decide +kernel
@[simp] theorem v_isInt1 : isiD "int" (.int i) = some true := kit_ii
@[simp] theorem v_isBool1 : isiD "bool" (.int i) = some false := kit_ib
@[simp] theorem v_isTup1 : isiD "tuple" (.tup xs) = some true := kit_tt
def D.isTup : D → Bool
  | .tup _ => true
  | _ => false
def D.isInt : D → Bool
  | .int _ => true
  | _ => false
theorem isTup_eq : ∀ {d : D}, noObj d = true → isiD "tuple" d = some d.isTup
  | .non, _ => kit_nt
  | .bl _, _ => kit_bt
  | .int _, _ => kit_it
  | .str _, _ => kit_st
  | .tup _, _ => kit_tt
  | .lst _, _ => kit_lt
  | .dct _ _, _ => kit_dt
  | .obj _ _, h => by unfold noObj at h; cases h
  | .raw _ _ _, h => by unfold noObj at h; cases h
theorem v_all {bs : List Bool} (h : P (.val (.bl (bs.all id)))) : allW [.lst (bs.map .bl)] P := ⟨bs, rfl, h⟩
theorem v_any {bs : List Bool} (h : P (.val (.bl (bs.any id)))) : anyW [.lst (bs.map .bl)] P := ⟨bs, rfl, h⟩
end
theorem ite_and {P : R → Prop} {p : Prop} [Decidable p] {c : Bool} : (if p then P (.val (.bl c)) else P (.val (.bl false))) ↔ P (.val (.bl (decide p && c))) := by
  by_cases h : p <;> simp [h]
theorem ite_or {P : R → Prop} {p : Prop} [Decidable p] {c : Bool} : (if p then P (.val (.bl true)) else P (.val (.bl c))) ↔ P (.val (.bl (decide p || c))) := by
  by_cases h : p <;> simp [h]
theorem ite_andT {P : Bool → Prop} {p : Prop} [Decidable p] {c : Bool} : (if p then P c else P false) ↔ P (decide p && c) := by
  by_cases h : p <;> simp [h]
theorem ite_orT {P : Bool → Prop} {p : Prop} [Decidable p] {c : Bool} : (if p then P true else P c) ↔ P (decide p || c) := by
  by_cases h : p <;> simp [h]
/-! ### loops -/
/-- what a comprehension makes of one thing -/
def item (g : WG) (ft : WT) (fe : WE) (ρ : Rho) (x : D) (K : Option D → Prop) : Prop := g x ρ (fun ρ2 => ft ρ2 (fun b => if b = true then fe ρ2 (fun r => K (some r.toD)) noX else K none) noX)
inductive Al {α β : Type} (S : α → β → Prop) : List α → List β → Prop
  | nil : Al S [] []
  | cons {a b as bs} : S a b → Al S as bs → Al S (a :: as) (b :: bs)
theorem lcGo_gen {g : WG} {ft : WT} {fe : WE} {ρ : Rho} {S : D → Option D → Prop} : ∀ (ds : List D) (acc : List D) (P : R → Prop), (∀ x ∈ ds, ∀ K : Option D → Prop, (∀ o, S x o → K o) → item g ft fe ρ x K) →
    (∀ os, Al S ds os → P (.own (acc ++ os.filterMap id))) → wLcGo g ft fe ρ ds acc P
  | [], acc, P, _, hp => by
    have := hp [] .nil
    simpa [wLcGo] using this
  | x :: ds, acc, P, hx, hp => by
    unfold wLcGo
    have h1 := hx x (List.mem_cons_self ..) (fun o => match o with | some d => wLcGo g ft fe ρ ds (acc ++ [d]) P | none => wLcGo g ft fe ρ ds acc P) (fun o ho => by
      cases o with
      | some d => exact lcGo_gen ds _ P (fun y hy => hx y (List.mem_cons_of_mem _ hy)) (fun os ha => by
          have := hp _ (.cons ho ha)
          have e : List.filterMap id (some d :: os) = d :: List.filterMap id os := rfl
          rw [e] at this
          rw [List.append_assoc]; exact this)
      | none => exact lcGo_gen ds _ P (fun y hy => hx y (List.mem_cons_of_mem _ hy)) (fun os ha => by
          have := hp _ (.cons ho ha)
          rw [List.filterMap_cons_none rfl] at this
          exact this))
    exact h1
theorem lc_gen {vs : List Nat} {fi : WI} {g : WG} {ft : WT} {fe : WE} {ρ : Rho} {P : R → Prop} {E : XP} (S : D → Option D → Prop) (ds : List D) (hi : ∀ Q, Q ds → fi ρ Q E) (hx : ∀ x ∈ ds, ∀ K : Option D → Prop, (∀ o, S x o → K o) → item g ft fe (wipeR ρ vs) x K)
    (hp : ∀ os, Al S ds os → P (.own (os.filterMap id))) : wLc vs fi g ft fe ρ P E := by
  refine hi _ (lcGo_gen ds [] P hx fun os ha => ?_)
  simpa using hp os ha
theorem Al.fn {α β : Type} {f : α → β} : ∀ {as : List α} {bs : List β}, Al (fun a b => b = f a) as bs → bs = as.map f
  | _, _, .nil => rfl
  | _, _, .cons h t => by rw [h, Al.fn t]; rfl
theorem lc_map {vs : List Nat} {fi : WI} {g : WG} {ft : WT} {fe : WE} {ρ : Rho} {P : R → Prop} {E : XP} (h : D → D) (ds : List D) (hi : ∀ Q, Q ds → fi ρ Q E) (hx : ∀ x ∈ ds, ∀ K : Option D → Prop, K (some (h x)) → item g ft fe (wipeR ρ vs) x K)
    (hp : P (.own (ds.map h))) : wLc vs fi g ft fe ρ P E := by
  refine lc_gen (fun x o => o = some (h x)) ds hi (fun x hm K hk => hx x hm K (hk _ rfl)) fun os ha => ?_
  rw [ha.fn]
  have : (ds.map fun x => some (h x)).filterMap id = ds.map h := by rw [List.filterMap_map]; simp
  rw [this]; exact hp
theorem lc_filter {vs : List Nat} {fi : WI} {g : WG} {ft : WT} {fe : WE} {ρ : Rho} {P : R → Prop} {E : XP} (p : D → Bool) (h : D → D) (ds : List D) (hi : ∀ Q, Q ds → fi ρ Q E) (hx : ∀ x ∈ ds, ∀ K : Option D → Prop, K (if p x = true then some (h x) else none) → item g ft fe (wipeR ρ vs) x K)
    (hp : P (.own ((ds.filter p).map h))) : wLc vs fi g ft fe ρ P E := by
  refine lc_gen (fun x o => o = if p x = true then some (h x) else none) ds hi (fun x hm K hk => hx x hm K (hk _ rfl)) fun os ha => ?_
  rw [ha.fn]
  have : (ds.map fun x => if p x = true then some (h x) else none).filterMap id = (ds.filter p).map h := by
    clear hp ha hx hi
    induction ds with
    | nil => rfl
    | cons x ds ih =>
      by_cases e : p x = true
      · simp [e, ih]
      · simp [e, ih]
  rw [this]; exact hp
theorem for_ind {fi : WI} {g : WG} {u : WS} {k : WEnds} {E : XP} {ρ : Rho} (I : List D → Rho → Prop) (ds : List D) (hi : ∀ Q, Q ds → fi ρ Q E) (h0 : I ds ρ)
    (hs : ∀ d rest ρ, (∃ pre, ds = pre ++ d :: rest) → I (d :: rest) ρ → ∀ N : Rho → Prop, (∀ ρ', I rest ρ' → N ρ') → g d ρ (fun ρ2 => u { k with nx := N, ct := N, bk := k.nx } E ρ2)) (he : ∀ ρ, I [] ρ → k.nx ρ) : wFor fi g u k E ρ := by
  refine hi _ ?_
  have key : ∀ (rest pre : List D) (ρ : Rho), ds = pre ++ rest → I rest ρ → wForGo g u k E rest ρ := by
    intro rest
    induction rest with
    | nil => intro pre ρ _ h; exact he ρ h
    | cons d rest ih =>
      intro pre ρ e h
      exact hs d rest ρ ⟨pre, e⟩ h _ fun ρ' h' => ih (pre ++ [d]) ρ' (by rw [e, List.append_assoc]; rfl) h'
  exact key ds [] ρ rfl h0
theorem while_ind {t : WT} {u : WS} {k : WEnds} {E : XP} {ρ : Rho} (I : Nat → Rho → Prop) (n : Nat) (h0 : I n ρ)
    (hs : ∀ n ρ, I n ρ → ∀ N : Rho → Prop, (∀ m ρ', m < n → I m ρ' → N ρ') → t ρ (fun b => if b = true then u { k with nx := N, ct := N, bk := k.nx } E ρ else k.nx ρ) E) : wWhile t u k E ρ := by
  have key : ∀ (f n : Nat) (ρ : Rho), n < f → I n ρ → wWhN t u k E f ρ := by
    intro f
    induction f with
    | zero => intro n ρ h; omega
    | succ f ih =>
      intro n ρ hn h
      exact hs n ρ h _ fun m ρ' hm h' => ih m ρ' (by omega) h'
  exact ⟨n + 1, key (n + 1) n ρ (by omega) h0⟩
end PL
end
section
set_option Elab.async false
set_option linter.all false
set_option maxRecDepth 100000
set_option autoImplicit false
namespace PL
open PySem PySem.Spec L2
open PyProof.Rows hiding St
/-! ### lots compared -/
theorem toPs_ints : ∀ q : List Int, toPs (q.map D.int) = q.map PyData.int
  | [] => rfl
  | x :: q => by rw [List.map_cons, toPs, toPs_ints q]; rfl
theorem toP_lot (q : List Int) : toP (dLot q) = .tuple (q.map PyData.int) := by unfold dLot; rw [toP, toPs_ints]
theorem plainAll_ints : ∀ q : List Int, PyData.plainAll (q.map PyData.int) = true
  | [] => by simp [PyData.plainAll]
  | x :: q => by simp [PyData.plainAll, PyData.plain, plainAll_ints q]
theorem pl_lot (q : List Int) : pl (dLot q) = true := by unfold pl; rw [toP_lot]; unfold PyData.plain; exact plainAll_ints q
theorem depthAll_ints : ∀ q : List Int, PyData.depthAll (q.map PyData.int) = 0
  | [] => by simp [PyData.depthAll]
  | x :: q => by simp [PyData.depthAll, PyData.depth, depthAll_ints q]
theorem dp_lot (q : List Int) : dp (dLot q) = 1 := by unfold dp; rw [toP_lot]; unfold PyData.depth; rw [depthAll_ints]
theorem eqvAll_ints : ∀ a b : List Int, PyData.eqvAll (a.map PyData.int) (b.map PyData.int) = decide (a = b)
  | [], [] => by simp [PyData.eqvAll]
  | [], _ :: _ => by simp [PyData.eqvAll]
  | _ :: _, [] => by simp [PyData.eqvAll]
  | x :: a, y :: b => by
    simp only [List.map_cons, PyData.eqvAll, PyData.eqv, eqvAll_ints a b, List.cons.injEq]
    by_cases h : x = y <;> by_cases h2 : a = b <;> simp [h, h2]
theorem eqv_lot (a b : List Int) : PyData.eqv (toP (dLot a)) (toP (dLot b)) = decide (a = b) := by rw [toP_lot, toP_lot, PyData.eqv, eqvAll_ints]
theorem eqv_int (a b : Int) : PyData.eqv (toP (.int a)) (toP (.int b)) = decide (a = b) := by
  rw [toP, toP, PyData.eqv]; by_cases h : a = b <;> simp [h]
theorem pl_int (a : Int) : pl (.int a) = true := by unfold pl; rw [toP]; rfl
theorem dp_int (a : Int) : dp (.int a) = 0 := by unfold dp; rw [toP]; rfl
theorem alikeAll_ints : ∀ a b : List Int, PySem.W.alikeAll (a.map PyData.int) (b.map PyData.int) = true
  | [], _ => by simp [PySem.W.alikeAll]
  | _ :: _, [] => by simp [PySem.W.alikeAll]
  | x :: a, y :: b => by simp [PySem.W.alikeAll, PySem.W.alike, alikeAll_ints a b]
theorem alike_lot (a b : List Int) : PySem.W.alike (toP (dLot a)) (toP (dLot b)) = true := by rw [toP_lot, toP_lot, PySem.W.alike, alikeAll_ints]
theorem dataLt_ints : ∀ a b : List Int, PyProof.Rows.lexLt PyProof.Rows.itemOrd (PySem.W.keyToksAll (a.map PyData.int)) (PySem.W.keyToksAll (b.map PyData.int)) = lexB a b
  | [], [] => by
    show PyProof.Rows.lexLt PyProof.Rows.itemOrd [Sum.inl 0] [Sum.inl 0] = false
    exact PyProof.Rows.lex_irrefl _
  | [], y :: b => by
    rw [List.map_cons, List.map_nil]
    show PyProof.Rows.lexLt PyProof.Rows.itemOrd [Sum.inl 0] (Sum.inl 1 :: _) = true
    rw [PySem.W.lex_atom (by simp)]
    rfl
  | x :: a, [] => by
    rw [List.map_cons, List.map_nil]
    show PyProof.Rows.lexLt PyProof.Rows.itemOrd (Sum.inl 1 :: _) [Sum.inl 0] = false
    rw [PySem.W.lex_atom (by simp)]
    rfl
  | x :: a, y :: b => by
    rw [List.map_cons, List.map_cons]
    by_cases e : x = y
    · subst e
      rw [PySem.W.dataLt_all_yes (by simp [PySem.W.alike]) (by simp [PyData.eqv]), dataLt_ints a b]
      simp [lexB]
    · rw [PySem.W.dataLt_all_no (by simp [PySem.W.alike]) (by simp [PyData.eqv, e]), PySem.W.dataLt_int]
      simp [lexB, e]
theorem dataLt_lot (a b : List Int) : PySem.W.dataLt (toP (dLot a)) (toP (dLot b)) = lexB a b := by rw [toP_lot, toP_lot, PySem.W.dataLt_tuple, dataLt_ints]
section
variable {P : R → Prop} {a b : List Int}
theorem v_ltLot (h : P (.val (.bl (lexB a b)))) : wLt (dLot a) (dLot b) P := by
  show ltW (dLot a) (dLot b) P
  exact ⟨pl_lot a, pl_lot b, alike_lot a b, by rw [toP_lot]; simp, by rw [dp_lot, dp_lot]; decide, by show P (.val (.bl (PySem.W.dataLt (toP (dLot a)) (toP (dLot b))))); rw [dataLt_lot]; exact h⟩
theorem v_eqLot (h : P (.val (.bl (decide (a = b))))) : eqW (dLot a) (dLot b) P := ⟨pl_lot a, pl_lot b, by rw [dp_lot, dp_lot]; decide, by rw [eqv_lot]; exact h⟩
theorem v_neLot (h : P (.val (.bl (decide (a ≠ b))))) : neW (dLot a) (dLot b) P := ⟨pl_lot a, pl_lot b, by rw [dp_lot, dp_lot]; decide, by rw [eqv_lot]; simpa using h⟩
theorem v_eqInt {i j : Int} (h : P (.val (.bl (decide (i = j))))) : eqW (.int i) (.int j) P := ⟨pl_int i, pl_int j, by rw [dp_int, dp_int]; decide, by rw [eqv_int]; exact h⟩
theorem v_neInt {i j : Int} (h : P (.val (.bl (decide (i ≠ j))))) : neW (.int i) (.int j) P := ⟨pl_int i, pl_int j, by rw [dp_int, dp_int]; decide, by rw [eqv_int]; simpa using h⟩
theorem all_pl {α : Type} {f : α → D} (h : ∀ x, pl (f x) = true) (l : List α) : (l.map f).all pl = true := by simp [h]
theorem any_eqv {α : Type} [DecidableEq α] {f : α → D} (h : ∀ x y, PyData.eqv (toP (f x)) (toP (f y)) = decide (x = y)) (x : α) (l : List α) [inst : Decidable (x ∈ l)] : ((l.map f).any fun y => PyData.eqv (toP y) (toP (f x))) = decide (x ∈ l) := by
  rw [Bool.eq_iff_iff, List.any_eq_true, decide_eq_true_iff]
  constructor
  · rintro ⟨y, hy, e⟩
    obtain ⟨z, hz, rfl⟩ := List.mem_map.mp hy
    rw [h, decide_eq_true_iff] at e
    subst e; exact hz
  · intro hx
    exact ⟨f x, List.mem_map.mpr ⟨x, hx, rfl⟩, by rw [h]; simp⟩
theorem v_inInts {i : Int} (h : P (.val (.bl (decide (i ∈ a))))) : wInB false (.int i) (dLot a) P :=
  .inl ⟨pl_int i, all_pl pl_int a, by rw [dp_int]; decide, by rw [any_eqv eqv_int]; simp only [Bool.false_xor]; exact h⟩
theorem v_inLots {q : List Int} {L : List (List Int)} (h : P (.val (.bl (decide (q ∈ L))))) : wInB false (dLot q) (.lst (L.map dLot)) P :=
  .inl ⟨pl_lot q, all_pl pl_lot L, by rw [dp_lot]; decide, by rw [any_eqv eqv_lot]; simp only [Bool.false_xor]; exact h⟩
theorem v_notInLots {q : List Int} {L : List (List Int)} (h : P (.val (.bl (decide (q ∉ L))))) : wInB true (dLot q) (.lst (L.map dLot)) P :=
  .inl ⟨pl_lot q, all_pl pl_lot L, by rw [dp_lot]; decide, by rw [any_eqv eqv_lot, Bool.true_xor]; rw [decide_not] at h; exact h⟩
theorem v_inLotsT {q : List Int} {L : List (List Int)} (h : P (.val (.bl (decide (q ∈ L))))) : wInB false (dLot q) (dLots L) P :=
  .inl ⟨pl_lot q, all_pl pl_lot L, by rw [dp_lot]; decide, by rw [any_eqv eqv_lot]; simp only [Bool.false_xor]; exact h⟩
theorem v_notInLotsT {q : List Int} {L : List (List Int)} (h : P (.val (.bl (decide (q ∉ L))))) : wInB true (dLot q) (dLots L) P :=
  .inl ⟨pl_lot q, all_pl pl_lot L, by rw [dp_lot]; decide, by rw [any_eqv eqv_lot, Bool.true_xor]; rw [decide_not] at h; exact h⟩
end
/-! ### the order of lots -/
theorem lexB_irrefl : ∀ a : List Int, lexB a a = false
  | [] => rfl
  | x :: a => by simp [lexB, lexB_irrefl a]
theorem lexB_trans : ∀ {a b c : List Int}, lexB a b = true → lexB b c = true → lexB a c = true
  | [], [], _, h, _ => by cases h
  | [], _ :: _, [], _, h => by cases h
  | [], _ :: _, _ :: _, _, _ => rfl
  | _ :: _, [], _, h, _ => by cases h
  | _ :: _, _ :: _, [], _, h => by cases h
  | x :: a, y :: b, z :: c, h, h' => by
    simp only [lexB, Bool.or_eq_true, decide_eq_true_eq, Bool.and_eq_true] at h h' ⊢
    rcases h with h | ⟨rfl, h⟩
    · rcases h' with h' | ⟨rfl, h'⟩
      · exact .inl (by omega)
      · exact .inl h
    · rcases h' with h' | ⟨rfl, h'⟩
      · exact .inl h'
      · exact .inr ⟨rfl, lexB_trans h h'⟩
theorem lexB_total : ∀ a b : List Int, lexB a b = true ∨ a = b ∨ lexB b a = true
  | [], [] => .inr (.inl rfl)
  | [], _ :: _ => .inl rfl
  | _ :: _, [] => .inr (.inr rfl)
  | x :: a, y :: b => by
    simp only [lexB, Bool.or_eq_true, decide_eq_true_eq, Bool.and_eq_true, List.cons.injEq]
    rcases Int.lt_trichotomy x y with h | h | h
    · exact .inl (.inl h)
    · rcases lexB_total a b with h2 | h2 | h2
      · exact .inl (.inr ⟨h, h2⟩)
      · exact .inr (.inl ⟨h, h2⟩)
      · exact .inr (.inr (.inr ⟨h.symm, h2⟩))
    · exact .inr (.inr (.inl h))
def lexLe (a b : List Int) : Bool := !lexB b a
theorem lexLe_iff {a b : List Int} : lexLe a b = true ↔ lexB a b = true ∨ a = b := by
  unfold lexLe
  constructor
  · intro h
    rcases lexB_total a b with h2 | h2 | h2
    · exact .inl h2
    · exact .inr h2
    · rw [h2] at h; cases h
  · rintro (h | rfl)
    · cases e : lexB b a with
      | false => rfl
      | true => have := lexB_trans h e; rw [lexB_irrefl] at this; cases this
    · rw [lexB_irrefl]; rfl
theorem lexLe_trans (a b c : List Int) (h : lexLe a b = true) (h' : lexLe b c = true) : lexLe a c = true := by
  rw [lexLe_iff] at *
  rcases h with h | rfl
  · rcases h' with h' | rfl
    · exact .inl (lexB_trans h h')
    · exact .inl h
  · exact h'
theorem lexLe_total (a b : List Int) : (lexLe a b || lexLe b a) = true := by
  rw [Bool.or_eq_true, lexLe_iff, lexLe_iff]
  rcases lexB_total a b with h | h | h
  · exact .inl (.inl h)
  · exact .inl (.inr h)
  · exact .inr (.inl h)
/-- sorted -/
def srt (L : List (List Int)) : List (List Int) := L.mergeSort lexLe
theorem srt_perm (L : List (List Int)) : List.Perm (srt L) L := List.mergeSort_perm L lexLe
theorem mem_srt {q : List Int} {L : List (List Int)} : q ∈ srt L ↔ q ∈ L := (srt_perm L).mem_iff
theorem srt_sorted (L : List (List Int)) : (srt L).Pairwise fun a b => lexLe a b = true := List.pairwise_mergeSort lexLe_trans lexLe_total L
theorem srt_asc {L : List (List Int)} (h : L.Nodup) : (srt L).Pairwise fun a b => lexB a b = true := by
  have h1 := srt_sorted L
  have h2 : (srt L).Nodup := (srt_perm L).nodup_iff.mpr h
  have h3 := h1.and h2
  refine h3.imp fun {a b} ⟨h, n⟩ => ?_
  rcases lexLe_iff.mp h with h | h
  · exact h
  · exact absurd h n
theorem srt_id {L : List (List Int)} (h : L.Pairwise fun a b => lexB a b = true) : srt L = L := List.mergeSort_of_pairwise (h.imp fun h => lexLe_iff.mpr (.inl h))
theorem asc_nodup {L : List (List Int)} (h : L.Pairwise fun a b => lexB a b = true) : L.Nodup := h.imp fun {a b} h e => by subst e; rw [lexB_irrefl] at h; cases h
theorem asc_ext {L M : List (List Int)} (h : L.Pairwise fun a b => lexB a b = true) (h' : M.Pairwise fun a b => lexB a b = true) (e : ∀ q, q ∈ L ↔ q ∈ M) : L = M := by
  refine List.Perm.eq_of_pairwise (le := fun a b => lexB a b = true) (fun a b _ _ h1 h2 => ?_) h h' ?_
  · have := lexB_trans h1 h2; rw [lexB_irrefl] at this; cases this
  · exact (List.perm_ext_iff_of_nodup (asc_nodup h) (asc_nodup h')).mpr e
theorem map_mergeSort_lots (L : List (List Int)) : (L.map dLot).mergeSort (PySem.W.dataLe false toP) = (srt L).map dLot := by
  unfold srt
  rw [List.map_mergeSort]
  intro a _ b _
  show (!lexB b a) = _
  rw [PySem.W.dataLe_eq]
  show _ = !PySem.W.dataLt (toP (dLot b)) (toP (dLot a))
  rw [dataLt_lot]
theorem v_sortLots {P : R → Prop} {L : List (List Int)} (h : P (.own ((srt L).map dLot))) : sortW [.lst (L.map dLot)] P := by
  refine ⟨L.map dLot, .inl rfl, all_pl pl_lot L, ?_, .inl fun d hd => ?_, fun d hd => ?_, by rw [map_mergeSort_lots]; exact h⟩
  · intro x hx y hy
    rw [List.map_map] at hx hy
    obtain ⟨a, _, rfl⟩ := List.mem_map.mp hx
    obtain ⟨b, _, rfl⟩ := List.mem_map.mp hy
    exact alike_lot a b
  · obtain ⟨q, _, rfl⟩ := List.mem_map.mp hd
    exact ⟨_, rfl⟩
  · obtain ⟨q, _, rfl⟩ := List.mem_map.mp hd
    rw [dp_lot]; decide
end PL
end
section
set_option Elab.async false
set_option linter.all false
set_option maxRecDepth 100000
set_option maxHeartbeats 0
namespace PL.C
open PySem PySem.Spec L2 PL
open PyProof.Rows hiding St
def b_is_integer : WS :=
  (wRet (wAnd (wIsi "int" (wVar 0)) (wNot (wIsi "bool" (wVar 0)))))
def m_is_integer : MW := mOf 1 b_is_integer
def b_is_within : WS :=
  (wRet (wAnd (wCall m_is_integer [(wVar 0)]) (wChain wLe wLe (wVar 1) (wVar 0) (wVar 2))))
def m_is_within : MW := mOf 3 b_is_within
def b_is_tuple : WS :=
  (wRet (wAnd (wIsi "tuple" (wVar 0)) (wChain wLe wLe (wVar 1) (wCallB lenW [(wVar 0)]) (wVar 2))))
def m_is_tuple : MW := mOf 3 b_is_tuple
def b_is_lot : WS :=
  (wThen (wIfS (wOrT (wNotT (wTst (wIsi "tuple" (wVar 0)))) (wNotT (wTst (wCallB allW [(wLc [2, 3] (wSeq (wVar 0)) (wgName 3) wYes (wCall m_is_within [(wVar 3), (wC (.int 0)), (wBin subW (wVar 1) (wC (.int 1)))]))])))) (wRet (wC (.bl false))) wSkip)
  (wRet (wCallB allW [(wLc [2, 3, 4] (wZip (wVar 0) (wSlice (wVar 0) (some (wC (.int 1))) none)) (wgTup [3, 4]) wYes (wBin wLt (wVar 3) (wVar 4)))])))
def m_is_lot : MW := mOf 5 b_is_lot
def b_is_count : WS :=
  (wRet (wCall m_is_within [(wVar 0), (wC (.int 1)), (wC (.int 7))]))
def m_is_count : MW := mOf 1 b_is_count
def b_is_lot_of : WS :=
  (wRet (wCall m_is_lot [(wVar 1), (wVar 0)]))
def m_is_lot_of : MW := mOf 2 b_is_lot_of
def b_are_lots : WS :=
  (wThen (wIfS (wOrT (wNotT (wTst (wIsi "tuple" (wVar 1)))) (wNotT (wTst (wCallB allW [(wLc [2, 3] (wSeq (wVar 1)) (wgName 3) wYes (wCall m_is_lot_of [(wVar 0), (wVar 3)]))])))) (wRet (wC (.bl false))) wSkip)
  (wRet (wCallB allW [(wLc [2, 4, 5] (wZip (wVar 1) (wSlice (wVar 1) (some (wC (.int 1))) none)) (wgTup [4, 5]) wYes (wBin wLt (wVar 4) (wVar 5)))])))
def m_are_lots : MW := mOf 6 b_are_lots
def b_is_inside : WS :=
  (wRet (wCallB allW [(wLc [2, 3] (wSeq (wVar 0)) (wgName 3) wYes (wBin (wInB false) (wVar 3) (wVar 1)))]))
def m_is_inside : MW := mOf 4 b_is_inside
def b_without_one : WS :=
  (wRet (wCallB tupleW [(wLc [2, 3] (wSeq (wVar 0)) (wgName 3) (wTst (wBin neW (wVar 3) (wVar 1))) (wVar 3))]))
def m_without_one : MW := mOf 4 b_without_one
def b_above_of : WS :=
  (wRet (wLc [2, 3] (wSeq (wVar 0)) (wgName 3) (wAndT (wTst (wBin neW (wVar 3) (wVar 1))) (wTst (wCall m_is_inside [(wVar 1), (wVar 3)]))) (wVar 3)))
def m_above_of : MW := mOf 4 b_above_of
def b_steps_of : WS :=
  (wThen (wSetO 1 (wLst []))
  (wThen (wFor (wSeq (wVar 0)) (wgName 2)
  (wThen (wSet 3 (wIf (wTst (wBin wGt (wCallB lenW [(wVar 2)]) (wC (.int 0)))) (wCall m_above_of [(wVar 0), (wVar 2)]) (wLst [])))
  (wIfS (wAndT (wTst (wBin eqW (wCallB lenW [(wVar 3)]) (wC (.int 1)))) (wTst (wBin eqW (wCallB lenW [(wBin ixW (wVar 3) (wC (.int 0)))]) (wBin addW (wCallB lenW [(wVar 2)]) (wC (.int 1)))))) (wApp 1 (wTup [(wVar 2), (wBin ixW (wVar 3) (wC (.int 0)))])) wSkip)))
  (wRetV 1)))
def m_steps_of : MW := mOf 4 b_steps_of
def b_behind : WS :=
  (wRet (wCallB tupleW [(wLc [2, 3] (wSeq (wVar 0)) (wgName 3) (wTst (wBin (wInB true) (wVar 3) (wVar 1))) (wVar 3))]))
def m_behind : MW := mOf 4 b_behind
def b_is_step_in : WS :=
  (wThen (wIfS (wOrT (wNotT (wTst (wCall m_is_tuple [(wVar 2), (wC (.int 2)), (wC (.int 2))]))) (wNotT (wTst (wCallB allW [(wLc [3, 4] (wSeq (wVar 2)) (wgName 4) wYes (wCall m_is_lot_of [(wVar 0), (wVar 4)]))])))) (wRet (wC (.bl false))) wSkip)
  (wRet (wBin (wInB false) (wVar 2) (wCall m_steps_of [(wVar 1)]))))
def m_is_step_in : MW := mOf 5 b_is_step_in
def b_is_last : WS :=
  (wRet (wAnd (wBin eqW (wCallB lenW [(wVar 0)]) (wC (.int 2))) (wBin eqW (wCallB lenW [(wBin ixW (wVar 0) (wC (.int 1)))]) (wC (.int 1)))))
def m_is_last : MW := mOf 1 b_is_last
def b__law_lots : WS :=
  (wThen (wSet 1 (wLst [(wTup [])]))
  (wThen (wFor (wRange1 (wVar 0)) (wgName 2)
  (wSet 1 (wBin addW (wVar 1) (wLc [3, 4] (wSeq (wVar 1)) (wgName 4) wYes (wBin addW (wVar 4) (wTup [(wVar 2)]))))))
  (wRet (wCallB sortW [(wVar 1)]))))
def m__law_lots : MW := mOf 5 b__law_lots
def b__law_in : WS :=
  (wRet (wCallB allW [(wLc [2, 3] (wSeq (wVar 0)) (wgName 3) wYes (wBin (wInB false) (wVar 3) (wVar 1)))]))
def m__law_in : MW := mOf 4 b__law_in
def b__law_lower : WS :=
  (wThen (wSetO 1 (wNewD true))
  (wThen (wFor (wSeq (wVar 0)) (wgName 2)
  (wThen (wSet 3 (wLst [(wTup [])]))
  (wThen (wFor (wSeq (wVar 2)) (wgName 4)
  (wSet 3 (wBin addW (wVar 3) (wLc [6, 5] (wSeq (wVar 3)) (wgName 5) wYes (wBin addW (wVar 5) (wTup [(wVar 4)]))))))
  (wFor (wSeq (wVar 3)) (wgName 5)
  (wDPut 1 (wVar 5) (wC (.bl true)))))))
  (wFrz 1 (wRet (wCallB sortW [(wCallB listB [(wVar 1)])])))))
def m__law_lower : MW := mOf 7 b__law_lower
def b_init1 : WT := (wNotT (wTst (wCall m_is_count [(wVar 1)])))
def b_init2 : WT := (wNotT (wTst (wCall m_are_lots [(wVar 1), (wVar 2)])))
end PL.C
end
section
set_option Elab.async false
set_option linter.all false
set_option maxRecDepth 100000
namespace PL.C
open PySem PySem.Spec L2 PL
open PyProof.Rows hiding St
variable {P : R → Prop} {E : XP}
theorem sp_is_integer (d : D) (nd : noObj d = true) (h : P (.val (.bl d.isInt))) : m_is_integer [d] P E := by
  unfold m_is_integer b_is_integer
  cases d with
  | obj t ds => unfold noObj at nd; cases nd
  | raw a b ds => unfold noObj at nd; cases nd
  | int i => simp [-Bool.exists_bool, rho0]; exact h
  | bl b => simp [rho0, isiD, tyD, kit_bi, kit_bb]; exact h
  | non => simp [rho0, isiD, tyD, kit_ni]; exact h
  | str x => simp [rho0, isiD, tyD, kit_si]; exact h
  | tup x => simp [rho0, isiD, tyD, kit_ti]; exact h
  | lst x => simp [rho0, isiD, tyD, kit_li]; exact h
  | dct t x => simp [rho0, isiD, tyD, kit_di]; exact h
def withinB (a b : Int) : D → Bool
  | .int i => decide (a ≤ i) && decide (i ≤ b)
  | _ => false
theorem sp_is_within (d : D) (nd : noObj d = true) (a b : Int) (h : P (.val (.bl (withinB a b d)))) : m_is_within [d, .int a, .int b] P E := by
  unfold m_is_within b_is_within
  simp [-Bool.exists_bool, rho0]
  refine sp_is_integer d nd ?_
  cases d with
  | int i => simp [-Bool.exists_bool, D.isInt, ite_and]; exact h
  | _ => simp [D.isInt]; exact h
theorem noObjs_mem : ∀ {xs : List D} {x : D}, noObjs xs = true → x ∈ xs → noObj x = true
  | y :: ys, x, h, hm => by
    unfold noObjs at h
    rw [Bool.and_eq_true] at h
    rcases List.mem_cons.mp hm with rfl | hm
    · exact h.1
    · exact noObjs_mem h.2 hm
theorem cut1 {α : Type} (xs : List α) : PL.cutD xs (some 1) none = xs.drop 1 := by
  unfold PL.cutD
  have h1 : HT.sIx xs.length 0 (some 1) = min 1 xs.length := rfl
  have h2 : HT.sIx xs.length xs.length none = xs.length := rfl
  rw [h1, h2]
  cases xs with
  | nil => rfl
  | cons x xs => simp
theorem all_within {n : Int} {x : D} (h : withinB 0 (n - 1) x = true) : ∃ i, x = .int i ∧ 0 ≤ i ∧ i < n := by
  cases x with
  | int i => unfold withinB at h; simp at h; exact ⟨i, rfl, by omega, by omega⟩
  | _ => cases h
theorem zipD_map {xs ys : List D} : zipD xs ys = (xs.zip ys).map fun p => .tup [p.1, p.2] := rfl
theorem mem_zip {α β : Type} {a : α} {b : β} : ∀ {l : List α} {m : List β}, (a, b) ∈ l.zip m → a ∈ l ∧ b ∈ m := fun h => ⟨(List.of_mem_zip h).1, (List.of_mem_zip h).2⟩
/-- all([..]) of a comprehension -/
theorem all_lc {vs : List Nat} {fi : WI} {g : WG} {fe : WE} {ρ : Rho} (b : D → Bool) (ds : List D) (hi : ∀ Q, Q ds → fi ρ Q E) (hx : ∀ x ∈ ds, ∀ K : Option D → Prop, K (some (.bl (b x))) → item g wYes fe (wipeR ρ vs) x K)
    (h : P (.val (.bl (ds.all b)))) : wLc vs fi g wYes fe ρ (fun r => allW [r.toD] P) E := by
  refine lc_map (fun x => .bl (b x)) ds hi hx ?_
  have e : (ds.map fun x => D.bl (b x)) = (ds.map b).map .bl := by simp
  show allW [.lst _] _
  rw [e]
  refine v_all ?_
  have e2 : (ds.map b).all id = ds.all b := by simp [List.all_map]
  rw [e2]; exact h
def ltB : D → Bool
  | .tup [.int a, .int b] => decide (a < b)
  | _ => false
def isLotB (n : Int) : D → Bool
  | .tup xs => xs.all (withinB 0 (n - 1)) && (zipD xs (xs.drop 1)).all ltB
  | _ => false
theorem sp_is_lot (d : D) (nd : noObj d = true) (n : Int) (h : P (.val (.bl (isLotB n d)))) : m_is_lot [d, .int n] P E := by
  unfold m_is_lot b_is_lot
  simp [-Bool.exists_bool, rho0, isTup_eq nd]
  cases d with
  | tup xs =>
    unfold noObj at nd
    simp [-Bool.exists_bool, D.isTup]
    refine all_lc (withinB 0 (n - 1)) xs (fun Q hq => by simpa using hq) (fun x hx K hk => ?_) ?_
    · unfold item
      simp [-Bool.exists_bool, wipeR]
      exact sp_is_within x (noObjs_mem nd hx) _ _ hk
    · simp [-Bool.exists_bool]
      have eI : isLotB n (.tup xs) = (xs.all (withinB 0 (n - 1)) && (zipD xs (xs.drop 1)).all ltB) := rfl
      rw [eI] at h
      by_cases hw : ∀ x ∈ xs, withinB 0 (n - 1) x = true
      · rw [if_pos hw]
        have hw' : xs.all (withinB 0 (n - 1)) = true := List.all_eq_true.mpr hw
        rw [hw', Bool.true_and] at h
        refine all_lc ltB (zipD xs (xs.drop 1)) (fun Q hq => by simpa [cut1] using hq) (fun x hx K hk => ?_) h
        unfold item
        have hx2 := hx
        unfold zipD at hx2
        obtain ⟨⟨a, b⟩, hab, rfl⟩ := List.mem_map.mp hx2
        obtain ⟨ha, hb⟩ := mem_zip hab
        obtain ⟨i, rfl, _⟩ := all_within (hw a ha)
        obtain ⟨j, rfl, _⟩ := all_within (hw b (List.mem_of_mem_drop hb))
        simp [-Bool.exists_bool, wipeR]
        exact hk
      · rw [if_neg hw]
        have hw' : xs.all (withinB 0 (n - 1)) = false := by rw [← Bool.not_eq_true, List.all_eq_true]; exact hw
        rw [hw', Bool.false_and] at h
        exact h
  | _ => simp [D.isTup]; exact h

theorem sp_is_count (n : Int) (h : P (.val (.bl (decide (1 ≤ n) && decide (n ≤ 7))))) : m_is_count [.int n] P E := by
  unfold m_is_count b_is_count
  simp [-Bool.exists_bool, rho0]
  exact sp_is_within (.int n) rfl 1 7 h
theorem sp_is_lot_of (d : D) (nd : noObj d = true) (n : Int) (h : P (.val (.bl (isLotB n d)))) : m_is_lot_of [.int n, d] P E := by
  unfold m_is_lot_of b_is_lot_of
  simp [-Bool.exists_bool, rho0]
  exact sp_is_lot d nd n h
theorem noObjs_ints : ∀ q : List Int, noObjs (q.map D.int) = true
  | [] => rfl
  | x :: q => by rw [List.map_cons, noObjs, noObjs_ints q]; rfl
theorem noObj_lot (q : List Int) : noObj (dLot q) = true := by unfold dLot noObj; exact noObjs_ints q
theorem asc_zip : ∀ q : List Int, (zipD (q.map D.int) ((q.map D.int).drop 1)).all ltB = true ↔ q.Pairwise (· < ·)
  | [] => by simp [zipD]
  | [x] => by simp [zipD]
  | x :: y :: q => by
    have ih := asc_zip (y :: q)
    have e : zipD ((x :: y :: q).map D.int) (((x :: y :: q).map D.int).drop 1) = .tup [.int x, .int y] :: zipD ((y :: q).map D.int) (((y :: q).map D.int).drop 1) := by simp [zipD]
    rw [e, List.all_cons, Bool.and_eq_true, ih]
    constructor
    · rintro ⟨h1, h2⟩
      have h1' : x < y := of_decide_eq_true h1
      refine List.pairwise_cons.mpr ⟨fun z hz => ?_, h2⟩
      rcases List.mem_cons.mp hz with rfl | hz
      · exact h1'
      · exact Int.lt_trans h1' ((List.pairwise_cons.mp h2).1 z hz)
    · intro h
      obtain ⟨h1, h2⟩ := List.pairwise_cons.mp h
      exact ⟨decide_eq_true (h1 y (List.mem_cons_self ..)), h2⟩
theorem isLotB_iff (n : Int) (q : List Int) : isLotB n (dLot q) = true ↔ LOk n q := by
  have e : isLotB n (dLot q) = ((q.map D.int).all (withinB 0 (n - 1)) && (zipD (q.map D.int) ((q.map D.int).drop 1)).all ltB) := rfl
  rw [e, Bool.and_eq_true, asc_zip]
  unfold LOk
  have : (q.map D.int).all (withinB 0 (n - 1)) = true ↔ ∀ x ∈ q, 0 ≤ x ∧ x < n := by
    rw [List.all_map, List.all_eq_true]
    refine forall_congr' fun x => forall_congr' fun _ => ?_
    show (decide (0 ≤ x) && decide (x ≤ n - 1)) = true ↔ _
    simp; omega
  rw [this]
theorem isLotB_of {n : Int} {d : D} (h : isLotB n d = true) : ∃ q, d = dLot q ∧ LOk n q := by
  cases d with
  | tup xs =>
    have hw : xs.all (withinB 0 (n - 1)) = true := (Bool.and_eq_true_iff.mp h).1
    have key : ∀ l : List D, l.all (withinB 0 (n - 1)) = true → ∃ q : List Int, l = q.map D.int := by
      intro l
      induction l with
      | nil => intro _; exact ⟨[], rfl⟩
      | cons x l ih =>
        intro hl
        rw [List.all_cons, Bool.and_eq_true] at hl
        obtain ⟨i, rfl, _⟩ := all_within hl.1
        obtain ⟨q, rfl⟩ := ih hl.2
        exact ⟨i :: q, rfl⟩
    obtain ⟨q, rfl⟩ := key xs hw
    exact ⟨q, rfl, (isLotB_iff n q).mp h⟩
  | _ => cases h
theorem noObj_lots (L : List (List Int)) : noObj (dLots L) = true := by
  unfold dLots noObj
  induction L with
  | nil => rfl
  | cons q L ih => rw [List.map_cons, noObjs, noObj_lot, ih]; rfl
theorem mem_zipL {L : List (List Int)} {d : D} (h : d ∈ zipD (L.map dLot) ((L.map dLot).drop 1)) : ∃ a b, d = .tup [dLot a, dLot b] ∧ (a, b) ∈ L.zip (L.drop 1) := by
  unfold zipD at h
  obtain ⟨⟨x, y⟩, hxy, rfl⟩ := List.mem_map.mp h
  rw [← List.map_drop, List.zip_map] at hxy
  obtain ⟨⟨a, b⟩, hab, e⟩ := List.mem_map.mp hxy
  cases e
  exact ⟨a, b, rfl, hab⟩
theorem adj {α : Type} {r : α → α → Prop} : ∀ {L : List α}, L.Pairwise r → ∀ a b, (a, b) ∈ L.zip (L.drop 1) → r a b
  | [], _, a, b, h => by simp at h
  | [x], _, a, b, h => by simp at h
  | x :: y :: L, h, a, b, hm => by
    obtain ⟨h1, h2⟩ := List.pairwise_cons.mp h
    have e : (x :: y :: L).zip ((x :: y :: L).drop 1) = (x, y) :: (y :: L).zip ((y :: L).drop 1) := by simp
    rw [e] at hm
    rcases List.mem_cons.mp hm with z | z
    · cases z; exact h1 _ (List.mem_cons_self ..)
    · exact adj h2 a b z
theorem sp_are_lots (n : Int) (L : List (List Int)) (hL : ∀ q ∈ L, LOk n q) (ha : L.Pairwise fun a b => lexB a b = true) (h : P (.val (.bl true))) : m_are_lots [.int n, dLots L] P E := by
  unfold m_are_lots b_are_lots
  have e0 : isiD "tuple" (dLots L) = some true := kit_tt
  simp [-Bool.exists_bool, rho0, e0]
  refine all_lc (fun d => isLotB n d) (L.map dLot) (fun Q hq => by simpa [dLots] using hq) (fun x hx K hk => ?_) ?_
  · obtain ⟨q, hq, rfl⟩ := List.mem_map.mp hx
    unfold item
    simp [-Bool.exists_bool, wipeR]
    exact sp_is_lot_of _ (noObj_lot q) n hk
  · have hw : ∀ q ∈ L, isLotB n (dLot q) = true := fun q hq => (isLotB_iff n q).mpr (hL q hq)
    have hw' : (L.map dLot).all (fun d => isLotB n d) = true := by rw [List.all_map, List.all_eq_true]; exact hw
    rw [hw']
    simp [-Bool.exists_bool]
    refine all_lc (fun _ => true) (zipD (L.map dLot) ((L.map dLot).drop 1)) (fun Q hq => by simpa [cut1, dLots] using hq) (fun x hx K hk => ?_) (by
      have e : ∀ l : List D, (l.all fun _ => true) = true := fun l => by simp
      rw [e]; exact h)
    obtain ⟨a, b, rfl, hab⟩ := mem_zipL hx
    unfold item
    simp [-Bool.exists_bool, wipeR]
    exact v_ltLot (by rw [adj ha a b hab]; exact hk)
theorem init_sem : ∀ dp dl, FamOk dp dl → ∀ Q : Bool → Prop, Q false → b_init1 [none, some (.val dp), some (.val dl)] Q noX ∧ b_init2 [none, some (.val dp), some (.val dl)] Q noX := by
  rintro dp dl ⟨n, L, rfl, rfl, h1, h2, h3, h4⟩ Q hq
  constructor
  · unfold b_init1
    simp [-Bool.exists_bool]
    refine sp_is_count n ?_
    simp [h1, h2]; exact hq
  · unfold b_init2
    simp [-Bool.exists_bool]
    refine sp_are_lots n L h3 h4 ?_
    simp; exact hq
/-! ### a lot within another, a lot less a point -/
theorem sp_is_inside (a b : List Int) (h : P (.val (.bl (decide (∀ x ∈ a, x ∈ b))))) : m_is_inside [dLot a, dLot b] P E := by
  unfold m_is_inside b_is_inside
  simp [-Bool.exists_bool, rho0]
  refine all_lc (fun d => match d with | .int i => decide (i ∈ b) | _ => false) (a.map D.int) (fun Q hq => by simpa [dLot] using hq) (fun x hx K hk => ?_) ?_
  · obtain ⟨i, hi, rfl⟩ := List.mem_map.mp hx
    unfold item
    simp [-Bool.exists_bool, wipeR]
    exact v_inInts hk
  · have e : (a.map D.int).all (fun d => match d with | .int i => decide (i ∈ b) | _ => false) = decide (∀ x ∈ a, x ∈ b) := by
      rw [List.all_map, Bool.eq_iff_iff, List.all_eq_true, decide_eq_true_iff]
      exact forall_congr' fun x => forall_congr' fun _ => decide_eq_true_iff
    rw [e]; exact h
theorem sp_law_in (a b : List Int) (h : P (.val (.bl (decide (∀ x ∈ a, x ∈ b))))) : m__law_in [dLot a, dLot b] P E := sp_is_inside a b h
theorem sp_without_one (q : List Int) (p : Int) (h : P (.val (dLot (q.filter fun x => decide (x ≠ p))))) : m_without_one [dLot q, .int p] P E := by
  unfold m_without_one b_without_one
  simp [-Bool.exists_bool, rho0]
  refine lc_filter (fun d => match d with | .int i => decide (i ≠ p) | _ => false) id (q.map D.int) (fun Q hq => by simpa [dLot] using hq) (fun x hx K hk => ?_) ?_
  · obtain ⟨i, hi, rfl⟩ := List.mem_map.mp hx
    unfold item
    simp [-Bool.exists_bool, wipeR]
    refine v_neInt ?_
    by_cases e : i = p
    · subst e; simp at hk ⊢; exact hk
    · simp [e] at hk ⊢; exact hk
  · have e : ((q.map D.int).filter fun d => match d with | .int i => decide (i ≠ p) | _ => false) = (q.filter fun x => decide (x ≠ p)).map D.int := by rw [List.filter_map]; rfl
    rw [e]
    simp [-Bool.exists_bool]
    simpa [dLot] using h
end PL.C
end
section
set_option Elab.async false
set_option linter.all false
set_option maxRecDepth 100000
namespace PL
open PySem PySem.Spec L2
open PyProof.Rows hiding St
/-! ### loops over things of one kind -/
section
variable {α : Type} {vs : List Nat} {fi : WI} {g : WG} {ft : WT} {fe : WE} {ρ : Rho} {P : R → Prop} {E : XP}
theorem lcGo_enc (enc : α → D) (p : α → Bool) (h : α → D) : ∀ (l : List α) (acc : List D) (P : R → Prop), (∀ y ∈ l, ∀ K : Option D → Prop, K (if p y = true then some (h y) else none) → item g ft fe ρ (enc y) K) →
    P (.own (acc ++ (l.filter p).map h)) → wLcGo g ft fe ρ (l.map enc) acc P
  | [], acc, P, _, hp => by
    rw [List.map_nil]; unfold wLcGo; simpa using hp
  | y :: l, acc, P, hx, hp => by
    rw [List.map_cons]; unfold wLcGo
    refine hx y (List.mem_cons_self ..) (fun o => match o with | some d => wLcGo g ft fe ρ (l.map enc) (acc ++ [d]) P | none => wLcGo g ft fe ρ (l.map enc) acc P) ?_
    cases e : p y with
    | true =>
      rw [if_pos rfl]
      refine lcGo_enc enc p h l _ P (fun z hz => hx z (List.mem_cons_of_mem _ hz)) ?_
      rw [List.filter_cons_of_pos e, List.map_cons] at hp
      rw [List.append_assoc]; exact hp
    | false =>
      rw [if_neg (by decide)]
      refine lcGo_enc enc p h l _ P (fun z hz => hx z (List.mem_cons_of_mem _ hz)) ?_
      rw [List.filter_cons_of_neg (by rw [e]; decide)] at hp
      exact hp
theorem lc_enc (enc : α → D) (l : List α) (p : α → Bool) (h : α → D) (hi : ∀ Q, Q (l.map enc) → fi ρ Q E) (hx : ∀ y ∈ l, ∀ K : Option D → Prop, K (if p y = true then some (h y) else none) → item g ft fe (wipeR ρ vs) (enc y) K)
    (hp : P (.own ((l.filter p).map h))) : wLc vs fi g ft fe ρ P E := hi _ (lcGo_enc enc p h l [] P hx (by simpa using hp))
theorem lc_encm (enc : α → D) (l : List α) (h : α → D) (hi : ∀ Q, Q (l.map enc) → fi ρ Q E) (hx : ∀ y ∈ l, ∀ K : Option D → Prop, K (some (h y)) → item g ft fe (wipeR ρ vs) (enc y) K)
    (hp : P (.own (l.map h))) : wLc vs fi g ft fe ρ P E :=
  lc_enc enc l (fun _ => true) h hi (fun y hy K hk => hx y hy K (by simpa using hk)) (by
    have : l.filter (fun _ => true) = l := List.filter_eq_self.mpr fun _ _ => rfl
    rw [this]; exact hp)
theorem all_enc (enc : α → D) (l : List α) (b : α → Bool) (hi : ∀ Q, Q (l.map enc) → fi ρ Q E) (hx : ∀ y ∈ l, ∀ K : Option D → Prop, K (some (.bl (b y))) → item g wYes fe (wipeR ρ vs) (enc y) K)
    (h : P (.val (.bl (l.all b)))) : wLc vs fi g wYes fe ρ (fun r => allW [r.toD] P) E := by
  refine lc_encm enc l (fun y => .bl (b y)) hi hx ?_
  have e : (l.map fun x => D.bl (b x)) = (l.map b).map .bl := by simp
  show allW [.lst _] _
  rw [e]
  refine v_all ?_
  have e2 : (l.map b).all id = l.all b := by simp [List.all_map]
  rw [e2]; exact h
theorem any_enc (enc : α → D) (l : List α) (b : α → Bool) (hi : ∀ Q, Q (l.map enc) → fi ρ Q E) (hx : ∀ y ∈ l, ∀ K : Option D → Prop, K (some (.bl (b y))) → item g wYes fe (wipeR ρ vs) (enc y) K)
    (h : P (.val (.bl (l.any b)))) : wLc vs fi g wYes fe ρ (fun r => anyW [r.toD] P) E := by
  refine lc_encm enc l (fun y => .bl (b y)) hi hx ?_
  have e : (l.map fun x => D.bl (b x)) = (l.map b).map .bl := by simp
  show anyW [.lst _] _
  rw [e]
  refine v_any ?_
  have e2 : (l.map b).any id = l.any b := by simp [List.any_map]
  rw [e2]; exact h
theorem for_enc {u : WS} {k : WEnds} (enc : α → D) (l : List α) (I : List α → Rho → Prop) (hi : ∀ Q, Q (l.map enc) → fi ρ Q E) (h0 : I l ρ)
    (hs : ∀ y pre rest ρ, l = pre ++ y :: rest → I (y :: rest) ρ → ∀ N : Rho → Prop, (∀ ρ', I rest ρ' → N ρ') → g (enc y) ρ (fun ρ2 => u { k with nx := N, ct := N, bk := k.nx } E ρ2)) (he : ∀ ρ, I [] ρ → k.nx ρ) : wFor fi g u k E ρ := by
  refine hi _ ?_
  have key : ∀ (rest pre : List α) (ρ : Rho), l = pre ++ rest → I rest ρ → wForGo g u k E (rest.map enc) ρ := by
    intro rest
    induction rest with
    | nil => intro pre ρ _ h; exact he ρ h
    | cons d rest ih =>
      intro pre ρ e h
      exact hs d pre rest ρ e h _ fun ρ' h' => ih (pre ++ [d]) ρ' (by rw [e, List.append_assoc]; rfl) h'
  exact key l [] ρ rfl h0
end
end PL
namespace PL.C
open PySem PySem.Spec L2 PL
open PyProof.Rows hiding St
variable {P : R → Prop} {E : XP}
def dStep (s : List Int × List Int) : D := .tup [dLot s.1, dLot s.2]
/-- the faces above -/
def aboveL (L : List (List Int)) (q : List Int) : List (List Int) := L.filter fun x => decide (x ≠ q) && decide (∀ p ∈ q, p ∈ x)
def stepAt (L : List (List Int)) (q : List Int) : Option (List Int × List Int) := if q = [] then none else match aboveL L q with
  | [h] => if h.length = q.length + 1 then some (q, h) else none
  | _ => none
def stepsL (L : List (List Int)) : List (List Int × List Int) := L.filterMap (stepAt L)
/-- a list or a tuple of lots -/
def LotsOf (L : List (List Int)) (F : D) : Prop := F = .lst (L.map dLot) ∨ F = dLots L
theorem seqLots {L : List (List Int)} {F : D} (hF : LotsOf L F) {i : Nat} {ρ : Rho} (h : ρ[i]? = some (some (.val F))) (Q : List D → Prop) (hq : Q (L.map dLot)) : wSeq (wVar i) ρ Q E := by
  rcases hF with rfl | rfl
  · simp [h]; exact hq
  · simp [h, dLots]; exact hq
theorem sp_above (L : List (List Int)) (F : D) (hF : LotsOf L F) (q : List Int) (h : P (.own ((aboveL L q).map dLot))) : m_above_of [F, dLot q] P E := by
  unfold m_above_of b_above_of
  simp [-Bool.exists_bool, rho0]
  refine lc_enc dLot L (fun x => decide (x ≠ q) && decide (∀ p ∈ q, p ∈ x)) dLot (seqLots hF rfl) (fun x hx K hk => ?_) h
  unfold item
  simp [-Bool.exists_bool, wipeR]
  refine v_neLot ?_
  generalize hb : decide (∀ p ∈ q, p ∈ x) = b at hk
  by_cases e : x = q
  · subst e; simp at hk ⊢; exact hk
  · simp [e, -Bool.exists_bool]
    refine sp_is_inside q x ?_
    rw [hb]
    cases b <;> (simp [e] at hk ⊢; exact hk)
theorem aboveL_le (L : List (List Int)) (q : List Int) : (aboveL L q).length ≤ L.length := List.length_filter_le _ _
theorem ixD0 {xs : List D} {d : D} {P : R → Prop} (h : P (.val d)) : ixW (.lst (d :: xs)) (.int 0) P := ⟨d, by simp [atI, ixN], h⟩
theorem lenLot (q : List Int) {P : R → Prop} : lenW [dLot q] P = P (.val (.int q.length)) := by
  show P (.val (.int ((q.map D.int).length))) = _
  rw [List.length_map]
theorem sp_steps_of (L : List (List Int)) (hz : L.length ≤ 1000) (F : D) (hF : LotsOf L F) (h : P (.own ((stepsL L).map dStep))) : m_steps_of [F] P E := by
  unfold m_steps_of b_steps_of
  simp [-Bool.exists_bool, rho0]
  refine for_enc dLot L (fun rest ρ => ∃ pre x y, L = pre ++ rest ∧ ρ = [some (.val F), some (.own ((pre.filterMap (stepAt L)).map dStep)), x, y]) (seqLots hF rfl) ⟨[], none, none, rfl, rfl⟩ (fun q pre0 rest ρ eL ⟨pre, x, y, ep, eρ⟩ N hN => ?_) (fun ρ ⟨pre, x, y, ep, eρ⟩ => ?_)
  · subst eρ
    have hlen : (pre.filterMap (stepAt L)).length < sizeLine := by
      have h1 := List.length_filterMap_le (stepAt L) pre
      have h2 : pre.length ≤ L.length := by rw [ep]; simp
      rw [sizeLine_eq]; omega
    have fin : ∀ z, N [some (.val F), some (.own (((pre ++ [q]).filterMap (stepAt L)).map dStep)), some (.val (dLot q)), z] := fun z => hN _ ⟨pre ++ [q], _, z, by rw [ep]; simp, rfl⟩
    simp [-Bool.exists_bool, lenLot]
    by_cases e : q = []
    · subst e
      simp [-Bool.exists_bool]
      refine v_eqInt ?_
      have := fin (some (.val (.lst [])))
      simp [stepAt] at this
      simp; exact this
    · have e0 : 0 < q.length := List.length_pos_iff.mpr e
      simp [-Bool.exists_bool, e0]
      refine sp_above L F hF q ?_
      simp [-Bool.exists_bool]
      refine v_eqInt ?_
      have f0 := fin (some (.val (.lst ((aboveL L q).map dLot))))
      rcases ea : aboveL L q with _ | ⟨h', _ | ⟨h'', r⟩⟩
      · simp [ea, stepAt, e] at f0 ⊢; exact f0
      · simp [ea, -Bool.exists_bool]
        refine ixD0 ?_
        simp [-Bool.exists_bool, lenLot]
        refine v_eqInt ?_
        by_cases el : h'.length = q.length + 1
        · have el' : (h'.length : Int) = (q.length : Int) + 1 := by omega
          simp [el', -Bool.exists_bool]
          refine ixD0 ?_
          simp [ea, stepAt, e, el, dStep] at f0
          simp [hlen]
          exact f0
        · have el' : ¬ (h'.length : Int) = (q.length : Int) + 1 := by omega
          simp [ea, stepAt, e, el] at f0
          simp [el']; exact f0
      · simp [ea, stepAt, e] at f0
        have : ¬ ((r.length : Int) + 1 + 1 = 1) := by omega
        simp [ea, this]; exact f0
  · subst eρ
    have : pre = L := by rw [ep]; simp
    subst this
    simp; exact h
end PL.C
end
section
set_option Elab.async false
set_option linter.all false
set_option maxRecDepth 100000
namespace PL.C
open PySem PySem.Spec L2 PL
open PyProof.Rows hiding St
variable {P : R → Prop} {E : XP}
/-! ### steps compared, sorted -/
theorem toP_step (s : List Int × List Int) : toP (dStep s) = .tuple [toP (dLot s.1), toP (dLot s.2)] := by unfold dStep; rw [toP]; rfl
theorem pl_step (s : List Int × List Int) : pl (dStep s) = true := by
  have h1 := pl_lot s.1
  have h2 := pl_lot s.2
  unfold pl at h1 h2 ⊢
  rw [toP_step]; simp [PyData.plain, PyData.plainAll, h1, h2]
theorem dp_step (s : List Int × List Int) : dp (dStep s) = 2 := by
  have h1 := dp_lot s.1
  have h2 := dp_lot s.2
  unfold dp at h1 h2 ⊢
  rw [toP_step]; simp [PyData.depth, PyData.depthAll, h1, h2]
theorem eqv_step (s t : List Int × List Int) : PyData.eqv (toP (dStep s)) (toP (dStep t)) = decide (s = t) := by
  rw [toP_step, toP_step, PyData.eqv, PyData.eqvAll, PyData.eqvAll, PyData.eqvAll, eqv_lot, eqv_lot]
  obtain ⟨a, b⟩ := s
  obtain ⟨c, d⟩ := t
  by_cases h : a = c <;> by_cases h2 : b = d <;> simp [h, h2]
theorem alike_step (s t : List Int × List Int) : PySem.W.alike (toP (dStep s)) (toP (dStep t)) = true := by
  rw [toP_step, toP_step]
  simp [PySem.W.alike, PySem.W.alikeAll, alike_lot]
theorem v_sortSteps {S : List (List Int × List Int)} (h : ∀ M : List (List Int × List Int), M.Perm S → P (.own (M.map dStep))) : sortW [.lst (S.map dStep)] P := by
  refine ⟨S.map dStep, .inl rfl, all_pl pl_step S, ?_, .inl fun d hd => ?_, fun d hd => ?_, ?_⟩
  · intro x hx y hy
    rw [List.map_map] at hx hy
    obtain ⟨a, _, rfl⟩ := List.mem_map.mp hx
    obtain ⟨b, _, rfl⟩ := List.mem_map.mp hy
    exact alike_step a b
  · obtain ⟨q, _, rfl⟩ := List.mem_map.mp hd
    exact ⟨_, rfl⟩
  · obtain ⟨q, _, rfl⟩ := List.mem_map.mp hd
    rw [dp_step]; decide
  · have e : (S.map dStep).mergeSort (PySem.W.dataLe false toP) = (S.mergeSort fun s t => PySem.W.dataLe false toP (dStep s) (dStep t)).map dStep := by
      rw [List.map_mergeSort]; intro a _ b _; rfl
    rw [e]
    exact h _ (List.mergeSort_perm _ _)
theorem v_inSteps {s : List Int × List Int} {S : List (List Int × List Int)} (h : P (.val (.bl (decide (s ∈ S))))) : wInB false (dStep s) (.lst (S.map dStep)) P :=
  .inl ⟨pl_step s, all_pl pl_step S, by rw [dp_step]; decide, by rw [any_eqv eqv_step]; simp only [Bool.false_xor]; exact h⟩
/-! ### what is left behind a step -/
def behindL (L : List (List Int)) (s : List Int × List Int) : List (List Int) := L.filter fun x => decide (x ∉ [s.1, s.2])
theorem sp_behind (L : List (List Int)) (F : D) (hF : LotsOf L F) (s : List Int × List Int) (h : P (.val (dLots (behindL L s)))) : m_behind [F, dStep s] P E := by
  unfold m_behind b_behind
  simp [-Bool.exists_bool, rho0]
  refine lc_enc dLot L (fun x => decide (x ∉ [s.1, s.2])) dLot (seqLots hF rfl) (fun x hx K hk => ?_) ?_
  · unfold item
    simp [-Bool.exists_bool, wipeR]
    refine v_notInLotsT (L := [s.1, s.2]) ?_
    generalize hb : decide (x ∉ [s.1, s.2]) = b at hk ⊢
    cases b <;> (simp at hk ⊢; exact hk)
  · exact h
def tupLenB (a b : Int) : D → Bool
  | .tup xs => decide (a ≤ xs.length) && decide ((xs.length : Int) ≤ b)
  | _ => false
theorem sp_is_tuple (d : D) (nd : noObj d = true) (a b : Int) (h : P (.val (.bl (tupLenB a b d)))) : m_is_tuple [d, .int a, .int b] P E := by
  unfold m_is_tuple b_is_tuple
  simp [-Bool.exists_bool, rho0, isTup_eq nd]
  cases d with
  | tup xs => simp [-Bool.exists_bool, D.isTup, ite_and]; exact h
  | _ => simp [D.isTup]; exact h
/-- a step of these faces -/
noncomputable def isStep (L : List (List Int)) (d : D) : Bool := @decide (∃ s ∈ stepsL L, d = dStep s) (Classical.propDecidable _)
theorem isStep_iff {L : List (List Int)} {d : D} : isStep L d = true ↔ ∃ s ∈ stepsL L, d = dStep s := by unfold isStep; exact @decide_eq_true_iff _ (Classical.propDecidable _)
theorem stepsL_mem {L : List (List Int)} {s : List Int × List Int} (h : s ∈ stepsL L) : s.1 ∈ L ∧ s.2 ∈ L ∧ s.1 ≠ [] ∧ aboveL L s.1 = [s.2] ∧ s.2.length = s.1.length + 1 := by
  unfold stepsL at h
  obtain ⟨q, hq, e⟩ := List.mem_filterMap.mp h
  unfold stepAt at e
  by_cases h0 : q = []
  · rw [if_pos h0] at e; cases e
  · rw [if_neg h0] at e
    split at e
    · rename_i hh ea
      split at e
      · cases e
        have : hh ∈ aboveL L q := by rw [ea]; exact List.mem_cons_self ..
        exact ⟨hq, (List.mem_filter.mp this).1, h0, ea, by assumption⟩
      · cases e
    · cases e
theorem mem_stepsL {L : List (List Int)} {q h : List Int} (hq : q ∈ L) (h0 : q ≠ []) (ea : aboveL L q = [h]) (hl : h.length = q.length + 1) : (q, h) ∈ stepsL L := by
  refine List.mem_filterMap.mpr ⟨q, hq, ?_⟩
  unfold stepAt
  rw [if_neg h0, ea]
  simp [hl]
theorem dLot_inj {a b : List Int} (h : dLot a = dLot b) : a = b := by
  unfold dLot at h
  injection h with h
  have : ∀ a b : List Int, a.map D.int = b.map D.int → a = b := by
    intro a
    induction a with
    | nil => intro b h; cases b with
      | nil => rfl
      | cons => cases h
    | cons x a ih => intro b h; cases b with
      | nil => cases h
      | cons y b => rw [List.map_cons, List.map_cons] at h; injection h with h1 h2; injection h1 with h1; rw [h1, ih b h2]
  exact this a b h
theorem sp_is_step_in (n : Int) (L : List (List Int)) (hz : L.length ≤ 1000) (hL : ∀ q ∈ L, LOk n q) (F : D) (hF : LotsOf L F) (d : D) (nd : noObj d = true) (h : P (.val (.bl (isStep L d)))) : m_is_step_in [.int n, F, d] P E := by
  unfold m_is_step_in b_is_step_in
  simp [-Bool.exists_bool, rho0]
  refine sp_is_tuple d nd 2 2 ?_
  have no : isStep L d = false → ∀ b, isStep L d = b → b = false := fun h b e => by rw [← e, h]
  by_cases ht : ∃ x y, d = .tup [x, y]
  · obtain ⟨x, y, rfl⟩ := ht
    have e3 : tupLenB 2 2 (.tup [x, y]) = true := rfl
    simp [-Bool.exists_bool, e3]
    have nx : noObjs [x, y] = true := by unfold noObj at nd; exact nd
    refine all_enc id [x, y] (fun z => isLotB n z) (fun Q hq => by simpa using hq) (fun z hz' K hk => ?_) ?_
    · unfold item
      simp [-Bool.exists_bool, wipeR]
      exact sp_is_lot_of z (noObjs_mem nx hz') n hk
    · simp [-Bool.exists_bool]
      by_cases hx : isLotB n x = true ∧ isLotB n y = true
      · obtain ⟨a, rfl, ha⟩ := isLotB_of hx.1
        obtain ⟨b, rfl, hb⟩ := isLotB_of hx.2
        rw [if_pos hx]
        refine sp_steps_of L hz F hF ?_
        try simp [-Bool.exists_bool]
        refine Or.imp id id (v_inSteps (s := (a, b)) ?_)
        have e : isStep L (.tup [dLot a, dLot b]) = decide ((a, b) ∈ stepsL L) := by
          rw [Bool.eq_iff_iff, isStep_iff, decide_eq_true_iff]
          constructor
          · rintro ⟨s, hs, es⟩
            unfold dStep at es
            injection es with es
            injection es with e1 e2
            injection e2 with e2 _
            have : s = (a, b) := by rw [← dLot_inj e1.symm, ← dLot_inj e2.symm]
            rw [← this]; exact hs
          · intro hs; exact ⟨(a, b), hs, rfl⟩
        rw [← e]; exact h
      · rw [if_neg hx]
        have e : isStep L (.tup [x, y]) = false := by
          rw [← Bool.not_eq_true, isStep_iff]
          rintro ⟨s, hs, es⟩
          unfold dStep at es
          injection es with es
          injection es with e1 e2
          injection e2 with e2 _
          obtain ⟨m1, m2, _⟩ := stepsL_mem hs
          exact hx ⟨by rw [e1]; exact (isLotB_iff n _).mpr (hL _ m1), by rw [e2]; exact (isLotB_iff n _).mpr (hL _ m2)⟩
        rw [e] at h; exact h
  · have e : isStep L d = false := by
      rw [← Bool.not_eq_true, isStep_iff]
      rintro ⟨s, hs, es⟩
      exact ht ⟨_, _, es⟩
    rw [e] at h
    have e2 : tupLenB 2 2 d = false := by
      cases d with
      | tup xs =>
        match xs, ht with
        | [], _ => rfl
        | [x], _ => rfl
        | [x, y], ht => exact absurd ⟨x, y, rfl⟩ ht
        | x :: y :: z :: r, _ =>
          unfold tupLenB
          simp; omega
      | _ => rfl
    rw [e2]
    simp; exact h
def lastB (L : List (List Int)) : Bool := match L with
  | [_, q] => decide (q.length = 1)
  | _ => false
theorem sp_is_last (L : List (List Int)) (F : D) (hF : LotsOf L F) (h : P (.val (.bl (lastB L)))) : m_is_last [F] P E := by
  unfold m_is_last b_is_last
  have el : ∀ Q : R → Prop, lenW [F] Q = Q (.val (.int L.length)) := fun Q => by rcases hF with rfl | rfl <;> simp [dLots]
  have ei : ∀ (q r : List Int) (Q : R → Prop), L = [q, r] → Q (.val (dLot r)) → ixW F (.int 1) Q := fun q r Q e hQ => by
    subst e
    rcases hF with rfl | rfl
    · exact ⟨dLot r, rfl, hQ⟩
    · exact ⟨dLot r, rfl, hQ⟩
  simp [-Bool.exists_bool, rho0, el]
  refine v_eqInt ?_
  match L, h, ei with
  | [], h, _ => simp; exact h
  | [q], h, _ => simp; exact h
  | [q, r], h, ei =>
    simp [-Bool.exists_bool]
    refine ei q r _ rfl ?_
    simp [-Bool.exists_bool, lenLot]
    refine v_eqInt ?_
    have : decide ((r.length : Int) = 1) = decide (r.length = 1) := by rw [decide_eq_decide]; omega
    rw [this]; exact h
  | q :: r :: t :: l, h, _ =>
    have : ¬ ((l.length : Int) + 1 + 1 + 1 = 2) := by omega
    simp [this]; exact h
end PL.C
end
section
set_option Elab.async false
set_option linter.all false
set_option maxRecDepth 100000
namespace PL.C
open PySem PySem.Spec L2 PL
open PyProof.Rows hiding St
variable {P : R → Prop} {E : XP}
/-! ### all lots -/
def lotsU : Nat → List (List Int)
  | 0 => [[]]
  | k + 1 => lotsU k ++ (lotsU k).map (· ++ [(k : Int)])
theorem lotsU_len : ∀ n, (lotsU n).length = 2 ^ n
  | 0 => rfl
  | k + 1 => by rw [lotsU, List.length_append, List.length_map, lotsU_len k, Nat.pow_succ]; omega
theorem mem_lotsU : ∀ (n : Nat) (q : List Int), q ∈ lotsU n ↔ LOk n q
  | 0, q => by
    unfold lotsU LOk
    cases q with
    | nil => simp
    | cons x q => simp; intro h; omega
  | k + 1, q => by
    have ih := mem_lotsU k
    rw [lotsU, List.mem_append, List.mem_map]
    constructor
    · rintro (h | ⟨p, hp, rfl⟩)
      · obtain ⟨h1, h2⟩ := (ih q).mp h
        exact ⟨fun x hx => by have := h1 x hx; omega, h2⟩
      · obtain ⟨h1, h2⟩ := (ih p).mp hp
        refine ⟨fun x hx => ?_, List.pairwise_append.mpr ⟨h2, by simp, fun a ha b hb => ?_⟩⟩
        · rcases List.mem_append.mp hx with hx | hx
          · have := h1 x hx; omega
          · simp at hx; omega
        · simp at hb
          have := h1 a ha; omega
    · rintro ⟨h1, h2⟩
      by_cases hk : (k : Int) ∈ q
      · right
        obtain ⟨p, r, rfl⟩ := List.append_of_mem hk
        obtain ⟨hp, hr, hpr⟩ := List.pairwise_append.mp h2
        obtain ⟨hr1, hr2⟩ := List.pairwise_cons.mp hr
        have er : r = [] := by
          cases r with
          | nil => rfl
          | cons y r =>
            have a1 := hr1 y (List.mem_cons_self ..)
            have a2 := h1 y (List.mem_append_right _ (List.mem_cons_of_mem _ (List.mem_cons_self ..)))
            omega
        subst er
        refine ⟨p, (ih p).mpr ⟨fun x hx => ?_, hp⟩, rfl⟩
        have a1 := h1 x (List.mem_append_left _ hx)
        have a2 := hpr x hx k (List.mem_cons_self ..)
        omega
      · left
        refine (ih q).mpr ⟨fun x hx => ?_, h2⟩
        have a1 := h1 x hx
        have : x ≠ (k : Int) := by rintro rfl; exact hk hx
        omega
theorem lotsU_nodup : ∀ n, (lotsU n).Nodup
  | 0 => by simp [lotsU]
  | k + 1 => by
    rw [lotsU, List.nodup_append]
    refine ⟨lotsU_nodup k, ?_, ?_⟩
    · refine List.Pairwise.map _ ?_ (lotsU_nodup k)
      intro a b h e
      exact h (List.append_cancel_right e)
    · rintro a ha b hb rfl
      obtain ⟨p, _, e⟩ := List.mem_map.mp hb
      have := ((mem_lotsU k a).mp ha).1 k (by rw [← e]; simp)
      omega
def lotsA (n : Nat) : List (List Int) := srt (lotsU n)
theorem mem_lotsA {n : Nat} {q : List Int} : q ∈ lotsA n ↔ LOk n q := by unfold lotsA; rw [mem_srt, mem_lotsU]
theorem lotsA_asc (n : Nat) : (lotsA n).Pairwise fun a b => lexB a b = true := srt_asc (lotsU_nodup n)
theorem lotsA_len (n : Nat) : (lotsA n).length = 2 ^ n := by unfold lotsA; rw [(srt_perm _).length_eq, lotsU_len]
/-- lots of n points, each once: at most 2 ^ n -/
theorem lots_le {n : Nat} {L : List (List Int)} (hL : ∀ q ∈ L, LOk n q) (nd : L.Nodup) : L.length ≤ 2 ^ n := by
  rw [← lotsA_len n]
  exact nodup_le L (lotsA n) nd fun q hq => mem_lotsA.mpr (hL q hq)
theorem dLot_app (q : List Int) (i : Int) {P : R → Prop} (hq : q.length ≤ 1000) (h : P (.val (dLot (q ++ [i])))) : addW (dLot q) (.tup [.int i]) P := by
  refine ⟨by rw [List.length_map, sizeLine_eq]; simp; omega, ?_⟩
  have e : (q.map D.int) ++ [.int i] = (q ++ [i]).map D.int := by simp
  rw [e]; exact h
theorem lok_len {n : Nat} {q : List Int} (h : LOk n q) : q.length ≤ n := by
  have : ∀ (k : Nat) (q : List Int), LOk k q → q.length ≤ k := by
    intro k
    induction k with
    | zero => intro q h; have := (mem_lotsU 0 q).mpr h; simp [lotsU] at this; simp [this]
    | succ k ih =>
      intro q h
      have hm := (mem_lotsU (k + 1) q).mpr h
      rw [lotsU, List.mem_append, List.mem_map] at hm
      rcases hm with hm | ⟨p, hp, rfl⟩
      · have := ih q ((mem_lotsU k q).mp hm); omega
      · have := ih p ((mem_lotsU k p).mp hp); simp; omega
  exact this n q h
theorem sp_law_lots (n : Nat) (hn : n ≤ 7) (h : P (.own ((lotsA n).map dLot))) : m__law_lots [.int n] P E := by
  unfold m__law_lots b__law_lots
  simp [-Bool.exists_bool, rho0]
  refine for_enc (fun k : Nat => D.int (0 + (k : Int))) (List.range n) (fun rest ρ => ∃ k x, k + rest.length = n ∧ rest = (List.range n).drop k ∧ ρ = [some (.val (.int n)), some (.val (.lst ((lotsU k).map dLot))), x, none, none]) (fun Q hQ => ?_) ⟨0, none, by simp, by simp, rfl⟩ (fun y pre rest ρ el ⟨k, x, hk, er, eρ⟩ N hN => ?_) (fun ρ ⟨k, x, hk, _, eρ⟩ => ?_)
  · have h1 : (-16777216 : Int) ≤ n := by omega
    have h2 : (n : Int) ≤ 16777216 := by omega
    simp [h1, h2]
    exact hQ
  · subst eρ
    have hkn : k < n := by rw [List.length_cons] at hk; omega
    have ey : y = k := by
      rw [List.drop_eq_getElem_cons (by simpa using hkn)] at er
      injection er with e1 _
      rw [e1]; simp
    subst ey
    simp [-Bool.exists_bool]
    refine lc_encm dLot (lotsU y) (fun q => dLot (q ++ [(y : Int)])) (fun Q hQ => by simpa [wipeR] using hQ) (fun q hq K hK => ?_) ?_
    · unfold item
      simp [-Bool.exists_bool, wipeR]
      have := lok_len ((mem_lotsU y q).mp hq)
      exact dLot_app q y (by omega) (by simpa using hK)
    · simp
      have hp : 2 ^ y ≤ 2 ^ 7 := Nat.pow_le_pow_right (by omega) (by omega)
      refine ⟨by rw [lotsU_len, sizeLine_eq]; omega, ?_⟩
      have z : ∀ w, N [some (.val (.int n)), some (.val (.lst ((lotsU (y + 1)).map dLot))), w, none, none] := fun w => hN _ ⟨y + 1, w, by rw [List.length_cons] at hk; omega, by
        rw [List.drop_eq_getElem_cons (by simpa using hkn)] at er
        injection er, rfl⟩
      simpa [lotsU, Function.comp_def] using z _
  · subst eρ
    have : k = n := by simpa using hk
    subst this
    simp
    exact v_sortLots h
end PL.C
end
section
set_option Elab.async false
set_option linter.all false
set_option maxRecDepth 100000
namespace PL.C
open PySem PySem.Spec L2 PL
open PyProof.Rows hiding St
variable {P : R → Prop} {E : XP}
/-! ### the lots within a lot -/
def addPt (ps : List (List Int)) (i : Int) : List (List Int) := ps ++ ps.map (· ++ [i])
def partsOf (l : List Int) : List (List Int) := l.foldl addPt [[]]
theorem mem_fold : ∀ (l : List Int) (ps : List (List Int)) (q : List Int), q ∈ l.foldl addPt ps ↔ ∃ p ∈ ps, ∃ r, r.Sublist l ∧ q = p ++ r
  | [], ps, q => by
    simp only [List.foldl_nil, List.sublist_nil]
    constructor
    · intro h; exact ⟨q, h, [], rfl, by simp⟩
    · rintro ⟨p, hp, r, rfl, rfl⟩; simpa using hp
  | i :: l, ps, q => by
    rw [List.foldl_cons, mem_fold l]
    constructor
    · rintro ⟨p, hp, r, hr, rfl⟩
      unfold addPt at hp
      rcases List.mem_append.mp hp with hp | hp
      · exact ⟨p, hp, r, hr.cons _, rfl⟩
      · obtain ⟨p', hp', rfl⟩ := List.mem_map.mp hp
        exact ⟨p', hp', i :: r, hr.cons_cons _, by simp⟩
    · rintro ⟨p, hp, r, hr, rfl⟩
      rcases List.sublist_cons_iff.mp hr with h | ⟨r', rfl, h⟩
      · exact ⟨p, List.mem_append_left _ hp, r, h, rfl⟩
      · exact ⟨p ++ [i], List.mem_append_right _ (List.mem_map.mpr ⟨p, hp, rfl⟩), r', h, by simp⟩
theorem mem_parts {l q : List Int} : q ∈ partsOf l ↔ q.Sublist l := by
  unfold partsOf
  rw [mem_fold]
  constructor
  · rintro ⟨p, hp, r, hr, rfl⟩
    simp at hp; subst hp; simpa using hr
  · intro h; exact ⟨[], by simp, q, h, by simp⟩
theorem fold_len : ∀ (l : List Int) (ps : List (List Int)), (l.foldl addPt ps).length = ps.length * 2 ^ l.length
  | [], ps => by simp
  | i :: l, ps => by
    rw [List.foldl_cons, fold_len l]
    unfold addPt
    rw [List.length_append, List.length_map, List.length_cons, Nat.pow_succ]
    rw [← Nat.two_mul, Nat.mul_comm 2, Nat.mul_assoc, Nat.mul_comm 2]
theorem parts_len (l : List Int) : (partsOf l).length = 2 ^ l.length := by unfold partsOf; rw [fold_len]; simp
theorem parts_snoc (l : List Int) (i : Int) : partsOf (l ++ [i]) = addPt (partsOf l) i := by unfold partsOf; rw [List.foldl_append]; rfl
theorem lok_sub {n : Int} {q l : List Int} (h : LOk n l) (s : q.Sublist l) : LOk n q := ⟨fun x hx => h.1 x (s.subset hx), h.2.sublist s⟩
/-! ### dicts of lots -/
def kvT (q : List Int) : D × D := (dLot q, .bl true)
theorem keysL_ints : ∀ q : List Int, D.keysL (q.map D.int) = some (q.map Sum.inl)
  | [] => rfl
  | x :: q => by rw [List.map_cons, D.keysL, keysL_ints q]; rfl
theorem keys_lot (q : List Int) : D.keys? (dLot q) = some (q.map Sum.inl) := keysL_ints q
theorem putT (M : List (List Int)) (q : List Int) : putD (M.map kvT) (dLot q) (.bl true) = (if q ∈ M then M else M ++ [q]).map kvT := by
  unfold putD
  have e : ((M.map kvT).any fun p => PyData.eqv (toP p.1) (toP (dLot q))) = decide (q ∈ M) := by
    rw [List.any_map]
    have := any_eqv eqv_lot q M
    rw [List.any_map] at this
    exact this
  rw [e]
  by_cases h : q ∈ M
  · simp only [h, decide_true, if_true]
    rw [List.map_map]
    apply List.map_congr_left
    intro x _
    show (if PyData.eqv (toP (dLot x)) (toP (dLot q)) = true then (dLot x, D.bl true) else kvT x) = kvT x
    split <;> rfl
  · simp only [h, decide_false, Bool.false_eq_true, if_false, List.map_append, List.map_cons, List.map_nil]
    rfl
theorem fst_kvT (M : List (List Int)) : (M.map kvT).map (·.1) = M.map dLot := by rw [List.map_map]; rfl
theorem sp_law_lower (n : Nat) (hn : n ≤ 7) (L : List (List Int)) (hL : ∀ q ∈ L, LOk n q) (h : ∀ M : List (List Int), M.Nodup → (∀ q, q ∈ M ↔ ∃ l ∈ L, q.Sublist l) → P (.own ((srt M).map dLot))) : m__law_lower [.lst (L.map dLot)] P E := by
  unfold m__law_lower b__law_lower
  simp [-Bool.exists_bool, rho0]
  refine for_enc dLot L (fun rest ρ => ∃ pre M x2 x3 x4 x5, L = pre ++ rest ∧ M.Nodup ∧ (∀ q, q ∈ M ↔ ∃ l ∈ pre, q.Sublist l) ∧ ρ = [some (.val (.lst (L.map dLot))), some (.ownd true (M.map kvT)), x2, x3, x4, x5, none]) (fun Q hQ => by simpa using hQ) ⟨[], [], none, none, none, none, rfl, List.nodup_nil, fun q => by simp, rfl⟩
    (fun l pre0 rest ρ el ⟨pre, M, x2, x3, x4, x5, ep, nd, hM, eρ⟩ N hN => ?_) (fun ρ ⟨pre, M, x2, x3, x4, x5, ep, nd, hM, eρ⟩ => ?_)
  · subst eρ
    have hl : l ∈ L := by rw [ep]; simp
    have hlok := hL l hl
    have hll := lok_len hlok
    simp [-Bool.exists_bool]
    -- the parts
    refine for_enc D.int l (fun rest1 ρ => ∃ p1 y4 y5, l = p1 ++ rest1 ∧ ρ = [some (.val (.lst (L.map dLot))), some (.ownd true (M.map kvT)), some (.val (dLot l)), some (.val (.lst ((partsOf p1).map dLot))), y4, y5, none]) (fun Q hQ => by simpa [dLot] using hQ) ⟨[], x4, x5, rfl, rfl⟩
      (fun i p0 rest1 ρ1 e1 ⟨p1, y4, y5, ep1, eρ1⟩ N1 hN1 => ?_) (fun ρ1 ⟨p1, y4, y5, ep1, eρ1⟩ => ?_)
    · subst eρ1
      have hsub : p1.Sublist l := by rw [ep1]; exact List.sublist_append_left _ _
      have hp1 := lok_len (lok_sub hlok hsub)
      simp [-Bool.exists_bool]
      refine lc_encm dLot (partsOf p1) (fun q => dLot (q ++ [i])) (fun Q hQ => by simpa [wipeR] using hQ) (fun q hq K hK => ?_) ?_
      · unfold item
        simp [-Bool.exists_bool, wipeR]
        have := lok_len (lok_sub hlok ((mem_parts.mp hq).trans hsub))
        exact dLot_app q i (by omega) (by simpa using hK)
      · simp
        have hp : 2 ^ p1.length ≤ 2 ^ 7 := Nat.pow_le_pow_right (by omega) (by omega)
        refine ⟨by rw [parts_len, sizeLine_eq]; omega, ?_⟩
        have z := fun w => hN1 [some (.val (.lst (L.map dLot))), some (.ownd true (M.map kvT)), some (.val (dLot l)), some (.val (.lst ((partsOf (p1 ++ [i])).map dLot))), w, y5, none] ⟨p1 ++ [i], w, y5, by rw [ep1]; simp, rfl⟩
        simpa [parts_snoc, addPt, Function.comp_def] using z _
    · subst eρ1
      have : p1 = l := by rw [ep1]; simp
      subst this
      dsimp only
      refine for_enc dLot (partsOf p1) (fun rest2 ρ => ∃ p2 M2 z5, partsOf p1 = p2 ++ rest2 ∧ M2.Nodup ∧ (∀ q, q ∈ M2 ↔ q ∈ M ∨ q ∈ p2) ∧ ρ = [some (.val (.lst (L.map dLot))), some (.ownd true (M2.map kvT)), some (.val (dLot p1)), some (.val (.lst ((partsOf p1).map dLot))), y4, z5, none]) (fun Q hQ => by simpa using hQ) ⟨[], M, y5, rfl, nd, fun q => by simp, rfl⟩
        (fun q p0 rest2 ρ2 e2 ⟨p2, M2, z5, ep2, nd2, hM2, eρ2⟩ N2 hN2 => ?_) (fun ρ2 ⟨p2, M2, z5, ep2, nd2, hM2, eρ2⟩ => ?_)
      · subst eρ2
        have hlen : M2.length ≤ 2 ^ n := lots_le (fun q hq => by
          rcases (hM2 q).mp hq with h | h
          · obtain ⟨l', hl', s⟩ := (hM q).mp h
            exact lok_sub (hL l' (by rw [ep]; exact List.mem_append_left _ hl')) s
          · have : q ∈ partsOf p1 := by rw [ep2]; exact List.mem_append_left _ h
            exact lok_sub hlok (mem_parts.mp this)) nd2
        have hp : 2 ^ n ≤ 2 ^ 7 := Nat.pow_le_pow_right (by omega) hn
        simp only [u_gName, u_dput, u_c, u_var]
        refine ⟨true, M2.map kvT, rfl, dLot q, rfl, ?_, ?_, ?_⟩
        · show (D.keys? (dLot q)).isSome = true
          rw [keys_lot]; rfl
        · rw [List.length_map, sizeLine_eq]; omega
        show N2 (List.set _ 1 (some (R.ownd true (putD (M2.map kvT) (dLot q) (.bl true)))))
        rw [putT]
        refine hN2 _ ⟨p2 ++ [q], if q ∈ M2 then M2 else M2 ++ [q], _, by rw [ep2]; simp, ?_, fun x => ?_, rfl⟩
        · split
          · exact nd2
          · rename_i hq
            rw [List.nodup_append]
            refine ⟨nd2, by simp, fun a ha b hb => ?_⟩
            simp at hb; subst hb; rintro rfl; exact hq ha
        · split
          · rename_i hq
            rw [hM2 x, List.mem_append, List.mem_singleton]
            constructor
            · rintro (h | h)
              · exact .inl h
              · exact .inr (.inl h)
            · rintro (h | h | rfl)
              · exact .inl h
              · exact .inr h
              · exact (hM2 x).mp hq
          · rw [List.mem_append, hM2 x, List.mem_append, List.mem_singleton, or_assoc]
      · subst eρ2
        have : p2 = partsOf p1 := by rw [ep2]; simp
        subst this
        refine hN _ ⟨pre ++ [p1], M2, _, _, _, _, by rw [ep]; simp, nd2, fun q => ?_, rfl⟩
        rw [hM2 q, hM q, mem_parts]
        constructor
        · rintro (⟨l', hl', s⟩ | s)
          · exact ⟨l', List.mem_append_left _ hl', s⟩
          · exact ⟨p1, by simp, s⟩
        · rintro ⟨l', hl', s⟩
          rcases List.mem_append.mp hl' with hl' | hl'
          · exact .inl ⟨l', hl', s⟩
          · simp at hl'; subst hl'; exact .inr s
  · subst eρ
    have : pre = L := by rw [ep]; simp
    subst this
    simp [-Bool.exists_bool]
    refine .inr ⟨true, _, rfl, ?_⟩
    rw [fst_kvT]
    exact v_sortLots (h M nd hM)
end PL.C
end
section
set_option Elab.async false
set_option linter.all false
set_option maxRecDepth 100000
namespace PL.C
open PySem PySem.Spec L2 PL
open PyProof.Rows hiding St
variable {P : R → Prop} {E : XP}
/-! ### arithmetic -/
theorem v_mod {i j : Int} (hj : 0 < j) (h : P (.val (.int (i % j)))) : modW (.int i) (.int j) P := .inl ⟨i, j, rfl, rfl, hj, h⟩
theorem v_fdiv {i j : Int} (hj : 0 < j) (hb : j < 2 ^ 64) (h : P (.val (.int (i / j)))) : fdivW (.int i) (.int j) P := by
  refine .inl ⟨i, j, rfl, rfl, ⟨hj, ?_⟩, h⟩
  have h1 : j.natAbs < 2 ^ 64 := by omega
  have h2 : j.natAbs ≠ 0 := by omega
  have := (Nat.log2_lt h2).mpr h1
  omega
theorem v_mulR {i j : Int} (h1 : -(2 ^ 64) < j) (h2 : j < 2 ^ 64) (h : P (.val (.int (i * j)))) : mulW (.int i) (.int j) P := ⟨.inl (.inr ⟨h1, h2⟩), h⟩
theorem v_mulL {i j : Int} (h1 : -(2 ^ 64) < i) (h2 : i < 2 ^ 64) (h : P (.val (.int (i * j)))) : mulW (.int i) (.int j) P := ⟨.inl (.inl ⟨h1, h2⟩), h⟩
theorem v_pow {i j : Int} (h0 : 0 ≤ j) (h1 : j ≤ 1000000) (h2 : i.natAbs < 2 ^ 64) (h : P (.val (.int (i ^ j.toNat)))) : powW (.int i) (.int j) P := ⟨i, j, rfl, rfl, ⟨h0, h1, h2⟩, h⟩
theorem v_hand12 {j : Int} (hj : j = 1 ∨ j = 2) (h : ∀ n : Int, 0 ≤ n → P (.val (.int n))) : handIxW dHand (.int j) P := ⟨rfl, .inl ⟨by rcases hj with rfl | rfl; exact .inl rfl; exact .inr rfl, h⟩⟩
theorem v_hand34 {j : Int} (hj : j = 3 ∨ j = 4) (h : ∀ n : Int, P (.val (.int n))) : handIxW dHand (.int j) P := ⟨rfl, .inr ⟨by rcases hj with rfl | rfl; exact .inl rfl; exact .inr rfl, h⟩⟩
theorem u_handIf {i j : Nat} {u : WS} {k : WEnds} {ρ : Rho} : wHandIf i j u k E ρ = (ρ[i]? = some (some (.val dHand)) ∧ (∀ n : Int, 0 ≤ n → u k E (ρ.set j (some (.val (.int n))))) ∧ k.nx ρ) := rfl
theorem u_hput {i : Nat} {j : Int} {f : WE} {k : WEnds} {ρ : Rho} : wHPut i j f k E ρ = f ρ (fun r => ρ[i]? = some (some (.val dHand)) ∧ ∃ n : Int, r.toD = .int n ∧ (((j = 1 ∨ j = 2) ∧ 0 ≤ n) ∨ j = 3 ∨ j = 4) ∧ k.nx ρ) E := rfl
/-! ### slices -/
theorem cutTo {α : Type} (xs : List α) (i : Nat) : PL.cutD xs none (some (i : Int)) = xs.take i := by
  unfold PL.cutD
  have h1 : HT.sIx xs.length 0 none = 0 := rfl
  have h2 : HT.sIx xs.length xs.length (some (i : Int)) = min i xs.length := by
    show (if (i : Int) < 0 then ((i : Int) + (xs.length : Int)).toNat else min (i : Int).toNat xs.length) = _
    rw [if_neg (by omega)]; simp
  rw [h1, h2, List.drop_zero, Nat.sub_zero]
  rw [List.take_eq_take_iff]; omega
theorem cutFrom {α : Type} (xs : List α) (i : Nat) : PL.cutD xs (some (i : Int)) none = xs.drop i := by
  unfold PL.cutD
  have h1 : HT.sIx xs.length 0 (some (i : Int)) = min i xs.length := by
    show (if (i : Int) < 0 then ((i : Int) + (xs.length : Int)).toNat else min (i : Int).toNat xs.length) = _
    rw [if_neg (by omega)]; simp
  have h2 : HT.sIx xs.length xs.length none = xs.length := rfl
  rw [h1, h2]
  by_cases h : i ≤ xs.length
  · rw [Nat.min_eq_left h, List.take_of_length_le (by rw [List.length_drop]; omega)]
  · rw [Nat.min_eq_right (by omega), List.drop_length, List.drop_of_length_le (by omega)]; simp
theorem cutMid {α : Type} (xs : List α) (i j : Nat) (hi : i ≤ xs.length) (hj : j ≤ xs.length) : PL.cutD xs (some (i : Int)) (some (j : Int)) = (xs.drop i).take (j - i) := by
  unfold PL.cutD
  have h1 : HT.sIx xs.length 0 (some (i : Int)) = min i xs.length := by
    show (if (i : Int) < 0 then ((i : Int) + (xs.length : Int)).toNat else min (i : Int).toNat xs.length) = _
    rw [if_neg (by omega)]; simp
  have h2 : HT.sIx xs.length xs.length (some (j : Int)) = min j xs.length := by
    show (if (j : Int) < 0 then ((j : Int) + (xs.length : Int)).toNat else min (j : Int).toNat xs.length) = _
    rw [if_neg (by omega)]; simp
  rw [h1, h2, Nat.min_eq_left hi, Nat.min_eq_left hj]
theorem cutLast {α : Type} (xs : List α) : PL.cutD xs none (some (-1)) = xs.take (xs.length - 1) := by
  unfold PL.cutD
  have h1 : HT.sIx xs.length 0 none = 0 := rfl
  have h2 : HT.sIx xs.length xs.length (some (-1)) = xs.length - 1 := by
    show (if (-1 : Int) < 0 then ((-1 : Int) + (xs.length : Int)).toNat else min (-1 : Int).toNat xs.length) = _
    rw [if_pos (by decide)]; omega
  rw [h1, h2]; simp
theorem cutEnd {α : Type} (xs : List α) : PL.cutD xs (some (-1)) none = xs.drop (xs.length - 1) := by
  unfold PL.cutD
  have h1 : HT.sIx xs.length 0 (some (-1)) = xs.length - 1 := by
    show (if (-1 : Int) < 0 then ((-1 : Int) + (xs.length : Int)).toNat else min (-1 : Int).toNat xs.length) = _
    rw [if_pos (by decide)]; omega
  have h2 : HT.sIx xs.length xs.length none = xs.length := rfl
  rw [h1, h2, List.take_of_length_le (by rw [List.length_drop]; omega)]
theorem cutTo' (xs : List Int) (i : Nat) : PL.cutD (xs.map D.int) none (some (i : Int)) = (xs.take i).map D.int := by rw [cutTo, List.map_take]
/-- one of a list -/
theorem v_ix {xs : List D} {i : Nat} {d : D} (hd : xs[i]? = some d) (h : P (.val d)) : ixW (.lst xs) (.int (i : Int)) P := by
  refine ⟨d, ?_, h⟩
  have hi := (List.getElem?_eq_some_iff.mp hd).1
  unfold L2.atI
  have : ixN xs.length (i : Int) = some i := by
    unfold ixN
    rw [if_pos (by omega), if_pos (by omega)]
    simp
  rw [this]; exact hd
theorem v_ixT {xs : List D} {i : Nat} {d : D} (hd : xs[i]? = some d) (h : P (.val d)) : ixW (.tup xs) (.int (i : Int)) P := by
  obtain ⟨d', h1, h2⟩ := v_ix (P := P) hd h
  exact ⟨d', h1, h2⟩
end PL.C
end
section
set_option Elab.async false
set_option linter.all false
set_option maxRecDepth 100000
namespace PL.C
open PySem PySem.Spec L2 PL
open PyProof.Rows hiding St
/-! ### texts of data, told apart -/
def sh (d : D) : List Nat := (toR d).shown.cps.toList
theorem cps_app (a b : Str) : (a ++ b).cps.toList = a.cps.toList ++ b.cps.toList := by
  show (a.cps ++ b.cps).toList = _
  simp
def tlM : List D → List Nat
  | [] => [41]
  | x :: r => 44 :: 32 :: (sh x ++ tlM r)
def body : List D → List Nat
  | [] => [41]
  | [x] => sh x ++ [44, 41]
  | x :: r => sh x ++ tlM r
theorem join_cps (x : D) : ∀ r : List D, (Str.join ", " (PyData.shownAll (toRs (x :: r)))).cps.toList ++ [41] = sh x ++ tlM r
  | [] => by
    show (toR x).shown.cps.toList ++ [41] = _
    rfl
  | y :: r => by
    have ih := join_cps y r
    have e : Str.join ", " (PyData.shownAll (toRs (x :: y :: r))) = (toR x).shown ++ ", " ++ Str.join ", " (PyData.shownAll (toRs (y :: r))) := by
      simp only [toRs, PyData.shownAll]; rfl
    rw [e, cps_app, cps_app, List.append_assoc, ih]
    have e2 : ((", " : String) : Str).cps.toList = [44, 32] := by decide
    rw [e2]
    simp [tlM, sh]
theorem sh_tup (xs : List D) : sh (.tup xs) = 40 :: body xs := by
  unfold sh
  rw [toR, PyData.shown]
  unfold tupleText
  rw [cps_app, cps_app]
  have e1 : (("(" : String) : Str).cps.toList = [40] := by decide
  rw [e1]
  match xs with
  | [] => 
    simp only [toRs, PyData.shownAll]
    decide
  | [x] =>
    simp only [toRs, PyData.shownAll]
    have e2 : ((",)" : String) : Str).cps.toList = [44, 41] := by decide
    show [40] ++ (toR x).shown.cps.toList ++ ((",)" : String) : Str).cps.toList = _
    rw [e2]; simp [body, sh]
  | x :: y :: r =>
    have e2 : ((")" : String) : Str).cps.toList = [41] := by decide
    have e3 : ((PyData.shownAll (toRs (x :: y :: r))).length == 1) = false := by simp [toRs, PyData.shownAll]
    rw [e3]
    show [40] ++ (Str.join ", " (PyData.shownAll (toRs (x :: y :: r)))).cps.toList ++ ((")" : String) : Str).cps.toList = _
    rw [e2, List.append_assoc, join_cps]
    simp [body]
mutual
/-- what is shown here: None, small numbers, one text, tuples, lists, dicts -/
def thing : D → Bool
  | .non => true
  | .bl _ => false
  | .int i => decide (0 ≤ i) && decide (i < 100)
  | .str x => decide (x = "deep")
  | .tup xs => things xs
  | .lst xs => things xs
  | .dct _ kvs => thingk kvs
  | .obj _ _ => false
  | .raw _ _ _ => false
def things : List D → Bool
  | [] => true
  | x :: xs => thing x && things xs
def thingk : List (D × D) → Bool
  | [] => true
  | (k, v) :: r => (thing k && thing v) && thingk r
end
mutual
def numT : D → Bool
  | .int i => decide (0 ≤ i) && decide (i < 100)
  | .tup xs => numTs xs
  | _ => false
def numTs : List D → Bool
  | [] => true
  | x :: xs => numT x && numTs xs
end
def hdOk : D → Nat → Prop
  | .non, c => c = 78
  | .int _, c => c = 45 ∨ (48 ≤ c ∧ c ≤ 57)
  | .str _, c => c = 39
  | .tup _, c => c = 40
  | .lst _, c => c = 91
  | .dct _ _, c => c = 123
  | _, _ => False
theorem sh_int (i : Int) : sh (.int i) = (Str.ofString (toString i)).cps.toList := by unfold sh; rw [toR, PyData.shown]
theorem int_chars (i : Int) : ∀ c ∈ sh (.int i), c = 45 ∨ (48 ≤ c ∧ c ≤ 57) := fun c hc => by
  rw [sh_int] at hc
  by_cases h : c ≠ 45 ∧ (c < 48 ∨ 57 < c)
  · exact absurd hc (int_text_free' c h i)
  · omega
theorem int_ne {i : Int} (h0 : 0 ≤ i) : sh (.int i) ≠ [] := by
  rw [sh_int]
  intro e
  have h1 := PySem.W.KLn.one_le h0
  have h2 : (Str.ofString (toString i)).length = (Str.ofString (toString i)).cps.toList.length := by show (Str.ofString (toString i)).cps.size = _; simp
  rw [h2, e] at h1
  exact absurd h1 (by decide)
theorem int_inj {i j : Int} (h0 : 0 ≤ i) (h1 : i < 100) (k0 : 0 ≤ j) (k1 : j < 100) (e : sh (.int i) = sh (.int j)) : i = j := by
  rw [sh_int, sh_int] at e
  have e2 : Str.ofString (toString i) = Str.ofString (toString j) := PySem.W.str_of_cps e
  have a := PySem.W.KIN.num_reads h0 (by omega : i < 10 ^ 10)
  have b := PySem.W.KIN.num_reads k0 (by omega : j < 10 ^ 10)
  rw [e2, b] at a
  exact (Option.some.inj a).symm
theorem sh_head : ∀ d : D, thing d = true → ∃ c r, sh d = c :: r ∧ hdOk d c
  | .non, _ => ⟨78, _, by unfold sh; rw [toR, PyData.shown]; rfl, rfl⟩
  | .bl _, h => by unfold thing at h; cases h
  | .int i, h => by
    unfold thing at h
    simp at h
    cases e : sh (.int i) with
    | nil => exact absurd e (int_ne h.1)
    | cons c r => exact ⟨c, r, rfl, int_chars i c (by rw [e]; exact List.mem_cons_self ..)⟩
  | .str x, h => by
    unfold thing at h
    have := of_decide_eq_true h
    subst this
    exact ⟨39, [100, 101, 101, 112, 39], by unfold sh; rw [toR, PyData.shown]; decide +kernel, rfl⟩
  | .tup xs, _ => ⟨40, _, sh_tup xs, rfl⟩
  | .lst xs, _ => by
    have e : ∃ r, sh (.lst xs) = 91 :: r := by
      unfold sh
      rw [toR, PyData.shown]
      unfold listText
      rw [cps_app]
      have key : ∀ (ts : List Str) (k : Nat) (acc : Str), (∃ r, acc.cps.toList = 91 :: r) → ∃ r, (textFrom k acc ts).cps.toList = 91 :: r := by
        intro ts
        induction ts with
        | nil => intro k acc h; exact h
        | cons t ts ih =>
          intro k acc ⟨r, h⟩
          refine ih _ _ ⟨?_, ?_⟩
          rotate_left
          · rw [cps_app, cps_app, h]; rfl
      obtain ⟨r, h⟩ := key (PyData.shownAll (toRs xs)) 0 "[" ⟨[], by decide⟩
      exact ⟨_, by rw [h]; rfl⟩
    obtain ⟨r, e⟩ := e
    exact ⟨91, r, e, rfl⟩
  | .dct t kvs, _ => by
    have e : ∃ r, sh (.dct t kvs) = 123 :: r := by
      unfold sh
      rw [toR, PyData.shown]
      unfold dictText
      rw [cps_app, cps_app]
      have e1 : (("{" : String) : Str).cps.toList = [123] := by decide
      rw [e1]
      exact ⟨_, rfl⟩
    obtain ⟨r, e⟩ := e
    exact ⟨123, r, e, rfl⟩
  | .obj _ _, h => by unfold thing at h; cases h
  | .raw _ _ _, h => by unfold thing at h; cases h
/-- behind a thing stands a comma or a bracket -/
def dl (r : List Nat) : Prop := ∃ c r', r = c :: r' ∧ (c = 44 ∨ c = 41)
theorem span : ∀ (A B r r' : List Nat), (∀ c ∈ A, c ≠ 44 ∧ c ≠ 41) → (∀ c ∈ B, c ≠ 44 ∧ c ≠ 41) → dl r → dl r' → A ++ r = B ++ r' → A = B ∧ r = r'
  | [], [], r, r', _, _, _, _, e => ⟨rfl, e⟩
  | [], b :: B, r, r', _, hB, ⟨c, s, er, hc⟩, _, e => by
    subst er
    simp at e
    have := hB b (List.mem_cons_self ..)
    omega
  | a :: A, [], r, r', hA, _, _, ⟨c, s, er, hc⟩, e => by
    subst er
    simp at e
    have := hA a (List.mem_cons_self ..)
    omega
  | a :: A, b :: B, r, r', hA, hB, h, h', e => by
    simp only [List.cons_append, List.cons.injEq] at e
    obtain ⟨e1, e2⟩ := span A B r r' (fun c hc => hA c (List.mem_cons_of_mem _ hc)) (fun c hc => hB c (List.mem_cons_of_mem _ hc)) h h' e.2
    exact ⟨by rw [e.1, e1], e2⟩
theorem dl_tl (r : List D) (s : List Nat) : dl (tlM r ++ s) := by
  cases r with
  | nil => exact ⟨41, s, rfl, .inr rfl⟩
  | cons x r => exact ⟨44, _, rfl, .inl rfl⟩
theorem things_cons {x : D} {xs : List D} (h : things (x :: xs) = true) : thing x = true ∧ things xs = true := by unfold things at h; exact Bool.and_eq_true_iff.mp h
theorem numTs_cons {x : D} {xs : List D} (h : numTs (x :: xs) = true) : numT x = true ∧ numTs xs = true := by unfold numTs at h; exact Bool.and_eq_true_iff.mp h
mutual
theorem sh_inj : ∀ (t d : D) (r r' : List Nat), numT t = true → thing d = true → dl r → dl r' → sh d ++ r = sh t ++ r' → d = t ∧ r = r'
  | .int i, d, r, r', ht, hd, h, h', e => by
    unfold numT at ht
    simp at ht
    obtain ⟨c, s, es, hc⟩ := sh_head d hd
    have hi : ∃ c' s', sh (.int i) = c' :: s' ∧ (c' = 45 ∨ (48 ≤ c' ∧ c' ≤ 57)) := by
      cases ei : sh (.int i) with
      | nil => exact absurd ei (int_ne ht.1)
      | cons c r => exact ⟨c, r, rfl, int_chars i c (by rw [ei]; exact List.mem_cons_self ..)⟩
    obtain ⟨c', s', es', hc'⟩ := hi
    have ec : c = c' := by rw [es, es'] at e; simp only [List.cons_append, List.cons.injEq] at e; exact e.1
    cases d with
    | int j =>
      unfold thing at hd
      simp at hd
      obtain ⟨e1, e2⟩ := span _ _ _ _ (fun c hc => by have := int_chars j c hc; omega) (fun c hc => by have := int_chars i c hc; omega) h h' e
      exact ⟨by rw [int_inj hd.1 hd.2 ht.1 ht.2 e1], e2⟩
    | bl b => unfold thing at hd; cases hd
    | obj t ds => unfold thing at hd; cases hd
    | raw a b ds => unfold thing at hd; cases hd
    | non => have : c = 78 := hc; omega
    | str x => have : c = 39 := hc; omega
    | tup x => have : c = 40 := hc; omega
    | lst x => have : c = 91 := hc; omega
    | dct t x => have : c = 123 := hc; omega
  | .tup ys, d, r, r', ht, hd, h, h', e => by
    unfold numT at ht
    obtain ⟨c, s, es, hc⟩ := sh_head d hd
    have ec : c = 40 := by rw [es, sh_tup] at e; simp only [List.cons_append, List.cons.injEq] at e; exact e.1
    cases d with
    | tup xs =>
      unfold thing at hd
      rw [sh_tup, sh_tup] at e
      simp only [List.cons_append, List.cons.injEq, true_and] at e
      obtain ⟨e1, e2⟩ := body_inj ys xs r r' ht hd h h' e
      exact ⟨by rw [e1], e2⟩
    | bl b => unfold thing at hd; cases hd
    | obj t ds => unfold thing at hd; cases hd
    | raw a b ds => unfold thing at hd; cases hd
    | int j => have : c = 45 ∨ (48 ≤ c ∧ c ≤ 57) := hc; omega
    | non => have : c = 78 := hc; omega
    | str x => have : c = 39 := hc; omega
    | lst x => have : c = 91 := hc; omega
    | dct t x => have : c = 123 := hc; omega
  | .non, d, r, r', ht, hd, h, h', e => by unfold numT at ht; cases ht
  | .bl _, d, r, r', ht, hd, h, h', e => by unfold numT at ht; cases ht
  | .str _, d, r, r', ht, hd, h, h', e => by unfold numT at ht; cases ht
  | .lst _, d, r, r', ht, hd, h, h', e => by unfold numT at ht; cases ht
  | .dct _ _, d, r, r', ht, hd, h, h', e => by unfold numT at ht; cases ht
  | .obj _ _, d, r, r', ht, hd, h, h', e => by unfold numT at ht; cases ht
  | .raw _ _ _, d, r, r', ht, hd, h, h', e => by unfold numT at ht; cases ht
theorem body_inj : ∀ (ys xs : List D) (r r' : List Nat), numTs ys = true → things xs = true → dl r → dl r' → body xs ++ r = body ys ++ r' → xs = ys ∧ r = r'
  | [], [], r, r', _, _, _, _, e => by simp [body] at e; exact ⟨rfl, e⟩
  | [], x :: xs, r, r', _, hd, _, _, e => by
    exfalso
    obtain ⟨c, s, es, hc⟩ := sh_head x (things_cons hd).1
    have : c = 41 := by
      cases xs with
      | nil => simp only [body, es, List.cons_append, List.cons.injEq] at e; exact e.1
      | cons y xs => simp only [body, es, List.cons_append, List.cons.injEq] at e; exact e.1
    subst this
    cases x <;> first | (exact absurd hc (by unfold hdOk; decide)) | (unfold hdOk at hc; exact hc) | (unfold hdOk at hc; omega)
  | y :: ys, [], r, r', ht, _, _, _, e => by
    exfalso
    have h1 := (numTs_cons ht).1
    have : ∃ c s, sh y = c :: s ∧ c ≠ 41 := by
      cases y with
      | int i =>
        unfold numT at h1
        simp at h1
        cases ei : sh (.int i) with
        | nil => exact absurd ei (int_ne h1.1)
        | cons c s => exact ⟨c, s, rfl, by have := int_chars i c (by rw [ei]; exact List.mem_cons_self ..); omega⟩
      | tup zs => exact ⟨40, _, sh_tup zs, by decide⟩
      | _ => unfold numT at h1; cases h1
    obtain ⟨c, s, es, hc⟩ := this
    cases ys with
    | nil => simp only [body, es, List.cons_append, List.cons.injEq] at e; exact hc e.1.symm
    | cons z ys => simp only [body, es, List.cons_append, List.cons.injEq] at e; exact hc e.1.symm
  | [y], [x], r, r', ht, hd, h, h', e => by
    simp only [body, List.append_assoc] at e
    obtain ⟨e1, e2⟩ := sh_inj y x _ _ (numTs_cons ht).1 (things_cons hd).1 ⟨44, _, rfl, .inl rfl⟩ ⟨44, _, rfl, .inl rfl⟩ e
    simp at e2
    exact ⟨by rw [e1], e2⟩
  | [y], x :: x2 :: xs, r, r', ht, hd, h, h', e => by
    exfalso
    simp only [body, List.append_assoc] at e
    obtain ⟨e1, e2⟩ := sh_inj y x _ _ (numTs_cons ht).1 (things_cons hd).1 (dl_tl _ _) ⟨44, _, rfl, .inl rfl⟩ e
    simp [tlM] at e2
  | y :: y2 :: ys, [x], r, r', ht, hd, h, h', e => by
    exfalso
    simp only [body, List.append_assoc] at e
    obtain ⟨e1, e2⟩ := sh_inj y x _ _ (numTs_cons ht).1 (things_cons hd).1 ⟨44, _, rfl, .inl rfl⟩ (dl_tl _ _) e
    simp [tlM] at e2
  | y :: y2 :: ys, x :: x2 :: xs, r, r', ht, hd, h, h', e => by
    simp only [body, List.append_assoc] at e
    obtain ⟨e1, e2⟩ := sh_inj y x _ _ (numTs_cons ht).1 (things_cons hd).1 (dl_tl _ _) (dl_tl _ _) e
    obtain ⟨e3, e4⟩ := tl_inj (y2 :: ys) (x2 :: xs) r r' (numTs_cons ht).2 (things_cons hd).2 h h' e2
    exact ⟨by rw [e1, e3], e4⟩
theorem tl_inj : ∀ (ys xs : List D) (r r' : List Nat), numTs ys = true → things xs = true → dl r → dl r' → tlM xs ++ r = tlM ys ++ r' → xs = ys ∧ r = r'
  | [], [], r, r', _, _, _, _, e => by simp [tlM] at e; exact ⟨rfl, e⟩
  | [], x :: xs, r, r', _, _, _, _, e => by simp [tlM] at e
  | y :: ys, [], r, r', _, _, _, _, e => by simp [tlM] at e
  | y :: ys, x :: xs, r, r', ht, hd, h, h', e => by
    simp only [tlM, List.cons_append, List.append_assoc, List.cons.injEq, true_and] at e
    obtain ⟨e1, e2⟩ := sh_inj y x _ _ (numTs_cons ht).1 (things_cons hd).1 (dl_tl _ _) (dl_tl _ _) e
    obtain ⟨e3, e4⟩ := tl_inj ys xs r r' (numTs_cons ht).2 (things_cons hd).2 h h' e2
    exact ⟨by rw [e1, e3], e4⟩
end
theorem shown_inj {t d : D} (ht : numT t = true) (hd : thing d = true) (e : shownD d = shownD t) : d = t := by
  have e2 : sh d = sh t := by unfold sh; unfold shownD at e; rw [e]
  exact (sh_inj t d [44] [44] ht hd ⟨44, _, rfl, .inl rfl⟩ ⟨44, _, rfl, .inl rfl⟩ (by rw [e2])).1
end PL.C
end
section
set_option Elab.async false
set_option linter.all false
set_option maxRecDepth 100000
namespace PL.C
open PySem PySem.Spec L2 PL
open PyProof.Rows hiding St
variable {P : R → Prop} {E : XP}
mutual
theorem thing_no : ∀ d : D, thing d = true → noObj d = true
  | .non, _ => rfl
  | .bl _, _ => rfl
  | .int _, _ => rfl
  | .str _, _ => rfl
  | .tup xs, h => by unfold thing at h; unfold noObj; exact things_no xs h
  | .lst xs, h => by unfold thing at h; unfold noObj; exact things_no xs h
  | .dct _ kvs, h => by unfold thing at h; unfold noObj; exact thingk_no kvs h
  | .obj _ _, h => by unfold thing at h; cases h
  | .raw _ _ _, h => by unfold thing at h; cases h
theorem things_no : ∀ xs : List D, things xs = true → noObjs xs = true
  | [], _ => rfl
  | x :: xs, h => by
    obtain ⟨h1, h2⟩ := things_cons h
    unfold noObjs; rw [thing_no x h1, things_no xs h2]; rfl
theorem thingk_no : ∀ xs : List (D × D), thingk xs = true → noObjk xs = true
  | [], _ => rfl
  | (k, v) :: xs, h => by
    unfold thingk at h
    rw [Bool.and_eq_true, Bool.and_eq_true] at h
    unfold noObjk; rw [thing_no v h.1.2, thingk_no xs h.2]; rfl
end
mutual
theorem thing_sh : ∀ d : D, thing d = true → (toR d).showable = true
  | .non, _ => by rw [toR, PyData.showable]
  | .bl _, h => by unfold thing at h; cases h
  | .int i, h => by
    unfold thing at h
    simp at h
    rw [toR, PyData.showable]
    have : i.natAbs < 2 ^ 1920 := Nat.lt_of_lt_of_le (show i.natAbs < 2 ^ 7 by omega) (Nat.pow_le_pow_right (by decide) (by decide))
    by_cases h0 : i.natAbs = 0
    · rw [h0]; decide
    · exact decide_eq_true ((Nat.log2_lt h0).mpr this)
  | .str _, _ => by rw [toR, PyData.showable]
  | .tup xs, h => by unfold thing at h; rw [toR, PyData.showable]; exact things_sh xs h
  | .lst xs, h => by unfold thing at h; rw [toR, PyData.showable]; exact things_sh xs h
  | .dct _ kvs, h => by unfold thing at h; rw [toR, PyData.showable]; exact thingk_sh kvs h
  | .obj _ _, h => by unfold thing at h; cases h
  | .raw _ _ _, h => by unfold thing at h; cases h
theorem things_sh : ∀ xs : List D, things xs = true → PyData.showableAll (toRs xs) = true
  | [], _ => by rw [toRs, PyData.showableAll]
  | x :: xs, h => by
    obtain ⟨h1, h2⟩ := things_cons h
    rw [toRs, PyData.showableAll, thing_sh x h1, things_sh xs h2]; rfl
theorem thingk_sh : ∀ xs : List (D × D), thingk xs = true → PyData.showableKv (toRk xs) = true
  | [], _ => by rw [toRk, PyData.showableKv]
  | (k, v) :: xs, h => by
    unfold thingk at h
    rw [Bool.and_eq_true, Bool.and_eq_true] at h
    rw [toRk, PyData.showableKv, thing_sh k h.1.1, thing_sh v h.1.2, thingk_sh xs h.2]; rfl
end
/-! ### how long a text is -/
mutual
def wt : D → Nat
  | .tup xs => wts xs + 4
  | .lst xs => wts xs + 4
  | .dct _ kvs => wtk kvs + 4
  | _ => 6
def wts : List D → Nat
  | [] => 0
  | x :: xs => wt x + 2 + wts xs
def wtk : List (D × D) → Nat
  | [] => 0
  | (k, v) :: r => wt k + wt v + 4 + wtk r
end
theorem strLen (x : Str) : x.length = x.cps.toList.length := by show x.cps.size = _; simp
theorem join_len : ∀ ts : List Str, (Str.join ", " ts).length ≤ (ts.map fun t => t.length + 2).sum
  | [] => by decide
  | [x] => by show x.length ≤ _; simp
  | x :: y :: r => by
    have ih := join_len (y :: r)
    show (x ++ ", " ++ Str.join ", " (y :: r)).length ≤ _
    have e2 : ((", " : String) : Str).length = 2 := rfl
    rw [strLen_append, strLen_append, e2, List.map_cons, List.sum_cons]
    omega
theorem textFrom_le : ∀ (ts : List Str) (k : Nat) (acc : Str), (textFrom k acc ts).length ≤ acc.length + (ts.map fun t => t.length + 2).sum
  | [], k, acc => by show acc.length ≤ _; simp
  | t :: r, k, acc => by
    have ih := textFrom_le r (k + 1) (acc ++ (if k > 0 then ", " else "" : String) ++ t)
    have e : (acc ++ (if k > 0 then ", " else "" : String) ++ t).length ≤ acc.length + 2 + t.length := by
      rw [strLen_append, strLen_append]
      split
      · have e2 : ((", " : String) : Str).length = 2 := rfl
        omega
      · have e2 : (("" : String) : Str).length = 0 := rfl
        omega
    show (textFrom (k + 1) _ r).length ≤ _
    rw [List.map_cons, List.sum_cons]
    omega
theorem len_int (i : Int) (h0 : 0 ≤ i) (h1 : i < 100) : (Str.ofString (toString i)).length ≤ 6 := by
  have := PyProof.Rows.toString_length_le (k := 2) h0 (by decide) (by omega)
  omega
mutual
theorem shown_len : ∀ d : D, thing d = true → (toR d).shown.length ≤ wt d
  | .non, _ => by rw [toR, PyData.shown]; decide
  | .bl _, h => by unfold thing at h; cases h
  | .int i, h => by
    unfold thing at h
    simp at h
    rw [toR, PyData.shown]
    exact len_int i h.1 h.2
  | .str x, h => by
    unfold thing at h
    have := of_decide_eq_true h
    subst this
    rw [toR, PyData.shown]; decide +kernel
  | .tup xs, h => by
    unfold thing at h
    rw [toR, PyData.shown]
    unfold tupleText wt
    have h1 := join_len (PyData.shownAll (toRs xs))
    have h2 := showns_len xs h
    rw [strLen_append, strLen_append]
    have e1 : (("(" : String) : Str).length = 1 := rfl
    have e2 : ((if (PyData.shownAll (toRs xs)).length == 1 then ",)" else ")" : String) : Str).length ≤ 2 := by
      split
      · exact Nat.le_of_eq rfl
      · exact Nat.le_of_ble_eq_true rfl
    omega
  | .lst xs, h => by
    unfold thing at h
    rw [toR, PyData.shown]
    unfold listText wt
    have h1 := textFrom_le (PyData.shownAll (toRs xs)) 0 "["
    have h2 := showns_len xs h
    rw [strLen_append]
    have e1 : (("[" : String) : Str).length = 1 := rfl
    have e2 : (("]" : String) : Str).length = 1 := rfl
    omega
  | .dct _ kvs, h => by
    unfold thing at h
    rw [toR, PyData.shown]
    unfold dictText wt
    have h1 := join_len (PyData.shownKv (toRk kvs))
    have h2 := shownk_len kvs h
    rw [strLen_append, strLen_append]
    have e1 : (("{" : String) : Str).length = 1 := rfl
    have e2 : (("}" : String) : Str).length = 1 := rfl
    omega
  | .obj _ _, h => by unfold thing at h; cases h
  | .raw _ _ _, h => by unfold thing at h; cases h
theorem showns_len : ∀ xs : List D, things xs = true → ((PyData.shownAll (toRs xs)).map fun t => t.length + 2).sum ≤ wts xs
  | [], _ => by rw [toRs, PyData.shownAll]; exact Nat.le_refl _
  | x :: xs, h => by
    obtain ⟨h1, h2⟩ := things_cons h
    have a := shown_len x h1
    have b := showns_len xs h2
    rw [toRs, PyData.shownAll, List.map_cons, List.sum_cons]
    unfold wts
    omega
theorem shownk_len : ∀ xs : List (D × D), thingk xs = true → ((PyData.shownKv (toRk xs)).map fun t => t.length + 2).sum ≤ wtk xs
  | [], _ => by rw [toRk, PyData.shownKv]; exact Nat.le_refl _
  | (k, v) :: xs, h => by
    unfold thingk at h
    rw [Bool.and_eq_true, Bool.and_eq_true] at h
    have a := shown_len k h.1.1
    have a2 := shown_len v h.1.2
    have b := shownk_len xs h.2
    rw [toRk, PyData.shownKv, List.map_cons, List.sum_cons, strLen_append, strLen_append]
    have e2 : ((": " : String) : Str).length = 2 := rfl
    unfold wtk
    omega
end
/-- shown within bounds -/
def Good (d : D) : Prop := thing d = true ∧ (toR d).depth ≤ 60 ∧ wt d ≤ 1000000
theorem v_repr {d : D} (g : Good d) (h : P (.val (.str (shownD d)))) : reprW [d] P := by
  obtain ⟨h1, h2, h3⟩ := g
  refine ⟨d, rfl, thing_no d h1, thing_sh d h1, h2, ?_, h⟩
  have := shown_len d h1
  unfold shownD
  rw [sizeLine_eq]; omega
theorem toR_depth_mem : ∀ {xs : List D} {x : D}, x ∈ xs → (toR x).depth ≤ PyData.depthAll (toRs xs)
  | y :: ys, x, h => by
    rw [toRs, PyData.depthAll]
    rcases List.mem_cons.mp h with rfl | h
    · exact Nat.le_max_left _ _
    · exact Nat.le_trans (toR_depth_mem h) (Nat.le_max_right _ _)
theorem things_mem : ∀ {xs : List D} {x : D}, things xs = true → x ∈ xs → thing x = true
  | y :: ys, x, h, hm => by
    obtain ⟨h1, h2⟩ := things_cons h
    rcases List.mem_cons.mp hm with rfl | hm
    · exact h1
    · exact things_mem h2 hm
theorem wts_mem : ∀ {xs : List D} {x : D}, x ∈ xs → wt x ≤ wts xs
  | y :: ys, x, h => by
    unfold wts
    rcases List.mem_cons.mp h with rfl | h
    · omega
    · have := wts_mem h; omega
theorem good_mem {xs : List D} {x : D} (g : Good (.tup xs)) (h : x ∈ xs) : Good x := by
  obtain ⟨h1, h2, h3⟩ := g
  unfold thing at h1
  rw [toR, PyData.depth] at h2
  unfold wt at h3
  have a := toR_depth_mem h
  have b := wts_mem h
  exact ⟨things_mem h1 h, by omega, by omega⟩
theorem things_of {xs : List D} (h : ∀ x ∈ xs, thing x = true) : things xs = true := by
  induction xs with
  | nil => rfl
  | cons x xs ih =>
    unfold things
    rw [h x (List.mem_cons_self ..), ih fun y hy => h y (List.mem_cons_of_mem _ hy)]; rfl
theorem depth_of {xs : List D} {n : Nat} (h : ∀ x ∈ xs, (toR x).depth ≤ n) : PyData.depthAll (toRs xs) ≤ n := by
  induction xs with
  | nil => rw [toRs, PyData.depthAll]; exact Nat.zero_le _
  | cons x xs ih =>
    rw [toRs, PyData.depthAll]
    exact Nat.max_le.mpr ⟨h x (List.mem_cons_self ..), ih fun y hy => h y (List.mem_cons_of_mem _ hy)⟩
theorem wts_of {xs : List D} {n : Nat} (h : ∀ x ∈ xs, wt x ≤ n) : wts xs ≤ xs.length * (n + 2) := by
  induction xs with
  | nil => unfold wts; omega
  | cons x xs ih =>
    unfold wts
    have a := h x (List.mem_cons_self ..)
    have b := ih fun y hy => h y (List.mem_cons_of_mem _ hy)
    rw [List.length_cons, Nat.add_mul]
    omega
/-- bounded data: a thing, so deep, so long -/
structure Bd (m w : Nat) (d : D) : Prop where
  th : thing d = true
  dp : (toR d).depth ≤ m
  wt : wt d ≤ w
theorem Bd.good {m w : Nat} {d : D} (b : Bd m w d) (hm : m ≤ 60) (hw : w ≤ 1000000) : Good d := ⟨b.th, Nat.le_trans b.dp hm, Nat.le_trans b.wt hw⟩
theorem Bd.mono {m w m' w' : Nat} {d : D} (b : Bd m w d) (hm : m ≤ m') (hw : w ≤ w') : Bd m' w' d := ⟨b.th, Nat.le_trans b.dp hm, Nat.le_trans b.wt hw⟩
theorem bd_tup {m w l : Nat} {xs : List D} (h : ∀ x ∈ xs, Bd m w x) (hl : xs.length ≤ l) : Bd (m + 1) (l * (w + 2) + 4) (.tup xs) := by
  refine ⟨by unfold thing; exact things_of fun x hx => (h x hx).th, ?_, ?_⟩
  · rw [toR, PyData.depth]; have := depth_of fun x hx => (h x hx).dp; omega
  · unfold PL.C.wt
    have := wts_of fun x hx => (h x hx).wt
    have : xs.length * (w + 2) ≤ l * (w + 2) := Nat.mul_le_mul_right _ hl
    omega
theorem bd_lst {m w l : Nat} {xs : List D} (h : ∀ x ∈ xs, Bd m w x) (hl : xs.length ≤ l) : Bd (m + 1) (l * (w + 2) + 4) (.lst xs) := by
  refine ⟨by unfold thing; exact things_of fun x hx => (h x hx).th, ?_, ?_⟩
  · rw [toR, PyData.depth]; have := depth_of fun x hx => (h x hx).dp; omega
  · unfold PL.C.wt
    have := wts_of fun x hx => (h x hx).wt
    have : xs.length * (w + 2) ≤ l * (w + 2) := Nat.mul_le_mul_right _ hl
    omega
theorem bd_int {i : Int} (h0 : 0 ≤ i) (h1 : i < 100) : Bd 0 6 (.int i) := ⟨by unfold thing; simp [h0, h1], by rw [toR, PyData.depth]; exact Nat.le_refl _, Nat.le_refl _⟩
theorem bd_lot {n : Int} (hn : n ≤ 7) {q : List Int} (h : LOk n q) (hl : q.length ≤ 7) : Bd 1 60 (dLot q) :=
  (bd_tup (m := 0) (w := 6) (l := 7) (fun x hx => by
    obtain ⟨i, hi, rfl⟩ := List.mem_map.mp hx
    have := h.1 i hi
    exact bd_int this.1 (by omega)) (by rw [List.length_map]; exact hl)).mono (Nat.le_refl _) (by decide)
theorem bd_step {n : Int} (hn : n ≤ 7) {s : List Int × List Int} (h1 : LOk n s.1) (h2 : LOk n s.2) (l1 : s.1.length ≤ 7) (l2 : s.2.length ≤ 7) : Bd 2 130 (dStep s) :=
  (bd_tup (m := 1) (w := 60) (l := 2) (fun x hx => by
    rcases List.mem_cons.mp hx with rfl | hx
    · exact bd_lot hn h1 l1
    · rcases List.mem_cons.mp hx with rfl | hx
      · exact bd_lot hn h2 l2
      · cases hx) (by simp)).mono (Nat.le_refl _) (by decide)
theorem numTs_ints {n : Int} (hn : n ≤ 7) : ∀ {q : List Int}, (∀ x ∈ q, 0 ≤ x ∧ x < n) → numTs (q.map D.int) = true
  | [], _ => rfl
  | x :: q, h => by
    rw [List.map_cons, numTs, numT, numTs_ints hn fun y hy => h y (List.mem_cons_of_mem _ hy)]
    have := h x (List.mem_cons_self ..)
    simp; omega
theorem numT_lot {n : Int} (hn : n ≤ 7) {q : List Int} (h : LOk n q) : numT (dLot q) = true := by unfold dLot numT; exact numTs_ints hn h.1
theorem numT_step {n : Int} (hn : n ≤ 7) {s : List Int × List Int} (h1 : LOk n s.1) (h2 : LOk n s.2) : numT (dStep s) = true := by
  unfold dStep numT numTs numTs numTs
  rw [numT_lot hn h1, numT_lot hn h2]; rfl
end PL.C
end
section
set_option Elab.async false
set_option linter.all false
set_option maxRecDepth 100000
set_option autoImplicit false
namespace PL.ST
open PySem PySem.Spec L2
open PyProof.Rows hiding St

/-! ### a set of lots: at most 76 of them -/
abbrev Rw := List (Addr × List Int)
/-- a search's first state -/
abbrev w0 (m : Nat) (h : Int) : SetTable.Probe := runAt m (SetTable.bits h % (m + 1)) (SetTable.bits h)
theorem w0_dm (m : Nat) (h : Int) (c : Nat) : (nth m (w0 m h) c).dummy = none := by
  have g : ∀ (n : Nat) (p : SetTable.Probe), p.dummy = none → (nth m p n).dummy = none := by
    intro n
    induction n with
    | zero => exact fun p h => h
    | succ n ih => exact fun p h => ih (adv m p) (by unfold adv; split <;> exact h)
  exact g c _ rfl
theorem w0_j (m : Nat) (h : Int) (c q : Nat) : (nth m (nth m (w0 m h) c) q).j = way m h (c + q) := congrArg SetTable.Probe.j (nth_add m c (w0 m h) q).symm
structure LS (P : Program) (w : World) (hp : Heap) (a : Addr) (L : Rw) (es : Array (Int × Value)) (ep : Nat) (t : SetTable) : Prop where
  ob : ∃ o, hp.get? a = some o ∧ o.ExactSet ∧ o.data = .set es ep t
  rs : es.toList = rowsOf P w L
  tb : TabOk t (L.map fun p => thash P w p.2)
  un : (L.map (·.2)).Nodup
  tp : ∀ p ∈ L, IsT P w hp p.2 p.1
  pn : t.plain = true
  ld : w.params.followText "set-order" = true ∨ t.led = true
  rm : 5 * L.length < 3 * t.mask
theorem mask_le {m : Nat} (h : MaskOk m) : m ≤ 127 := by rcases h with e | e | e <;> omega
section
variable {P : Program} {w : World} {A : Around} {E : Value → Shared → Prop} {s : Shared} {a : Addr} {L : Rw} {es : Array (Int × Value)} {ep : Nat} {t : SetTable}
theorem LS.sz {hp : Heap} (R : LS P w hp a L es ep t) : es.size = L.length := by
  have e := congrArg List.length R.rs
  unfold rowsOf at e
  simpa using e
theorem LS.psz {hp : Heap} (R : LS P w hp a L es ep t) : t.place.size = L.length := by
  have e := R.tb.sz
  simpa using e
theorem LS.fits {hp : Heap} (R : LS P w hp a L es ep t) : t.fits es.size = true := by
  have a1 := R.psz
  have a2 := R.sz
  have a3 := R.rm
  unfold SetTable.fits SetTable.fill
  rw [R.tb.dm, Bool.and_eq_true, beq_iff_eq, decide_eq_true_eq]
  exact ⟨by omega, by show t.place.size + 0 ≤ t.mask; omega⟩
theorem LS.row {hp : Heap} (R : LS P w hp a L es ep t) {i : Nat} {p : Addr × List Int} (h : L[i]? = some p) : es[i]? = some (thash P w p.2, Value.ref p.1) := by
  rw [← Array.getElem?_toList, R.rs]
  unfold rowsOf
  simp [h]
theorem LS.whole {hp : Heap} (R : LS P w hp a L es ep t) : ¬ t.gaveWay = true := by
  unfold SetTable.gaveWay
  rw [mask_odd R.tb.mok]; decide

/-- the search from a step of its way on -/
theorem LS.seek (R : LS P w s.heap a L es ep t) {x : Addr} {k : List Int} (hx : IsT P w s.heap k x) (hu : A.units < cLine) {K : Nat} (kf : K < 10 * SetTable.turns t.mask)
    (k0 : way t.mask (thash P w k) K ∉ t.place.toList) (kb : ∀ c, c < K → way t.mask (thash P w k) c ∈ t.place.toList) {Q : SetFound → Shared → Prop}
    (yes : k ∈ L.map (·.2) → Q (.there none) s) (no : k ∉ L.map (·.2) → Q (.free (way t.mask (thash P w k) K) false) s) :
    ∀ (f c : Nat) (st : Option SetTable.Probe), st.getD (t.probeStart (thash P w k)) = nth t.mask (w0 t.mask (thash P w k)) c → c ≤ K → K - c < f →
      (∀ (i : Nat) p, L[i]? = some p → p.2 = k → ∃ d, c ≤ d ∧ d < K ∧ t.place.toList[i]? = some (way t.mask (thash P w k) d)) → wpAny (model P w) A (setSearchFrom a (.ref x) (thash P w k) true f st) Q E s := by
  intro f
  induction f with
  | zero => exact fun c st _ _ h => absurd h (Nat.not_lt_zero _)
  | succ f ih =>
    intro c st e0 cK cf re
    obtain ⟨u, hu1, _, hu2⟩ := R.ob
    rw [setSearchFrom_succ]
    refine wpAny_bind (wpAny_setState_of hu1 hu2 R.fits ?_); dsimp only
    refine wp_if_neg R.whole ?_; try refine wpAny_bind (wpAny_pure ?_)
    have fresh : (nth t.mask (w0 t.mask (thash P w k)) c).dummy = none := w0_dm _ _ _
    have key := go_spec t R.tb.ris R.tb.dm (fun i => (es[i]?.map (·.1)).getD 0) (thash P w k) (10 * SetTable.turns t.mask) (K - c) _ fresh (by omega) (fun q hq => by rw [w0_j]; exact kb (c + q) (by omega)) (by rw [w0_j, Nat.add_sub_cancel' cK]; exact k0)
    have hash : ∀ (i : Nat) p, L[i]? = some p → (fun i => (es[i]?.map (·.1)).getD 0) i = thash P w p.2 := fun i p e => by simp [R.row e]
    rcases key with ⟨q, i, q1, q2, q3, q4, q5⟩ | ⟨q4, q5⟩
    · have q6 : t.probe (fun i => (es[i]?.map (·.1)).getD 0) (thash P w k) (st.getD (t.probeStart (thash P w k))) = some (.candidate (way t.mask (thash P w k) (c + q)) i (nth t.mask (w0 t.mask (thash P w k)) (c + (q + 1)))) := by
        rw [e0, ← w0_j, nth_add t.mask c]
        exact q5
      rw [q6]; dsimp only
      rw [w0_j] at q2
      have il : i < L.length := by
        have h1 := (List.getElem?_eq_some_iff.mp q2).1
        rw [Array.length_toList, R.psz] at h1
        exact h1
      obtain ⟨p, hp⟩ : ∃ p, L[i]? = some p := ⟨_, List.getElem?_eq_getElem il⟩
      have pm := List.mem_of_getElem? hp
      have look : wpAny (model P w) A (searchRest a (.ref x) (thash P w k) true f es t (way t.mask (thash P w k) (c + q)) i (nth t.mask (w0 t.mask (thash P w k)) (c + (q + 1)))) Q E s := by
        unfold searchRest
        rw [R.row hp]; dsimp only
        refine wpAny_bind (wpAny_holding (wpAny_eqBool_tuple hu (R.tp p pm) hx ?_))
        refine wpAny_bind (wpAny_setState_of hu1 hu2 R.fits ?_); dsimp only
        by_cases pk : p.2 = k
        · exact wp_if_pos (by simp [pk]) (wpAny_pure (yes (List.mem_map.mpr ⟨p, pm, pk⟩)))
        · refine wp_if_neg (by simp [pk]) ?_; try refine wpAny_bind (wpAny_pure ?_)
          rw [sameMem]; dsimp only
          have live : t.slot (way t.mask (thash P w k) (c + q)) = .live i := slot_live R.tb.ris q2
          simp only [if_true, live, R.row hp]
          refine wpAny_bind (wpAny_isSame_ref_self (wpAny_bind (wpAny_pure ?_))); simp only [if_true]
          refine wp_if_neg (by simp [pk]) (ih (c + (q + 1)) _ rfl (by omega) (by omega) fun j r hj hr => ?_)
          obtain ⟨d, d1, d2, d3⟩ := re j r hj hr
          refine ⟨d, ?_, d2, d3⟩
          rcases Nat.lt_trichotomy d (c + q) with z | z | z
          · have e1 : c + (d - c) = d := by omega
            exact absurd ((hash j r hj).trans (congrArg (thash P w) hr)) (q4 (d - c) j (by omega) (by rw [w0_j, e1]; exact d3))
          · rw [z] at d3
            have s0 := slot_live R.tb.ris d3
            rw [live] at s0
            injection s0 with s0
            rw [← s0, hp] at hj
            cases hj
            exact absurd hr pk
          · omega
      by_cases hl : t.led = true
      · refine wp_if_neg (by simp [hl]) ?_; try refine wpAny_bind (wpAny_pure ?_)
        exact look
      · refine wp_if_pos (by simp [hl]) (wpAny_bind (seen_tup hx (fun y hy => ?_) ?_))
        · obtain ⟨e, he, ee⟩ := List.mem_map.mp hy
          have he1 : e ∈ es ∧ e.1 = thash P w k := by simpa using he
          have he2 : e ∈ rowsOf P w L := by rw [← R.rs]; simpa using he1.1
          obtain ⟨r, hr, er⟩ := List.mem_map.mp he2
          exact ⟨r.2, r.1, by rw [← ee, ← er], R.tp r hr⟩
        · refine wp_if_neg (by decide) ?_; try refine wpAny_bind (wpAny_pure ?_)
          exact look
    · have q6 : t.probe (fun i => (es[i]?.map (·.1)).getD 0) (thash P w k) (st.getD (t.probeStart (thash P w k))) = some (.empty (way t.mask (thash P w k) K) none) := by
        have e2 := w0_j t.mask (thash P w k) c (K - c)
        rw [Nat.add_sub_cancel' cK] at e2
        rw [e0, ← e2]
        exact q5
      rw [q6]; dsimp only
      refine wpAny_pure (no fun hm => ?_)
      obtain ⟨r, hr, er⟩ := List.mem_map.mp hm
      obtain ⟨j, hj, ej⟩ := List.getElem_of_mem hr
      have hj' : L[j]? = some r := by rw [List.getElem?_eq_getElem hj, ej]
      obtain ⟨d, d1, d2, d3⟩ := re j r hj' er
      have e1 : c + (d - c) = d := by omega
      exact q4 (d - c) j (by omega) (by rw [w0_j, e1]; exact d3) ((hash j r hj').trans (congrArg (thash P w) er))
theorem LS.seek0 (R : LS P w s.heap a L es ep t) {x : Addr} {k : List Int} (hx : IsT P w s.heap k x) (hu : A.units < cLine) {Q : SetFound → Shared → Prop} (yes : k ∈ L.map (·.2) → Q (.there none) s)
    (no : ∀ K, k ∉ L.map (·.2) → way t.mask (thash P w k) K ∉ t.place.toList → (∀ c, c < K → way t.mask (thash P w k) c ∈ t.place.toList) → Q (.free (way t.mask (thash P w k) K) false) s) : wpAny (model P w) A (setSearch a (.ref x) (thash P w k) true) Q E s := by
  have a1 := R.rm
  have a2 := mask_le R.tb.mok
  obtain ⟨K, kf, k0, kb⟩ := R.tb.first (by rw [List.length_map]; omega) (thash P w k)
  have big : 10 * SetTable.turns t.mask ≤ 99999 := by unfold SetTable.turns; omega
  unfold setSearch
  refine R.seek hx hu kf k0 kb yes (fun hn => no K hn k0 kb) 100000 0 none rfl (Nat.zero_le _) (by omega) fun i p hp pk => ?_
  have il : i < t.place.toList.length := by
    rw [Array.length_toList, R.psz]
    exact (List.getElem?_eq_some_iff.mp hp).1
  obtain ⟨d, d1, d2⟩ := R.tb.before k0 (h := thash P w k) (i := i) (by rw [List.getElem?_map, hp, ← pk]; rfl) (List.getElem?_eq_getElem il)
  exact ⟨d, Nat.zero_le _, d1, by rw [List.getElem?_eq_getElem il, d2]⟩
/-- the table laid anew -/
theorem LS.relay {u : Obj} (ho : s.heap.get? a = some u) (hex : u.ExactSet) (hd : u.data = .set es ep t) (rs : es.toList = rowsOf P w L) (tb : TabOk t (L.map fun p => thash P w p.2)) (un : (L.map (·.2)).Nodup) (tp : ∀ p ∈ L, IsT P w s.heap p.2 p.1)
    (pn : t.plain = true) (ld : w.params.followText "set-order" = true ∨ t.led = true) (hfl : L.length ≤ t.mask) {wanted M : Nat} (hw : SetTable.sizeAbove wanted - 1 = M) (hM : MaskOk M) (hw2 : SetTable.sizeAbove wanted ≤ 128) (hn : 5 * L.length < 3 * M) {Q : Unit → Shared → Prop}
    (hQ : ∀ h' L' es' ep' t', Heap.SameBut a s.heap h' → LS P w h' a L' es' ep' t' → L'.Perm L → Q () { s with heap := h' }) : wpAny (model P w) A (setRelay a wanted) Q E s := by
  have e1 : es.size = L.length := by
    have e := congrArg List.length rs
    unfold rowsOf at e
    simpa using e
  have e2 : t.place.size = L.length := by have e := tb.sz; simpa using e
  have ft : t.fits es.size = true := by
    unfold SetTable.fits SetTable.fill
    rw [tb.dm, Bool.and_eq_true, beq_iff_eq, decide_eq_true_eq]
    exact ⟨by omega, by show t.place.size + 0 ≤ t.mask; omega⟩
  obtain ⟨t', order, r0, r1, r2, r3, r4, r5, r6⟩ := relaid_ok t (hs := es.map (·.1)) (wanted := wanted) hw hM (by rw [Array.size_map]; omega)
  rw [Array.size_map, e1] at r1
  obtain ⟨L2, l1, l2, l3⟩ := order_rows L es order rs r1
  rw [← l3] at r2
  have e3 : (order.filterMap (es[·]?)).size = L.length := by
    have e := congrArg List.length l1
    unfold rowsOf at e
    rw [Array.length_toList, List.length_map, l2.length_eq] at e
    exact e
  rw [setRelay_eq]
  refine wpAny_bind (wpAny_setState_of ho hd ft ?_); dsimp only
  refine wp_if_neg (by rw [sizeLine_eq]; omega) ?_; try refine wpAny_bind (wpAny_pure ?_)
  rw [r0]; dsimp only
  refine wpAny_bind (wp_if_neg (by rw [e3, e1]; simp) ?_); try refine wpAny_bind (wpAny_pure ?_)
  refine wpAny_pure ?_; dsimp only
  have ml := mask_le hM
  refine wpAny_storeSet_of ho hd ?_ (by rw [e3, sizeLine_eq]; omega)
  have sb : Heap.SameBut a s.heap (s.heap.update a (Obj.putSet (order.filterMap (es[·]?)) t')) := Heap.SameBut.update ..
  refine hQ _ L2 _ (ep + 1) t' sb ⟨⟨_, store_at ho hd, ⟨hex.1, hex.2.1, hex.2.2⟩, rfl⟩, l1, r2, (l2.map (·.2)).nodup_iff.mpr un, fun p hp => isT_same (tp p (l2.mem_iff.mp hp)) ho hd sb, by rw [r5]; exact pn, by rw [r4]; exact ld, by rw [l2.length_eq, r3]; exact hn⟩ l2
/-- one more -/
theorem LS.add (R : LS P w s.heap a L es ep t) {x : Addr} {k : List Int} (hx : IsT P w s.heap k x) (hu : A.units < cLine) (few : k ∉ L.map (·.2) → L.length < 76) {Q : Bool → Shared → Prop}
    (hQ : ∀ b h' L' es' ep' t', Heap.SameBut a s.heap h' → LS P w h' a L' es' ep' t' → (k ∈ L.map (·.2) → L' = L) → (k ∉ L.map (·.2) → L'.Perm ((x, k) :: L)) → Q b { s with heap := h' }) : wpAny (model P w) A (setAddHashed a (.ref x) (thash P w k)) Q E s := by
  obtain ⟨u, ho, hex, hd⟩ := R.ob
  have e1 := R.sz
  have a1 := R.rm
  unfold setAddHashed
  refine wpAny_holding ?_
  show wpAny _ _ (setAddHashedIn a (.ref x) (thash P w k) (99999 + 1)) _ _ _
  rw [setAddHashedIn_succ]
  refine wpAny_bind (wpAny_setState_of ho hd R.fits ?_); dsimp only
  refine wp_if_neg (by simp [byScan, Value.scannable]) ?_; try refine wpAny_bind (wpAny_pure ?_)
  refine wpAny_bind (R.seek0 hx hu (fun hm => ?_) fun K hm k0 kb => ?_)
  · exact wpAny_pure (hQ false s.heap L es ep t (Heap.SameBut.refl a s.heap) R (fun _ => rfl) fun z => absurd hm z)
  dsimp only
  refine wpAny_bind (wpAny_setState_of ho hd R.fits ?_); dsimp only
  have fw := few hm
  obtain ⟨q1, q2, q3, q4, q5, q6, _, _, q9⟩ := R.tb.put k0 kb
  have pn1 : (t.put (way t.mask (thash P w k) K)).1.plain = true := by rw [q6]; exact R.pn
  generalize t.put (way t.mask (thash P w k) K) = pt at q1 q3 q4 q5 q6 q9 pn1 ⊢
  obtain ⟨t1, p⟩ := pt
  dsimp only at q1 q3 q4 q5 q6 q9 pn1 ⊢
  subst q1
  first
    | (refine wpAny_bind ?_; refine wp_if_pos pn1 ?_; refine hashBy_tup hx ?_)
    | refine wp_if_pos pn1 (wpAny_bind (hashBy_tup hx ?_))
  simp only [if_true]
  have ins := SetTable.toList_insertAt es (SetTable.below t.place (way t.mask (thash P w k) K)) (thash P w k, Value.ref x)
  rw [R.rs, ← rows_put] at ins
  generalize SetTable.below t.place (way t.mask (thash P w k) K) = p at q2 q3 ins ⊢
  have pm := put_perm L p (x, k)
  have hh : (L.take p ++ (x, k) :: L.drop p).map (fun p => thash P w p.2) = (L.map fun p => thash P w p.2).take p ++ thash P w k :: (L.map fun p => thash P w p.2).drop p := by simp
  rw [← hh] at q3
  have un1 : ((L.take p ++ (x, k) :: L.drop p).map (·.2)).Nodup := (pm.map (·.2)).nodup_iff.mpr (List.nodup_cons.mpr ⟨hm, R.un⟩)
  generalize L.take p ++ (x, k) :: L.drop p = L1 at pm q3 un1 ins
  have len1 : L1.length = L.length + 1 := pm.length_eq
  have es1 : (SetTable.insertAt es p (thash P w k, Value.ref x)).size = L.length + 1 := by
    have e := congrArg List.length ins
    unfold rowsOf at e
    rw [Array.length_toList, List.length_map, len1] at e
    exact e
  generalize SetTable.insertAt es p (thash P w k, Value.ref x) = esN at ins es1 ⊢
  refine wpAny_bind (wpAny_storeSet_of ho hd ?_ (by rw [es1, sizeLine_eq]; omega))
  have sb : Heap.SameBut a s.heap (s.heap.update a (Obj.putSet esN t1)) := Heap.SameBut.update ..
  have ho1 := store_at (es' := esN) (t' := t1) ho hd
  generalize s.heap.update a (Obj.putSet esN t1) = h1 at sb ho1 ⊢
  have tp1 : ∀ p ∈ L1, IsT P w h1 p.2 p.1 := fun p hp => by
    rcases List.mem_cons.mp (pm.mem_iff.mp hp) with rfl | hp
    · exact isT_same hx ho hd sb
    · exact isT_same (R.tp p hp) ho hd sb
  have ld1 : w.params.followText "set-order" = true ∨ t1.led = true := by rw [q5]; exact R.ld
  rw [List.length_map] at q9
  by_cases hf : t1.tooFull = true
  · first
      | (refine wpAny_bind ?_; refine wp_if_pos (by simp [hf]) ?_)
      | (refine wp_if_pos (by simp [hf]) ?_; refine wpAny_bind ?_)
    have full : (L.length + 1) * 5 ≥ t.mask * 3 := by
      unfold SetTable.tooFull at hf
      rw [decide_eq_true_eq, q9, q4] at hf
      exact hf
    rw [e1]
    have grow : ∀ M, SetTable.sizeAbove (SetTable.grown (L.length + 1)) = M + 1 → MaskOk M → 5 * (L.length + 1) < 3 * M → wpAny (model P w) A (setRelay a (SetTable.grown (L.length + 1))) (fun _ s' => wpAny (model P w) A (pure true) Q E s') E { s with heap := h1 } := fun M m1 m2 m3 => by
      have ml := mask_le m2
      have hm0 : L1.length ≤ t1.mask := by
        rw [len1, q4]
        rcases R.tb.mok with e | e | e <;> omega
      refine LS.relay (s := { s with heap := h1 }) ho1 ⟨hex.1, hex.2.1, hex.2.2⟩ rfl ins q3 un1 tp1 pn1 ld1 hm0 (by rw [m1]; rfl) m2 (by omega) (by rw [len1]; exact m3) ?_
      intro h2 L2 es2 ep2 t2 sb2 R2 pm2
      exact wpAny_pure (hQ true h2 L2 es2 ep2 t2 (sb.trans sb2) R2 (fun z => absurd z hm) fun _ => pm2.trans pm)
    rcases R.tb.mok with e | e | e
    · have l4 : L.length = 4 := by omega
      exact grow 31 (by rw [l4, size_20]) (.inr (.inl rfl)) (by omega)
    · have l18 : L.length = 18 := by omega
      exact grow 127 (by rw [l18, size_76]) (.inr (.inr rfl)) (by omega)
    · omega
  · first
      | refine wp_if_neg (by simp [hf]) ?_
      | (refine wpAny_bind ?_; refine wp_if_neg (by simp [hf]) ?_; refine wpAny_pure ?_)
    have less : (L.length + 1) * 5 < t1.mask * 3 := by
      unfold SetTable.tooFull at hf
      rw [decide_eq_true_eq, q9] at hf
      omega
    exact wpAny_pure (hQ true h1 L1 esN (ep + 1) t1 sb ⟨⟨_, ho1, ⟨hex.1, hex.2.1, hex.2.2⟩, rfl⟩, ins, q3, un1, tp1, pn1, ld1, by rw [len1]; omega⟩ (fun z => absurd z hm) fun _ => pm)
theorem LS.keep {h h' : Heap} (R : LS P w h a L es ep t) (ha : ∀ o, h.get? a = some o → h'.get? a = some o) (ht : ∀ p ∈ L, IsT P w h' p.2 p.1) : LS P w h' a L es ep t :=
  let ⟨o, ho, r⟩ := R.ob; ⟨⟨o, ha o ho, r⟩, R.rs, R.tb, R.un, ht, R.pn, R.ld, R.rm⟩
theorem LS.fresh {h : Heap} (ho : h.get? a = some { cls := .type "set", dict := none, data := .set #[] 0 (.fresh 0 0 (!w.params.followText "set-order")) }) : LS P w h a [] #[] 0 (.fresh 0 0 (!w.params.followText "set-order")) :=
  { ob := ⟨_, ho, ⟨rfl, rfl, rfl⟩, rfl⟩
    rs := rfl
    tb := ⟨List.Pairwise.nil, rfl, rfl, .inl rfl, fun x hx => (by cases hx), fun i h j hi => (by simp at hi)⟩
    un := List.nodup_nil
    tp := fun p hp => (by cases hp)
    pn := rfl
    ld := by
      show _ ∨ (!w.params.followText "set-order") = true
      cases w.params.followText "set-order" <;> simp
    rm := (by decide : 5 * 0 < 3 * 7) }
/-- the first i of the rows are there, and no others -/
def Has (ks : Rw) (i : Nat) (L : Rw) : Prop := (∀ p ∈ L, p ∈ ks.take i) ∧ ∀ p ∈ ks.take i, p.2 ∈ L.map (·.2)
/-- set.update's loop -/
theorem lots_loop {I : Addr} {fp wr : List Addr} {G : Array GenState → Array GenState → Prop} {n : Nat} {Pv : Nat → Value → Prop} {Stt : Nat → Shared → Prop} {R : Result → Shared → Prop} (W : WalksS P w A.in1 I fp wr G n Pv Stt) (S : Addr) (nS : S ∉ fp)
    (ks : Rw) (hn : n = ks.length) (few : ∀ M : List (List Int), M.Nodup → (∀ q ∈ M, q ∈ ks.map (·.2)) → M.length ≤ 76) (val : ∀ i v, Pv i v → ∃ p, ks[i]? = some p ∧ v = .ref p.1)
    (h0 : Heap) (hk : ∀ p ∈ ks, IsT P w h0 p.2 p.1) (S0 : h0.get? S = none) (w0' : ∀ b ∈ wr, h0.get? b = none) (hu : A.in1.units < cLine) :
    ∀ (k i : Nat) (s : Shared), n - i = k → i ≤ n → Stt i s → (∀ b o, h0.get? b = some o → s.heap.get? b = some o) → (∃ L es ep t, LS P w s.heap S L es ep t ∧ Has ks i L) →
      (∀ s' L es ep t, Moved (S :: wr) G s s' → LS P w s'.heap S L es ep t → Has ks n L → (∀ b o, h0.get? b = some o → s'.heap.get? b = some o) → R (.ok (.ret .none)) s') → codeAny (model P w) A (.builtin "set.update.loop" ⟨[.ref S, .ref I], []⟩) R s := by
  have nw : S ∉ wr := fun h => nS (W.sub _ h)
  have up : ∀ b ∈ wr, b ∈ S :: wr := fun b hb => List.mem_cons_of_mem _ hb
  have stay : ∀ {s s' : Shared}, Moved wr G s s' → (∀ b o, h0.get? b = some o → s.heap.get? b = some o) → ∀ b o, h0.get? b = some o → s'.heap.get? b = some o := fun hm kp b o e => hm.heap b o (fun hb => by rw [w0' b hb] at e; cases e) (kp b o e)
  intro k
  induction k with
  | zero =>
    intro i s ek ei hst kp ⟨L, es, ep, t, hS, g⟩ hR
    obtain rfl : i = n := by omega
    refine codeAny_builtin F.entry_set_update_loop ?_
    rw [Around.under_plainId F.plain_set_update_loop _]
    refine wpAny_bind (m := pyNext (.ref I)) (W.done s _ _ hst fun s' hm => ?_)
    have kp' := stay hm kp
    exact wpAny_pure (hR s' L es ep t (hm.mono up) (hS.keep (fun o e => hm.heap S o nw e) fun p hp => isT_keep (hk p (List.mem_of_mem_take (g.1 p hp))) kp') g kp')
  | succ k ih =>
    intro i s ek ei hst kp ⟨L, es, ep, t, hS, g⟩ hR
    have lt : i < n := by omega
    refine codeAny_builtin F.entry_set_update_loop ?_
    rw [Around.under_plainId F.plain_set_update_loop _]
    refine wpAny_bind (m := pyNext (.ref I)) (W.item i s _ _ lt hst fun v s' hP hst' hm => ?_)
    obtain ⟨p, hp, rfl⟩ := val i v hP
    have kp' := stay hm kp
    have hS' : LS P w s'.heap S L es ep t := hS.keep (fun o e => hm.heap S o nw e) fun q hq => isT_keep (hk q (List.mem_of_mem_take (g.1 q hq))) kp'
    have hx : IsT P w s'.heap p.2 p.1 := isT_keep (hk p (List.mem_of_getElem? hp)) kp'
    have tk : ks.take (i + 1) = ks.take i ++ [p] := take_next hp
    refine wpAny_bind (m := holding [Value.ref p.1] (setAdd S (.ref p.1))) (wpAny_holding ?_)
    unfold setAdd
    refine wpAny_holding (wpAny_bind (wpAny_pyHash_tuple hu hx ?_))
    refine LS.add (s := { s' with toks := s'.toks + (p.2.length + 1) }) hS' hx hu (fun nk => ?_) fun b h' L' es' ep' t' sb hS2 c1 c2 => ?_
    · have := few (p.2 :: L.map (·.2)) (List.nodup_cons.mpr ⟨nk, hS'.un⟩) fun q hq => by
        rcases List.mem_cons.mp hq with rfl | hq
        · exact List.mem_map.mpr ⟨p, List.mem_of_getElem? hp, rfl⟩
        · obtain ⟨r, hr, rfl⟩ := List.mem_map.mp hq
          exact List.mem_map.mpr ⟨r, List.mem_of_mem_take (g.1 r hr), rfl⟩
      rw [List.length_cons, List.length_map] at this
      omega
    have g' : Has ks (i + 1) L' := by
      unfold Has
      rw [tk]
      rcases Classical.em (p.2 ∈ L.map (·.2)) with c | c
      · rw [c1 c]
        refine ⟨fun q hq => List.mem_append_left _ (g.1 q hq), fun q hq => ?_⟩
        rcases List.mem_append.mp hq with z | z
        · exact g.2 q z
        · rw [List.mem_singleton.mp z]; exact c
      · have pm := c2 c
        refine ⟨fun q hq => ?_, fun q hq => ?_⟩
        · rcases List.mem_cons.mp (pm.mem_iff.mp hq) with rfl | z
          · exact List.mem_append_right _ (List.mem_singleton.mpr rfl)
          · exact List.mem_append_left _ (g.1 q z)
        · rw [(pm.map (·.2)).mem_iff, List.map_cons]
          rcases List.mem_append.mp hq with z | z
          · exact List.mem_cons_of_mem _ (g.2 q z)
          · rw [List.mem_singleton.mp z]; exact List.mem_cons_self
    have kp2 : ∀ b o, h0.get? b = some o → h'.get? b = some o := fun b o e => (sb.2 b (fun z => by rw [z, S0] at e; cases e)).trans (kp' b o e)
    refine wpAny_pure ⟨plainId_quiet F.plain_set_update_loop _, ih (i + 1) _ (by omega) lt (W.frame _ s' _ _ hst' (Nat.le_add_right _ _) fun b hb o e => ?_) kp2 ⟨L', es', ep', t', hS2, g'⟩ fun s2 M es2 ep2 t2 m2 S2 g2 k2 => ?_⟩
    · rw [sb.2 b (fun z => nS (z ▸ hb))]; exact e
    · refine hR s2 M es2 ep2 t2 (Moved.trans W.gtrans ((hm.mono up).then_heap (Nat.le_add_right _ _) fun b o hb e => ?_) m2) S2 g2 k2
      rw [sb.2 b (fun z => hb (z ▸ List.mem_cons_self))]; exact e
end
end PL.ST
end
section
set_option Elab.async false
set_option linter.all false
set_option maxRecDepth 100000
set_option autoImplicit false
namespace PL.ST
open PySem PySem.Spec L2
open PyProof.Rows hiding St

abbrev newS (w : World) : Obj := { cls := .type "set", dict := none, data := .set #[] 0 (.fresh 0 0 (!w.params.followText "set-order")) }
/-- what the filling of a new set leaves, by its loop -/
def Fills (P : Program) (w : World) (hp : Heap) (items : Array Value) (Z : Heap → Prop) : Prop := ∀ (A : Around) (I l : Addr) (Stt : Nat → Shared → Prop) (s1 : Shared) (R : Result → Shared → Prop), A.in1.units < cLine →
  WalksS P w A.in1 I [I, l] [I] (fun a b => b = a) items.size (fun i v => items[i]? = some v) Stt → hp.objs.size ∉ [I, l] → hp.get? I = none → Stt 0 s1 → (∀ b o, hp.get? b = some o → s1.heap.get? b = some o) → s1.heap.get? hp.objs.size = some (newS w) →
  (∀ s', Moved [hp.objs.size, I] (fun a b => b = a) s1 s' → Z s'.heap → (∀ b o, hp.get? b = some o → s'.heap.get? b = some o) → R (.ok (.ret .none)) s') → codeAny (model P w) A (.builtin "set.update.loop" ⟨[.ref hp.objs.size, .ref I], []⟩) R s1
section
variable {P : Program} {w : World} {A : Around} {E : Value → Shared → Prop} {s : Shared}
theorem none_at {h : Heap} {b : Addr} (hb : h.objs.size ≤ b) : h.get? b = none := by
  cases q : h.get? b with
  | none => rfl
  | some o => exact absurd (Nat.lt_of_lt_of_le (Heap.lt_size q) hb) (Nat.lt_irrefl _)
set_option maxHeartbeats 3200000 in
/-- set(xs) of a list or a tuple -/
theorem call_set {l : Addr} {T : String} {o : Obj} {items : Array Value} {nn : Nat} {Z : Heap → Prop} {Q : Value → Shared → Prop} (hT : T = "list" ∨ T = "tuple") (ho : s.heap.get? l = some o) (hc : o.cls = .type T) (hd : o.data = .seq items nn)
    (hh : A.handled = none) (hu : A.units + 3 < cLine) (F0 : Fills P w s.heap items Z) (h : ∀ h' tk, Z h' → (∀ b o, s.heap.get? b = some o → h'.get? b = some o) → Q (.ref s.heap.objs.size) { s with heap := h', toks := tk }) : wpAny (model P w) A (call (.type "set") [.ref l]) Q E s := by
  have G := F.called_set
  obtain ⟨c, tl, hmro⟩ := G.mro
  have hmade := G.made
  have hsub := G.sub
  have h1 := G.notType
  have h2 := G.canCreate
  have hct := F.typeCall_set_1 (.ref l)
  refine wpAny_call (codeAny_of_tree (wpAny_pure ⟨Code.quiet_builtin _ (by decide +kernel), codeAny_builtin F.entry_type_call ?_⟩))
  rw [Around.under_plain (weight_type_call_type "set" [.ref l] []) rfl]
  repeat (any_goals (first | assumption | wp_step))
  refine codeAny_mono (code_set_led1 (.ref l) (E := E) (Q₁ := fun x s₁ => x = .ref s.heap.objs.size ∧ s₁ = { s with heap := s.heap.push (newS w) }) ⟨rfl, rfl⟩) fun r s₁ hr => ?_
  cases r with
  | error e => exact hr
  | ok fl =>
    cases fl with
    | ret x =>
      obtain ⟨rfl, rfl⟩ := hr
      have hS : (s.heap.push (newS w)).get? s.heap.objs.size = some (newS w) := Heap.get?_push_size _ rfl
      have hTy : Shared.TypeIs { s with heap := s.heap.push (newS w) } (.ref s.heap.objs.size) "set" := ⟨_, hS, rfl⟩
      have hli := G.init.lookup
      have hbi := G.init.bind (.ref s.heap.objs.size)
      repeat (any_goals (first | assumption | wp_step))
      refine codeAny_mono (codeAny_call_builtin (R := wants (fun r s₂ => r = .none ∧ ∃ h' tk, s₂ = { s with heap := h', toks := tk } ∧ Z h' ∧ ∀ b o, s.heap.get? b = some o → h'.get? b = some o) E) G.init.plain F.entry_set_init (check_set_init_1 hTy ?_)) fun r₂ s₂ hr₂ => ?_
      · have hlS : l < s.heap.objs.size := Heap.lt_size ho
        have hz : (s.heap.push (newS w)).objs.size = s.heap.objs.size + 1 := Heap.size_push ..
        have fin : ∀ (I : Addr) (Stt : Nat → Heap → Prop) (s1 : Shared), I = s.heap.objs.size + 1 → s1.gens = s.gens → s1.drawn = s.drawn → s1.os = s.os → Walks P w A.in1.in1.in1 I [I, l] [I] items.size (fun i v => items[i]? = some v) Stt → Stt 0 s1.heap →
            (∀ b o, s.heap.get? b = some o → s1.heap.get? b = some o) → s1.heap.get? s.heap.objs.size = some (newS w) →
            codeAny (model P w) A.in1.in1 (.builtin "set.update.loop" ⟨[.ref s.heap.objs.size, .ref I], []⟩) (fun r s' => ∃ h' tk, r = .ok (.ret .none) ∧ s' = { s with heap := h', toks := tk } ∧ Z h' ∧ ∀ b o, s.heap.get? b = some o → h'.get? b = some o) s1 := by
          intro I Stt s1 eI eg ed eo W st k0 hn
          subst eI
          refine F0 A.in1.in1 _ l _ s1 _ hu W.toS ?_ (none_at (Nat.le_succ _)) st k0 hn fun s' hm hZ kp => ?_
          · intro hm
            rcases List.mem_cons.mp hm with z | z
            · exact absurd z (Nat.ne_of_lt (Nat.lt_succ_self _))
            · exact absurd hlS (by rw [← List.mem_singleton.mp z]; exact Nat.lt_irrefl _)
          · obtain ⟨h', g', d', t', o'⟩ := s'
            have e1 : g' = s.gens := Eq.trans hm.gens eg
            have e2 : d' = s.drawn := Eq.trans hm.drawn ed
            have e3 : o' = s.os := Eq.trans hm.os eo
            subst e1; subst e2; subst e3
            exact ⟨h', t', rfl, rfl, hZ, kp⟩
        obtain ⟨ocls, odict, odata, oslots⟩ := o
        simp only at hc hd
        subst hc; subst hd
        have up : ∀ b o, s.heap.get? b = some o → (s.heap.push (newS w)).get? b = some o := fun b o e => Heap.get?_push_of_some _ e
        have hol := up _ _ ho
        have hne : l ≠ (s.heap.push (newS w)).objs.size := by rw [hz]; exact Nat.ne_of_lt (Nat.lt_succ_of_lt hlS)
        have hh3 : A.in1.in1.in1.handled = none := by simp [hh]
        rcases hT with rfl | rfl
        · have k1 := F.sub_list_set
          have k2 := F.sub_list_frozenset
          have k3 : (Value.type "list" == Value.type "dict") = false := by decide
          have il : (s.heap.push (newS w)).IsList l items := ⟨_, hol, rfl, nn, rfl⟩
          unfold Builtin.«set.__init__» noKeywords Builtin.Frozenset.updateFrom
          generalize hPI : pyIter = PI
          wp_walk
          subst hPI
          refine wpAny_pyIter_list il (wpAny_bind (wpAny_runValue ?_))
          refine codeAny_mono (fin _ _ _ hz rfl rfl rfl (Walks.list hh3 _ l hne items) ⟨⟨_, Heap.get?_push_size _ rfl, rfl, rfl⟩, il.push _⟩ (fun b o e => Heap.get?_push_of_some _ (up b o e)) (Heap.get?_push_of_some _ hS)) fun r s' ⟨h', tk, e1, e2, e3, e4⟩ => ?_
          subst e1; subst e2
          exact wpAny_pure (wpAny_pure ⟨rfl, h', tk, rfl, e3, e4⟩)
        · have k1 := F.sub_tuple_set
          have k2 := F.sub_tuple_frozenset
          have k3 : (Value.type "tuple" == Value.type "dict") = false := by decide
          have il : (s.heap.push (newS w)).IsTuple l items := ⟨_, hol, rfl, nn, rfl⟩
          unfold Builtin.«set.__init__» noKeywords Builtin.Frozenset.updateFrom
          generalize hPI : pyIter = PI
          wp_walk
          subst hPI
          refine wpAny_pyIter_tuple il (wpAny_bind (wpAny_runValue ?_))
          refine codeAny_mono (fin _ _ _ hz rfl rfl rfl (Walks.tuple hh3 _ l hne items) ⟨⟨_, Heap.get?_push_size _ rfl, rfl, rfl⟩, il.push _⟩ (fun b o e => Heap.get?_push_of_some _ (up b o e)) (Heap.get?_push_of_some _ hS)) fun r s' ⟨h', tk, e1, e2, e3, e4⟩ => ?_
          subst e1; subst e2
          exact wpAny_pure (wpAny_pure ⟨rfl, h', tk, rfl, e3, e4⟩)
      · cases r₂ with
        | error e => exact hr₂
        | ok fl₂ =>
          cases fl₂ with
          | ret r =>
            obtain ⟨rfl, h', tk, rfl, hZ, kp⟩ := hr₂
            repeat (any_goals (first | assumption | wp_step))
            exact h _ _ hZ kp
          | _ => exact hr₂.elim
    | _ => exact hr.elim

/-! ### the set's values -/
def SetV (w : World) (hp : Heap) (a : Addr) (vs : List Value) : Prop := ∃ (o : Obj) (es : Array (Int × Value)) (ep : Nat) (t : SetTable), hp.get? a = some o ∧ o.ExactSet ∧ o.data = .set es ep t ∧ es.toList.map (·.2) = vs ∧ es.size < scanBound ∧ t.fits es.size = true ∧ Ris t.place.toList ∧
  (w.params.followText "set-order" = true ∨ t.led = true)
theorem SetV.coll {a : Addr} {vs : List Value} {Q : List Value → Shared → Prop} (S : SetV w s.heap a vs) (hh : A.handled = none)
    (hQ : ∀ s' out, (∀ b o, s.heap.get? b = some o → s'.heap.get? b = some o) → s.heap.objs.size ≤ s'.heap.objs.size → s'.gens = s.gens → s'.os = s.os → out.Perm vs → Q out s') : wpAny (model P w) A (collect (.ref a)) Q E s := by
  obtain ⟨o, es, ep, t, h1, h2, h3, h4, h5, h6, h7, h8⟩ := S
  subst h4
  exact collect_set hh ⟨o, h1, h2.1, h3⟩ h6 h5 h7 h8 hQ
theorem SetV.len {a : Addr} {vs : List Value} {Q : Value → Shared → Prop} (S : SetV w s.heap a vs) (hQ : ∀ t tk, Q (.int vs.length t) { s with toks := tk }) : wpAny (model P w) A (call (.builtin "len") [.ref a]) Q E s := by
  obtain ⟨o, es, ep, t, h1, h2, h3, h4, h5, h6, h7, h8⟩ := S
  subst h4
  refine call_len_set h1 h2 h3 h6 (by unfold scanBound at h5; omega) ?_
  have e : (List.map (fun x : Int × Value => x.2) es.toList).length = es.size := by simp
  have q := hQ (s.toks + 1) (s.toks + 1 + 1)
  rw [e] at q
  exact q
/-- of ints -/
theorem fills_ints {items : Array Value} {ns : List Int} (hi : IntsAre items.toList ns) (hb : ns.length + 1 < scanBound) : Fills P w s.heap items (fun h => ∃ c, SetR w h s.heap.objs.size (fun j => decide (j ∈ ns)) c) := by
  intro A I l Stt s1 R hu W nS nI st k0 hn hR
  have hz : items.size = ns.length := by
    have q := IntsAre.length hi
    rw [Array.length_toList] at q
    exact q
  refine set_update_ints W s.heap.objs.size nS ns hz hb (fun i v hv => ?_) (items.size - 0) 0 s1 rfl (Nat.zero_le _) st ⟨0, Nat.le_refl 0, setR_new_at hn⟩ fun s' c hm _ hS => hR s' hm ⟨c, hS⟩ fun b o e => ?_
  · have il : i < ns.length := by rw [← hz]; exact (Array.getElem?_eq_some_iff.mp hv).1
    obtain ⟨t, e⟩ := PyProof.Rows.IntsAre.int_at hi i v (by rw [Array.getElem?_toList]; exact hv)
    refine ⟨ns[i], t, List.getElem?_eq_getElem il, ?_⟩
    rw [e, List.getD_eq_getElem?_getD, List.getElem?_eq_getElem il]
    rfl
  · refine hm.heap b o (fun z => ?_) (k0 b o e)
    rcases List.mem_cons.mp z with z | z
    · exact absurd (Heap.lt_size e) (by rw [z]; exact Nat.lt_irrefl _)
    · rw [List.mem_singleton.mp z, nI] at e; cases e
/-- of lots -/
theorem fills_lots {items : Array Value} {ks : Rw} (hi : items.toList = ks.map fun p => Value.ref p.1) (few : ∀ M : List (List Int), M.Nodup → (∀ q ∈ M, q ∈ ks.map (·.2)) → M.length ≤ 76) (hk : ∀ p ∈ ks, IsT P w s.heap p.2 p.1) :
    Fills P w s.heap items (fun h => ∃ L es ep t, LS P w h s.heap.objs.size L es ep t ∧ Has ks ks.length L) := by
  intro A I l Stt s1 R hu W nS nI st k0 hn hR
  have hz : items.size = ks.length := by
    have q := congrArg List.length hi
    rw [Array.length_toList, List.length_map] at q
    exact q
  refine lots_loop W s.heap.objs.size nS ks hz few (fun i v hv => ?_) s.heap hk (none_at (Nat.le_refl _)) (fun b hb => by rw [List.mem_singleton.mp hb]; exact nI) hu (items.size - 0) 0 s1 rfl (Nat.zero_le _) st k0 ⟨[], _, _, _, LS.fresh hn, (fun p hp => by cases hp), (fun p hp => by simp at hp)⟩ fun s' L es ep t hm hS g kp => hR s' hm ⟨L, es, ep, t, hS, hz ▸ g⟩ kp
  have q : items.toList[i]? = some v := by rw [Array.getElem?_toList]; exact hv
  rw [hi, List.getElem?_map] at q
  obtain ⟨p, hp, e⟩ := Option.map_eq_some_iff.mp q
  exact ⟨p, hp, e.symm⟩
end
end PL.ST
end
section
set_option Elab.async false
set_option linter.all false
set_option maxRecDepth 100000
set_option autoImplicit false
namespace PL
open PySem PySem.Spec L2 PL.ST
open PyProof.Rows hiding St

/-! ### sorted(set(xs)), len(set(xs)): of ints, of lots -/
/-- k holds of the items, each once, in any order -/
def SetD (d : D) (k : List D → Prop) : Prop :=
  (∃ ns : List Int, (d = .lst (ns.map .int) ∨ d = .tup (ns.map .int)) ∧ ns.length ≤ 4000 ∧ ∀ ms : List Int, ms.Nodup → (∀ x, x ∈ ms ↔ x ∈ ns) → k (ms.map .int)) ∨
  ∃ L : List (List Int), (d = .lst (L.map dLot) ∨ d = .tup (L.map dLot)) ∧ (∀ M : List (List Int), M.Nodup → (∀ q ∈ M, q ∈ L) → M.length ≤ 76) ∧ ∀ M : List (List Int), M.Nodup → (∀ q, q ∈ M ↔ q ∈ L) → k (M.map dLot)
/-- ints all, or lots all -/
def Keyd (ds : List D) : Prop := (∃ ms : List Int, ds = ms.map .int) ∨ ∃ M : List (List Int), ds = M.map dLot
theorem perm_map {α β : Type} {f : α → β} {l' m : List β} (h : l'.Perm m) : ∀ l : List α, m = l.map f → ∃ l2 : List α, l2.Perm l ∧ l' = l2.map f := by
  induction h with
  | nil => intro l e; exact ⟨l, .refl _, e⟩
  | cons x _ ih =>
    intro l e
    cases l with
    | nil => cases e
    | cons y l =>
      rw [List.map_cons] at e
      injection e with e1 e2
      obtain ⟨l2, p, q⟩ := ih l e2
      exact ⟨y :: l2, p.cons y, by rw [List.map_cons, e1, q]⟩
  | swap x y r =>
    intro l e
    match l, e with
    | a :: b :: l, e =>
      rw [List.map_cons, List.map_cons] at e
      injection e with e1 e2
      injection e2 with e2 e3
      exact ⟨b :: a :: l, .swap a b l, by rw [List.map_cons, List.map_cons, e1, e2, e3]⟩
  | trans _ _ ih1 ih2 =>
    intro l e
    obtain ⟨l2, p, q⟩ := ih2 l e
    obtain ⟨l3, p3, q3⟩ := ih1 l2 q
    exact ⟨l3, p3.trans p, q3⟩
theorem each_perm {α β : Type} {R : α → β → Prop} {out vs : List α} (h : out.Perm vs) : ∀ {ds : List β}, PySem.W.EachIs R vs ds → ∃ ds' : List β, ds'.Perm ds ∧ PySem.W.EachIs R out ds' := by
  induction h with
  | nil => intro ds e; exact ⟨ds, .refl _, e⟩
  | cons x _ ih =>
    intro ds e
    cases e with
    | cons r t => obtain ⟨d2, p, q⟩ := ih t; exact ⟨_ :: d2, p.cons _, .cons r q⟩
  | swap x y l =>
    intro ds e
    cases e with
    | cons r t =>
      cases t with
      | cons r2 t2 => exact ⟨_ :: _ :: _, .swap _ _ _, .cons r2 (.cons r t2)⟩
  | trans _ _ ih1 ih2 =>
    intro ds e
    obtain ⟨d2, p, q⟩ := ih2 e
    obtain ⟨d3, p3, q3⟩ := ih1 q
    exact ⟨d3, p3.trans p, q3⟩
theorem SetD.perm {d : D} {k : List D → Prop} (h : SetD d k) : SetD d fun ds => Keyd ds ∧ ∀ ds', ds'.Perm ds → k ds' := by
  rcases h with ⟨ns, a, b, h⟩ | ⟨L, a, b, h⟩
  · refine .inl ⟨ns, a, b, fun ms nd hm => ⟨.inl ⟨ms, rfl⟩, fun ds' p => ?_⟩⟩
    obtain ⟨l2, p2, rfl⟩ := perm_map p ms rfl
    exact h l2 (p2.nodup_iff.mpr nd) fun x => (p2.mem_iff).trans (hm x)
  · refine .inr ⟨L, a, b, fun ms nd hm => ⟨.inr ⟨ms, rfl⟩, fun ds' p => ?_⟩⟩
    obtain ⟨l2, p2, rfl⟩ := perm_map p ms rfl
    exact h l2 (p2.nodup_iff.mpr nd) fun x => (p2.mem_iff).trans (hm x)
section
variable {X : Cx} {c : Pc} {pins : List (Addr × Obj)} {σ : L2.St} {H : Hp} {s : Shared} {G : Gh}
theorem src {d : D} {xs : List D} {v : V} {u : Value} (I : Inv X pins σ H s) (co : Coh c.J G H) (hd : d = .lst xs ∨ d = .tup xs) (rd : Rep G d v) (rv : RelV v u) :
    ∃ (a : Addr) (T : String) (o : Obj) (its : Array Value) (n : Nat) (ws : List V), u = .ref a ∧ (T = "list" ∨ T = "tuple") ∧ s.heap.get? a = some o ∧ o.cls = .type T ∧ o.data = .seq its n ∧ Vals ws its.toList ∧ Reps G xs ws := by
  rcases hd with rfl | rfl
  · obtain ⟨a, ws, rfl, h1, r2, _⟩ := rd.sqL co
    obtain ⟨its, rw_, hl, hz⟩ := I.list (.inl (.inl h1))
    obtain ⟨o, ho, hc, n, hd⟩ := id hl.isList
    cases rv
    exact ⟨a, "list", o, its.toArray, n, ws, rfl, .inl rfl, ho, hc, hd, rw_, r2⟩
  · obtain ⟨a, ws, rfl, h1, r2, _⟩ := rd.sqT (K := X.K) co
    obtain ⟨its, rw_, hl, hz⟩ := I.tuple h1
    obtain ⟨o, ho, hc, n, hd⟩ := id hl
    cases rv
    exact ⟨a, "tuple", o, its.toArray, n, ws, rfl, .inr rfl, ho, hc, hd, rw_, r2⟩
theorem rows_rep : ∀ {L : List (List Int)} {ws : List V}, Reps G (L.map dLot) ws → ∃ ks : Rw, ws = ks.map (fun p => V.ref p.1) ∧ ks.map (·.2) = L ∧ ∀ p ∈ ks, G p.1 = some (.tup (p.2.map V.int)) ∧ Rep G (dLot p.2) (.ref p.1)
  | [], ws, h => by unfold Reps at h; exact ⟨[], h, rfl, fun p hp => nomatch hp⟩
  | q :: L, ws, h => by
    rw [List.map_cons] at h
    obtain ⟨v, r, rfl, h1, h2⟩ := h.uncons
    obtain ⟨ks, rfl, e2, h3⟩ := rows_rep h2
    have h1' := h1
    unfold dLot Rep at h1
    obtain ⟨a, vs, rfl, g, rs⟩ := h1
    have e := reps_ints rs
    subst e
    refine ⟨(a, q) :: ks, rfl, by rw [List.map_cons, e2], fun p hp => ?_⟩
    rcases List.mem_cons.mp hp with rfl | hp
    · exact ⟨g, h1'⟩
    · exact h3 p hp
theorem each_of_refs : ∀ {L : Rw}, (∀ p ∈ L, Rep G (dLot p.2) (.ref p.1)) → PySem.W.EachIs (fun u d => ∃ v, RelV v u ∧ Rep G d v) (L.map fun p => Value.ref p.1) ((L.map (·.2)).map dLot)
  | [], _ => .nil
  | p :: L, h => .cons ⟨.ref p.1, rfl, h p List.mem_cons_self⟩ (each_of_refs fun q hq => h q (List.mem_cons_of_mem _ hq))
theorem each_of_ints : ∀ {l : List (Int × Value)}, (∀ e ∈ l, GoodE e) → PySem.W.EachIs (fun u d => ∃ v, RelV v u ∧ Rep G d v) (l.map (·.2)) ((l.map keyOf).map D.int)
  | [], _ => .nil
  | e :: l, h => by
    obtain ⟨k, tk, h1, _⟩ := h e List.mem_cons_self
    have e2 : keyOf e = k := by unfold keyOf; rw [h1]
    refine .cons ⟨.int k, ?_, ?_⟩ (each_of_ints fun q hq => h q (List.mem_cons_of_mem _ hq))
    · exact ⟨tk, h1⟩
    · rw [e2]; exact rep_int k
theorem set_spec {d : D} {v : V} {u : Value} {k : List D → Prop} {Q : Value → Shared → Prop} {E : Value → Shared → Prop} (I : Inv X pins σ H s) (hc : X.calm = true) (hu : X.A.units + 64 < cLine) (co : Coh c.J G H) (rd : Rep G d v) (rv : RelV v u) (hk : SetD d k)
    (h : ∀ a vs ds s', SetV X.w s'.heap a vs → PySem.W.EachIs (fun u d => ∃ v, RelV v u ∧ Rep G d v) vs ds → k ds → Inv X pins σ H s' → Q (.ref a) s') : wpAny (model X.prog X.w) X.A (call (.type "set") [u]) Q E s := by
  rcases hk with ⟨ns, hd, hz, hk⟩ | ⟨L, hd, few, hk⟩
  · obtain ⟨a, T, o, its, n, ws, rfl, hT, ho, hcl, hda, rw_, rs⟩ := src I co hd rd rv
    have e := reps_ints rs
    subst e
    refine call_set hT ho hcl hda (I.ok.hd hc) (by omega) (fills_ints rw_.ints (by unfold scanBound; omega)) fun h' tk ⟨cc, hS⟩ kp => ?_
    obtain ⟨o2, es, ep, t, ho2, hx, hd2, g, nd, hm, hb, hf, hn, hr, hl⟩ := hS
    refine h s.heap.objs.size (es.toList.map (·.2)) ((es.toList.map keyOf).map D.int) _ ⟨o2, es, ep, t, ho2, hx, hd2, rfl, hb, hf, hr, hl⟩ (each_of_ints g) (hk _ nd fun x => ?_) (I.kept (t' := tk) kp)
    rw [← hm x]; exact decide_eq_true_iff
  · obtain ⟨a, T, o, its, n, ws, rfl, hT, ho, hcl, hda, rw_, rs⟩ := src I co hd rd rv
    obtain ⟨ks, rfl, rfl, hks⟩ := rows_rep rs
    have hkT : ∀ p ∈ ks, IsT X.prog X.w s.heap p.2 p.1 := fun p hp => I.isT (.inl (.inl (co p.1 _ (hks p hp).1)))
    refine call_set hT ho hcl hda (I.ok.hd hc) (by omega) (fills_lots (refs_of_vals rw_) few hkT) fun h' tk ⟨L, es, ep, t, R, g⟩ kp => ?_
    have sub : ∀ p ∈ L, p ∈ ks := fun p hp => List.mem_of_mem_take (g.1 p hp)
    obtain ⟨o2, ho2, hx, hd2⟩ := R.ob
    have e1 : es.toList.map (·.2) = L.map fun p => Value.ref p.1 := by
      rw [R.rs]
      unfold rowsOf
      rw [List.map_map]
      rfl
    have hz := R.sz
    have hr := R.rm
    have ml := mask_le R.tb.mok
    refine h s.heap.objs.size (L.map fun p => Value.ref p.1) ((L.map (·.2)).map dLot) _ ⟨o2, es, ep, t, ho2, hx, hd2, e1, by unfold scanBound; omega, R.fits, R.tb.ris, R.ld⟩ (each_of_refs fun p hp => (hks p (sub p hp)).2) (hk _ R.un fun q => ⟨fun hq => ?_, fun hq => ?_⟩) (I.kept (t' := tk) kp)
    · obtain ⟨p, hp, rfl⟩ := List.mem_map.mp hq
      exact List.mem_map.mpr ⟨p, sub p hp, rfl⟩
    · obtain ⟨p, hp, rfl⟩ := List.mem_map.mp hq
      exact g.2 p (by rw [List.take_length]; exact hp)
theorem alikes_keyd {ds : List D} (h : Keyd ds) : ds.all pl = true ∧ alikes ds ∧ ((∀ d ∈ ds, ∃ ys, d = .tup ys) ∨ ∀ d ∈ ds, toP d ≠ .none ∧ ∀ ys, toP d ≠ .tuple ys) ∧ ∀ d ∈ ds, dp d ≤ 60 := by
  rcases h with ⟨ms, rfl⟩ | ⟨M, rfl⟩
  · refine ⟨List.all_eq_true.mpr fun d hd => ?_, fun x hx y hy => ?_, .inr fun d hd => ?_, fun d hd => ?_⟩
    · obtain ⟨i, _, rfl⟩ := List.mem_map.mp hd; exact pl_int i
    · rw [List.map_map] at hx hy
      obtain ⟨i, _, rfl⟩ := List.mem_map.mp hx
      obtain ⟨j, _, rfl⟩ := List.mem_map.mp hy
      show PySem.W.alike (toP (.int i)) (toP (.int j)) = true
      rw [toP, toP]; rfl
    · obtain ⟨i, _, rfl⟩ := List.mem_map.mp hd
      rw [toP]; exact ⟨by simp, fun ys => by simp⟩
    · obtain ⟨i, _, rfl⟩ := List.mem_map.mp hd; rw [dp_int]; decide
  · refine ⟨all_pl pl_lot M, fun x hx y hy => ?_, .inl fun d hd => ?_, fun d hd => ?_⟩
    · rw [List.map_map] at hx hy
      obtain ⟨a, _, rfl⟩ := List.mem_map.mp hx
      obtain ⟨b, _, rfl⟩ := List.mem_map.mp hy
      exact alike_lot a b
    · obtain ⟨q, _, rfl⟩ := List.mem_map.mp hd; exact ⟨_, rfl⟩
    · obtain ⟨q, _, rfl⟩ := List.mem_map.mp hd; rw [dp_lot]; decide
theorem perm_keyd {ds ds' : List D} (p : ds'.Perm ds) (h : Keyd ds) : Keyd ds' := by
  rcases h with ⟨ms, rfl⟩ | ⟨M, rfl⟩
  · obtain ⟨l, _, e⟩ := perm_map p ms rfl; exact .inl ⟨l, e⟩
  · obtain ⟨l, _, e⟩ := perm_map p M rfl; exact .inr ⟨l, e⟩
end
section
variable {X : Cx} {c : Pc} {a : Expr} {f : WE} {p p2 q pos : Pos}
def wSortSet (f : WE) : WE := fun ρ P E => f ρ (fun r => SetD r.toD fun ds => P (.own (ds.mergeSort (PySem.W.dataLe false toP)))) E
def wLenSet (f : WE) : WE := fun ρ P E => f ρ (fun r => SetD r.toD fun ds => P (.val (.int ds.length))) E
theorem pd_sortSet (hu : X.A.units + 64 < cLine) (hc : X.calm = true) (hg : Gl X "sorted") (hm : X.mg "sorted" = none) (hg2 : Gl X "set") (hm2 : X.mg "set" = none) (ha : PE X a (tWE c f)) (na : starEach [a] X.env = (false, eval a X.env) :: starEach [] X.env := by rfl) :
    PE X (.Call (.Name "sorted" p) [.Call (.Name "set" p2) [a] [] q] [] pos) (tWE c (wSortSet f)) := by
  refine ⟨fun pins s σ H Q I ⟨G, ρ, P, E, co, sr, hf, hp, hx⟩ => ?_⟩
  refine Call_ (ld_blt I hg hm bt_sorted (PyProof.Rows.callWith_builtin1 (PyProof.Rows.args_cons ?_ rfl) rfl rfl))
  refine Call_ (ld_blt I hg2 hm2 bt_set (PyProof.Rows.callWith_type1 (PyProof.Rows.args_cons (thn ((pdD ha).run pins s σ H (fun v H1 => ∃ (r : R) (G1 : Gh), (SetD r.toD fun ds => P (.own (ds.mergeSort (PySem.W.dataLe false toP)))) ∧ Step c.J G H G1 H1 ∧ Rep G1 r.toD v) I (opnd co sr hx hf fun r pr v G1 H1 st rd _ _ _ => ⟨r, G1, pr, st, rd⟩)) fun u s1 ⟨x, H1, I1, r1, r, G1, pr, st, rd⟩ => PyProof.Rows.args_nil ?_) na) na rfl))
  have co1 := st.coh
  refine set_spec I1 hc hu co1 rd r1 pr.perm fun b vs ds s2 S er ⟨kd, hk⟩ I2 => PyProof.Rows.args_nil ?_
  refine PySem.W.sorted_from (enc := toP) (R := fun u d => ∃ v, RelV v u ∧ Rep G1 d v) (S.coll (A := X.A.in1) (I2.ok.hd hc) fun s3 out kp hle hg hos pm => ?_)
  obtain ⟨ds', pd, eo⟩ := each_perm pm er
  obtain ⟨kp1, kp2, kp3, kp4⟩ := alikes_keyd (perm_keyd pd kd)
  obtain ⟨ws, vr, rr⟩ := each_back eo
  have hlen : ds'.length ≤ sizeLine := by
    obtain ⟨o, es, ep, t, _, _, _, h4, h5, _⟩ := S
    have e1 := er.length
    rw [← h4, List.length_map, Array.length_toList] at e1
    unfold scanBound at h5
    rw [pd.length_eq, ← e1, sizeLine_eq]; omega
  obtain ⟨_, rd2⟩ := each_of I2 co1 rr vr kp1
  refine ⟨ds', rd2.mono fun _ _ ⟨as, r⟩ => ⟨as, PyProof.Rows.Reads.keeps kp r⟩, kp2, ?_, hlen, fun b hb => ?_, eo, fun s4 pp cc out2 k4 hg4 hos4 hle4 hp4 eo2 => ?_⟩
  · rcases kp3 with kp3 | kp3
    · exact .inl fun b hb => by obtain ⟨ys, rfl⟩ := kp3 b hb; exact ⟨_, toP_tup ys⟩
    · exact .inr kp3
  · have := kp4 b hb
    show _ + (toP b).depth < _
    unfold dp at this
    omega
  · obtain ⟨ws', r', rp'⟩ := each_back eo2
    have kall : ∀ b u, s2.heap.get? b = some u → s4.heap.get? b = some u := fun b u e => k4 b u (kp b u e)
    have hle0 : s2.heap.objs.size ≤ pp := Nat.le_trans hle hle4
    have hf0 : H1 pp = none := I2.hok.fresh hle0
    refine ⟨.ref pp, upd H1 pp (.lst ws'), newSome I2 kall (hg4.trans hg) (hos4.trans hos) hle0 ⟨?_, out2, cc, r', hp4⟩, rfl, hp _ (hk ds' pd) _ _ _ (st.trans (Step.newOwn c.jo co1 hf0)) (repR_own (st.dom c.jo hf0) (co1.fresh c.jo hf0) rp')⟩
    rw [← rp'.length, List.length_mergeSort]; exact hlen
theorem pd_lenSet (hu : X.A.units + 64 < cLine) (hc : X.calm = true) (hg : Gl X "len") (hm : X.mg "len" = none) (hg2 : Gl X "set") (hm2 : X.mg "set" = none) (ha : PE X a (tWE c f)) (na : starEach [a] X.env = (false, eval a X.env) :: starEach [] X.env := by rfl) :
    PE X (.Call (.Name "len" p) [.Call (.Name "set" p2) [a] [] q] [] pos) (tWE c (wLenSet f)) := by
  refine ⟨fun pins s σ H Q I ⟨G, ρ, P, E, co, sr, hf, hp, hx⟩ => ?_⟩
  refine Call_ (ld_blt I hg hm bt_len (PyProof.Rows.callWith_builtin1 (PyProof.Rows.args_cons ?_ rfl) rfl rfl))
  refine Call_ (ld_blt I hg2 hm2 bt_set (PyProof.Rows.callWith_type1 (PyProof.Rows.args_cons (thn ((pdD ha).run pins s σ H (fun v H1 => ∃ (r : R) (G1 : Gh), (SetD r.toD fun ds => P (.val (.int ds.length))) ∧ Step c.J G H G1 H1 ∧ Rep G1 r.toD v) I (opnd co sr hx hf fun r pr v G1 H1 st rd _ _ _ => ⟨r, G1, pr, st, rd⟩)) fun u s1 ⟨x, H1, I1, r1, r, G1, pr, st, rd⟩ => PyProof.Rows.args_nil ?_) na) na rfl))
  have co1 := st.coh
  refine set_spec I1 hc hu co1 rd r1 pr fun b vs ds s2 S er hk I2 => PyProof.Rows.args_nil ?_
  refine S.len fun t tk => ⟨.int ds.length, H1, I2.tok tk, ⟨t, by rw [er.length]⟩, hp _ hk _ _ _ st rr_int⟩
end
end PL
end
section
set_option Elab.async false
set_option linter.all false
set_option maxRecDepth 100000
set_option autoImplicit false
namespace PL
open PySem PySem.Spec L2 PL.ST
open PyProof.Rows hiding St

/-! ### min(xs), max(xs) of any data -/
def bestW (best : PyData → List PyData → PyData) : CallW := fun ds P => ∃ x xs, (ds = [.lst (x :: xs)] ∨ ds = [.tup (x :: xs)]) ∧ (x :: xs).all pl = true ∧ alikes (x :: xs) ∧ (∀ d ∈ x :: xs, dp d ≤ 60 ∧ toP d ≠ .none) ∧ ∀ m ∈ x :: xs, toP m = best (toP x) (toPs xs) → P (.val m)
abbrev minDW : CallW := bestW PySem.W.minD
abbrev maxDW : CallW := bestW PySem.W.maxD
section
variable {X : Cx} {c : Pc}
theorem depth_le {n : Nat} : ∀ {xs : List D}, (∀ d ∈ xs, dp d ≤ n) → PyData.depthAll (toPs xs) ≤ n
  | [], _ => by unfold toPs PyData.depthAll; exact Nat.zero_le _
  | x :: xs, h => by
    unfold toPs PyData.depthAll
    exact Nat.max_le.mpr ⟨h x List.mem_cons_self, depth_le fun d hd => h d (List.mem_cons_of_mem _ hd)⟩
theorem best_of {name : String} {best : PyData → List PyData → PyData} (go : ∀ {s : Shared} {l : Addr} {vs : Array Value} {x : PyData} {xs : List PyData} {as : List Addr} {Q : Value → Shared → Prop}, X.A.handled = none → (s.heap.IsList l vs ∨ s.heap.IsTuple l vs) → PySem.ReadsAll s.heap vs.toList (x :: xs) as → PySem.W.AlikeAll (x :: xs) →
      X.A.units + 1 + PyData.depthAll (x :: xs) < cLine → (∀ (i : Nat) v h' tk bs, vs[i]? = some v → PySem.Reads h' v (best x xs) bs → (∀ b o, s.heap.get? b = some o → h'.get? b = some o) → Q v { s with heap := h', toks := tk }) →
      wpAny (model X.prog X.w) X.A (call (.builtin name) [.ref l]) Q X.xe s) (hc : X.calm = true) (hu : X.A.units + 64 < cLine) : CallR X (.builtin name) (rOf c (bestW best)) := by
  intro pins s σ H vs us Q I rv ⟨G, ds, P, co, rs, ⟨x, xs, hd, hpl, hal, hdp, hp⟩, k⟩
  obtain ⟨d, hd1, hd2⟩ : ∃ d, ds = [d] ∧ (d = .lst (x :: xs) ∨ d = .tup (x :: xs)) := by rcases hd with e | e; exact ⟨_, e, .inl rfl⟩; exact ⟨_, e, .inr rfl⟩
  subst hd1
  obtain ⟨v, rfl, r1⟩ := rs.one
  obtain ⟨u, rfl, ru⟩ := vals1 rv
  obtain ⟨a, T, o, its, n, ws, rfl, hT, ho, hcl, hda, rw_, rxs⟩ := src I co hd2 r1 ru
  obtain ⟨as, ra⟩ := Dp.readsAll I (toPs (x :: xs)) _ _ (Reps.dp co _ _ rxs (plainAll_all _ hpl)) rw_
  have hl : s.heap.IsList a its ∨ s.heap.IsTuple a its := by rcases hT with rfl | rfl; exact .inl ⟨o, ho, hcl, n, hda⟩; exact .inr ⟨o, ho, hcl, n, hda⟩
  have dl := depth_le fun d hd => (hdp d hd).1
  rw [toPs] at ra dl
  refine go (I.ok.hd hc) hl ra ⟨by rw [← toPs, toPs_map]; exact hal, by rw [← toPs, toPs_map]; intro y hy; obtain ⟨d, hd, rfl⟩ := List.mem_map.mp hy; exact (hdp d hd).2⟩ (by omega) fun i v h' tk bs hv rd kp => ?_
  have hv' : its.toList[i]? = some v := by rw [Array.getElem?_toList]; exact hv
  obtain ⟨w, hw⟩ : ∃ w, ws[i]? = some w := by
    cases q : ws[i]? with
    | none => have z := rw_.none_of q; rw [hv'] at z; cases z
    | some w => exact ⟨w, rfl⟩
  obtain ⟨v', hv2, rwv⟩ := rw_.get hw
  rw [hv'] at hv2; cases hv2
  obtain ⟨m, hm, rm⟩ := rxs.get' hw
  have mm := List.mem_of_getElem? hm
  obtain ⟨as2, rd2⟩ := Dp.reads I (toP m) w v (Rep.dp co m w rm (List.all_eq_true.mp hpl m mm)) rwv
  have e := (PySem.Reads.unique (PyProof.Rows.Reads.keeps kp rd2) _ _ rd).1
  exact ⟨w, H, I.kept (t' := tk) kp, rwv, k _ (hp m mm e) w G H (Step.refl co) rm⟩
theorem cr_minD (hc : X.calm = true) (hu : X.A.units + 64 < cLine) : CallR X (.builtin "min") (rOf c minDW) :=
  best_of (fun hh hl hr ha hu h => hl.elim (fun hl => PySem.W.min_list_data hh hl hr ha hu h) (fun hl => PySem.W.min_tuple_data hh hl hr ha hu h)) hc hu
theorem cr_maxD (hc : X.calm = true) (hu : X.A.units + 64 < cLine) : CallR X (.builtin "max") (rOf c maxDW) :=
  best_of (fun hh hl hr ha hu h => hl.elim (fun hl => PySem.W.max_list_data hh hl hr ha hu h) (fun hl => PySem.W.max_tuple_data hh hl hr ha hu h)) hc hu
abbrev minB : CallW := fun ds P => minW ds P ∨ minDW ds P
abbrev maxB : CallW := fun ds P => maxW ds P ∨ maxDW ds P
theorem cr_minB (hc : X.calm = true) (hu : X.A.units + 64 < cLine) : CallR X (.builtin "min") (fun vs H Q => rMin X.K vs H Q ∨ rOf c minDW vs H Q) := (cr_min hc).or (cr_minD hc hu)
theorem cr_maxB (hc : X.calm = true) (hu : X.A.units + 64 < cLine) : CallR X (.builtin "max") (fun vs H Q => rMax X.K vs H Q ∨ rOf c maxDW vs H Q) := (cr_max hc).or (cr_maxD hc hu)
theorem ok_minB : CallOk c (fun vs H Q => rMin X.K vs H Q ∨ rOf c minDW vs H Q) minB := CallOk.or ok_min ok_rOf
theorem ok_maxB : CallOk c (fun vs H Q => rMax X.K vs H Q ∨ rOf c maxDW vs H Q) maxB := CallOk.or ok_max ok_rOf
end
end PL
end
section
set_option Elab.async false
set_option linter.all false
set_option maxRecDepth 100000
namespace PL.C
open PySem PySem.Spec L2 PL
open PyProof.Rows hiding St
variable {P : R → Prop} {E : XP}
section
variable {i : Nat} {f g : WE} {k : WEnds} {ρ : Rho}
@[simp] theorem u_ext : wExt i f k E ρ = ∃ ds, ρ[i]? = some (some (.own ds)) ∧ f ρ (fun r => ∃ es, r.toD = .lst es ∧ ds.length + es.length ≤ sizeLine ∧ k.nx (ρ.set i (some (.own (ds ++ es))))) E := rfl
@[simp] theorem u_sortSet : wSortSet f ρ P E = f ρ (fun r => SetD r.toD fun ds => P (.own (ds.mergeSort (PySem.W.dataLe false toP)))) E := rfl
@[simp] theorem u_lenSet : wLenSet f ρ P E = f ρ (fun r => SetD r.toD fun ds => P (.val (.int ds.length))) E := rfl
@[simp] theorem u_rng2 {Q : List D → Prop} : wRange2 f g ρ Q E = wArgs [f, g] ρ [] (fun ds => ∃ i j : Int, ds = [.int i, .int j] ∧ -16777216 ≤ i ∧ i ≤ 16777216 ∧ -16777216 ≤ j ∧ j ≤ 16777216 ∧ j - i ≤ 16777216 ∧ Q (rangeD i (j - i).toNat)) E := rfl
end
/-! ### sets -/
theorem map_sortInts (ms : List Int) : (ms.map D.int).mergeSort (PySem.W.dataLe false toP) = (ms.mergeSort fun a b => decide (a ≤ b)).map D.int := by
  rw [List.map_mergeSort]
  intro a _ b _
  rw [PySem.W.dataLe_eq]
  show _ = !PySem.W.dataLt (toP (.int b)) (toP (.int a))
  rw [toP, toP, PySem.W.dataLt_int]
  by_cases h : a ≤ b
  · simp [h, Int.not_lt.mpr h]
  · simp [h, Int.not_le.mp h]
theorem sortInts_asc {ms : List Int} (nd : ms.Nodup) : (ms.mergeSort fun a b => decide (a ≤ b)).Pairwise (· < ·) := by
  have p := List.mergeSort_perm ms fun a b => decide (a ≤ b)
  have h1 : (ms.mergeSort fun a b => decide (a ≤ b)).Pairwise fun a b => decide (a ≤ b) = true := List.pairwise_mergeSort (fun a b c h h' => by simp at h h' ⊢; omega) (fun a b => by simp; omega) ms
  refine (h1.and (p.nodup_iff.mpr nd)).imp fun {a b} ⟨h, n⟩ => ?_
  simp at h
  exact Int.lt_iff_le_and_ne.mpr ⟨h, n⟩
theorem asc_ext_int {l m : List Int} (h : l.Pairwise (· < ·)) (h' : m.Pairwise (· < ·)) (e : ∀ x, x ∈ l ↔ x ∈ m) : l = m := by
  refine List.Perm.eq_of_pairwise (le := (· < ·)) (fun a b _ _ h1 h2 => by omega) h h' ?_
  exact (List.perm_ext_iff_of_nodup (h.imp fun h e => by omega) (h'.imp fun h e => by omega)).mpr e
theorem v_setInts {ns : List Int} (hz : ns.length ≤ 4000) {d : D} (hd : d = .lst (ns.map .int) ∨ d = .tup (ns.map .int)) (h : ∀ ms : List Int, ms.Pairwise (· < ·) → (∀ x, x ∈ ms ↔ x ∈ ns) → P (.own (ms.map .int))) :
    SetD d fun ds => P (.own (ds.mergeSort (PySem.W.dataLe false toP))) := .inl ⟨ns, hd, hz, fun ms nd hm => by
  show P (.own ((ms.map D.int).mergeSort _))
  rw [map_sortInts]
  exact h _ (sortInts_asc nd) fun x => ((List.mergeSort_perm ms _).mem_iff).trans (hm x)⟩
theorem v_setLots {n : Nat} (hn : n ≤ 6) {L : List (List Int)} (hL : ∀ q ∈ L, LOk n q) {d : D} (hd : d = .lst (L.map dLot) ∨ d = .tup (L.map dLot)) (h : ∀ M : List (List Int), M.Pairwise (fun a b => lexB a b = true) → (∀ q, q ∈ M ↔ q ∈ L) → P (.own (M.map dLot))) :
    SetD d fun ds => P (.own (ds.mergeSort (PySem.W.dataLe false toP))) := .inr ⟨L, hd, fun M nd hM => by
    have h1 := lots_le (n := n) (fun q hq => hL q (hM q hq)) nd
    have h2 : 2 ^ n ≤ 2 ^ 6 := Nat.pow_le_pow_right (by decide) hn
    omega, fun M nd hm => by
  show P (.own ((M.map dLot).mergeSort _))
  rw [map_mergeSort_lots]
  exact h _ (srt_asc nd) fun q => mem_srt.trans (hm q)⟩
/-! ### texts of data, ints of either sign within -/
mutual
def okG : D → Bool
  | .non => true
  | .bl _ => true
  | .int i => decide (i.natAbs < 1000000000)
  | .str x => decide ((PyData.str x).shown.length ≤ 16)
  | .tup xs => okGs xs
  | .lst xs => okGs xs
  | _ => false
def okGs : List D → Bool
  | [] => true
  | x :: xs => okG x && okGs xs
end
theorem okGs_cons {x : D} {xs : List D} (h : okGs (x :: xs) = true) : okG x = true ∧ okGs xs = true := by unfold okGs at h; exact Bool.and_eq_true_iff.mp h
mutual
def wg : D → Nat
  | .tup xs => wgs xs + 4
  | .lst xs => wgs xs + 4
  | _ => 16
def wgs : List D → Nat
  | [] => 0
  | x :: xs => wg x + 2 + wgs xs
end
theorem len_intG (i : Int) (h : i.natAbs < 1000000000) : (Str.ofString (toString i)).length ≤ 16 := by
  cases i with
  | ofNat n =>
    have := PyProof.Rows.toString_length_le (v := (n : Int)) (k := 9) (by omega) (by decide) (by simp at h; omega)
    exact Nat.le_trans this (by decide)
  | negSucc n =>
    have h2 := PyProof.Rows.toString_length_le (v := ((n + 1 : Nat) : Int)) (k := 9) (by omega) (by decide) (by simp at h; omega)
    rw [PySem.ofString_length] at h2 ⊢
    have e : toString (Int.negSucc n) = "-" ++ toString ((n + 1 : Nat) : Int) := rfl
    rw [e]
    have e0 : ("-" : String).length = 1 := rfl
    simp at h2 ⊢
    omega
mutual
theorem okG_no : ∀ d : D, okG d = true → noObj d = true
  | .non, _ => by unfold noObj; rfl
  | .bl _, _ => by unfold noObj; rfl
  | .int _, _ => by unfold noObj; rfl
  | .str _, _ => by unfold noObj; rfl
  | .tup xs, h => by unfold okG at h; unfold noObj; exact okGs_no xs h
  | .lst xs, h => by unfold okG at h; unfold noObj; exact okGs_no xs h
  | .dct _ _, h => by unfold okG at h; cases h
  | .obj _ _, h => by unfold okG at h; cases h
  | .raw _ _ _, h => by unfold okG at h; cases h
theorem okGs_no : ∀ xs : List D, okGs xs = true → noObjs xs = true
  | [], _ => by unfold noObjs; rfl
  | x :: xs, h => by
    obtain ⟨h1, h2⟩ := okGs_cons h
    unfold noObjs
    rw [okG_no x h1, okGs_no xs h2]; rfl
end
mutual
theorem okG_sh : ∀ d : D, okG d = true → (toR d).showable = true
  | .non, _ => by rw [toR]; rfl
  | .bl _, _ => by rw [toR]; rfl
  | .int i, h => by
    unfold okG at h
    have h := of_decide_eq_true h
    rw [toR, PyData.showable]
    have : i.natAbs < 2 ^ 1920 := Nat.lt_of_lt_of_le (show i.natAbs < 2 ^ 30 by omega) (Nat.pow_le_pow_right (by decide) (by decide))
    by_cases h0 : i.natAbs = 0
    · rw [h0]; decide
    · exact decide_eq_true ((Nat.log2_lt h0).mpr this)
  | .str _, _ => by rw [toR, PyData.showable]
  | .tup xs, h => by unfold okG at h; rw [toR, PyData.showable]; exact okGs_sh xs h
  | .lst xs, h => by unfold okG at h; rw [toR, PyData.showable]; exact okGs_sh xs h
  | .dct _ _, h => by unfold okG at h; cases h
  | .obj _ _, h => by unfold okG at h; cases h
  | .raw _ _ _, h => by unfold okG at h; cases h
theorem okGs_sh : ∀ xs : List D, okGs xs = true → PyData.showableAll (toRs xs) = true
  | [], _ => by rw [toRs, PyData.showableAll]
  | x :: xs, h => by
    obtain ⟨h1, h2⟩ := okGs_cons h
    rw [toRs, PyData.showableAll, okG_sh x h1, okGs_sh xs h2]; rfl
end
mutual
theorem shownG_len : ∀ d : D, okG d = true → (toR d).shown.length ≤ wg d
  | .non, _ => by rw [toR, PyData.shown]; decide
  | .bl b, _ => by rw [toR, PyData.shown]; cases b <;> decide
  | .int i, h => by
    unfold okG at h
    rw [toR, PyData.shown]
    exact len_intG i (of_decide_eq_true h)
  | .str x, h => by unfold okG at h; rw [toR]; exact of_decide_eq_true h
  | .tup xs, h => by
    unfold okG at h
    rw [toR, PyData.shown]
    unfold tupleText wg
    have h1 := join_len (PyData.shownAll (toRs xs))
    have h2 := shownGs_len xs h
    rw [strLen_append, strLen_append]
    have e1 : (("(" : String) : Str).length = 1 := rfl
    have e2 : ((if (PyData.shownAll (toRs xs)).length == 1 then ",)" else ")" : String) : Str).length ≤ 2 := by
      split
      · exact Nat.le_of_eq rfl
      · exact Nat.le_of_ble_eq_true rfl
    omega
  | .lst xs, h => by
    unfold okG at h
    rw [toR, PyData.shown]
    unfold listText wg
    have h1 := textFrom_le (PyData.shownAll (toRs xs)) 0 "["
    have h2 := shownGs_len xs h
    rw [strLen_append]
    have e1 : (("[" : String) : Str).length = 1 := rfl
    have e2 : (("]" : String) : Str).length = 1 := rfl
    omega
  | .dct _ _, h => by unfold okG at h; cases h
  | .obj _ _, h => by unfold okG at h; cases h
  | .raw _ _ _, h => by unfold okG at h; cases h
theorem shownGs_len : ∀ xs : List D, okGs xs = true → ((PyData.shownAll (toRs xs)).map fun t => t.length + 2).sum ≤ wgs xs
  | [], _ => by rw [toRs, PyData.shownAll]; exact Nat.le_refl _
  | x :: xs, h => by
    obtain ⟨h1, h2⟩ := okGs_cons h
    have a := shownG_len x h1
    have b := shownGs_len xs h2
    rw [toRs, PyData.shownAll, List.map_cons, List.sum_cons]
    unfold wgs
    omega
end
/-- shown within bounds -/
structure GoodG (m w : Nat) (d : D) : Prop where
  ok : okG d = true
  dp : (toR d).depth ≤ m
  wt : wg d ≤ w
theorem v_reprG {d : D} {m w : Nat} (g : GoodG m w d) (hm : m ≤ 60) (hw : w ≤ 1000000) (h : P (.val (.str (shownD d)))) : reprW [d] P := by
  refine ⟨d, rfl, okG_no d g.ok, okG_sh d g.ok, Nat.le_trans g.dp hm, ?_, h⟩
  have := shownG_len d g.ok
  have := g.wt
  unfold shownD
  rw [sizeLine_eq]; omega
theorem GoodG.mono {m w m' w' : Nat} {d : D} (b : GoodG m w d) (hm : m ≤ m') (hw : w ≤ w') : GoodG m' w' d := ⟨b.ok, Nat.le_trans b.dp hm, Nat.le_trans b.wt hw⟩
theorem okGs_of {xs : List D} (h : ∀ x ∈ xs, okG x = true) : okGs xs = true := by
  induction xs with
  | nil => unfold okGs; rfl
  | cons x xs ih => unfold okGs; rw [h x List.mem_cons_self, ih fun y hy => h y (List.mem_cons_of_mem _ hy)]; rfl
theorem wgs_of {xs : List D} {n : Nat} (h : ∀ x ∈ xs, wg x ≤ n) : wgs xs ≤ xs.length * (n + 2) := by
  induction xs with
  | nil => unfold wgs; exact Nat.zero_le _
  | cons x xs ih =>
    have a := h x List.mem_cons_self
    have b := ih fun y hy => h y (List.mem_cons_of_mem _ hy)
    unfold wgs
    rw [List.length_cons, Nat.succ_mul]
    omega
theorem goodG_tup {m w l : Nat} {xs : List D} (h : ∀ x ∈ xs, GoodG m w x) (hl : xs.length ≤ l) : GoodG (m + 1) (l * (w + 2) + 4) (.tup xs) := by
  refine ⟨by unfold okG; exact okGs_of fun x hx => (h x hx).ok, ?_, ?_⟩
  · rw [toR, PyData.depth]; exact Nat.succ_le_succ (depth_of fun x hx => (h x hx).dp)
  · unfold wg
    have a := wgs_of fun x hx => (h x hx).wt
    have b := Nat.mul_le_mul_right (w + 2) hl
    omega
theorem goodG_lst {m w l : Nat} {xs : List D} (h : ∀ x ∈ xs, GoodG m w x) (hl : xs.length ≤ l) : GoodG (m + 1) (l * (w + 2) + 4) (.lst xs) := by
  refine ⟨by unfold okG; exact okGs_of fun x hx => (h x hx).ok, ?_, ?_⟩
  · rw [toR, PyData.depth]; exact Nat.succ_le_succ (depth_of fun x hx => (h x hx).dp)
  · unfold wg
    have a := wgs_of fun x hx => (h x hx).wt
    have b := Nat.mul_le_mul_right (w + 2) hl
    omega
theorem goodG_int {i : Int} (h : i.natAbs < 1000000000) : GoodG 0 16 (.int i) := ⟨by unfold okG; exact decide_eq_true h, by rw [toR, PyData.depth]; exact Nat.le_refl _, Nat.le_refl _⟩
theorem goodG_non : GoodG 0 16 .non := ⟨rfl, by rw [toR, PyData.depth]; exact Nat.le_refl _, Nat.le_refl _⟩
theorem goodG_str {x : Str} (h : (PyData.str x).shown.length ≤ 16) : GoodG 0 16 (.str x) := ⟨by unfold okG; exact decide_eq_true h, by rw [toR]; exact Nat.le_refl _, Nat.le_refl _⟩
theorem goodG_bl (b : Bool) : GoodG 0 16 (.bl b) := ⟨rfl, by rw [toR, PyData.depth]; exact Nat.le_refl _, Nat.le_refl _⟩
end PL.C
end
section
set_option Elab.async false
set_option linter.all false
set_option maxRecDepth 100000
set_option maxHeartbeats 0
namespace PL.C
open PySem PySem.Spec L2 PL
open PyProof.Rows hiding St
def b_draw1 : WS :=
  (wHandIf 0 2 (wThen (wHPut 0 1 (wBin addW (wBin handIxW (wVar 0) (wC (.int 1))) (wC (.int 1))))
  (wThen (wHPut 0 3 (wBin modW (wCallB intW [(wBin addW (wBin addW (wBin mulW (wBin handIxW (wVar 0) (wC (.int 3))) (wC (.int 48271))) (wBin mulW (wVar 2) (wC (.int 5)))) (wC (.int 29)))]) (wC (.int 2147483587))))
  (wHPut 0 2 (wIf (wTst (wBin wGe (wVar 2) (wBin powW (wC (.int 10)) (wC (.int 18))))) (wVar 2) (wC (.int 0)))))))
def b_draw2 : WS :=
  (wThen (wIfS (wTst (wBin wGt (wBin handIxW (wVar 0) (wC (.int 2))) (wC (.int 0)))) (wThen (wSet 3 (wBin modW (wCallB intW [(wBin handIxW (wVar 0) (wC (.int 2)))]) (wVar 1)))
  (wThen (wHPut 0 2 (wBin fdivW (wBin handIxW (wVar 0) (wC (.int 2))) (wVar 1)))
  (wRet (wVar 3)))) wSkip)
  (wThen (wHPut 0 4 (wBin addW (wBin handIxW (wVar 0) (wC (.int 4))) (wC (.int 1))))
  (wThen (wSet 4 (wBin modW (wCallB intW [(wBin mulW (wCallB intW [(wBin addW (wBin handIxW (wVar 0) (wC (.int 3))) (wBin mulW (wC (.int 7877)) (wBin handIxW (wVar 0) (wC (.int 4)))))]) (wC (.int 69621)))]) (wC (.int 2147483647))))
  (wThen (wSet 4 (wBin modW (wCallB intW [(wBin mulW (wVar 4) (wBin addW (wBin fdivW (wVar 4) (wC (.int 1103))) (wC (.int 40692))))]) (wC (.int 2147483399))))
  (wThen (wSet 4 (wBin modW (wCallB intW [(wBin mulW (wVar 4) (wBin addW (wBin fdivW (wVar 4) (wC (.int 2311))) (wC (.int 48271))))]) (wC (.int 2147483629))))
  (wRet (wBin modW (wCallB intW [(wBin fdivW (wVar 4) (wC (.int 16)))]) (wVar 1))))))))
def b__law_draw : WS := wThen b_draw1 b_draw2
def m__law_draw : MW := mOf 5 b__law_draw
def b__law_some : WS :=
  (wRet (wBin ixW (wVar 1) (wCall m__law_draw [(wVar 0), (wCallB lenW [(wVar 1)])])))
def m__law_some : MW := mOf 2 b__law_some
def b_draw1B : WS :=
  (wHandIf 0 2 (wThen (wHPut 0 1 (wBin addW (wBin handIxW (wVar 0) (wC (.int 1))) (wC (.int 1))))
  (wThen (wHPut 0 3 (wBin modW (wCallB intW [(wBin addW (wBin addW (wBin mulW (wBin handIxW (wVar 0) (wC (.int 3))) (wC (.int 69621))) (wVar 2)) (wC (.int 11)))]) (wC (.int 2147483629))))
  (wIfS (wTst (wBin wGe (wVar 2) (wBin powW (wC (.int 10)) (wC (.int 18))))) (wHPut 0 2 (wVar 2)) wSkip))))
def b_draw2B : WS :=
  (wThen (wIfS (wTst (wBin wGt (wBin handIxW (wVar 0) (wC (.int 2))) (wC (.int 0)))) (wThen (wSet 3 (wBin modW (wCallB intW [(wBin handIxW (wVar 0) (wC (.int 2)))]) (wVar 1)))
  (wThen (wHPut 0 2 (wBin fdivW (wBin handIxW (wVar 0) (wC (.int 2))) (wVar 1)))
  (wRet (wVar 3)))) wSkip)
  (wThen (wHPut 0 4 (wBin addW (wBin handIxW (wVar 0) (wC (.int 4))) (wC (.int 1))))
  (wThen (wSet 4 (wBin modW (wCallB intW [(wBin mulW (wCallB intW [(wBin addW (wBin handIxW (wVar 0) (wC (.int 3))) (wBin mulW (wC (.int 7919)) (wBin handIxW (wVar 0) (wC (.int 4)))))]) (wC (.int 48271)))]) (wC (.int 2147483647))))
  (wThen (wSet 4 (wBin modW (wCallB intW [(wBin mulW (wVar 4) (wBin addW (wBin fdivW (wVar 4) (wC (.int 1009))) (wC (.int 69621))))]) (wC (.int 2147483647))))
  (wThen (wSet 4 (wBin modW (wCallB intW [(wBin mulW (wVar 4) (wBin addW (wBin fdivW (wVar 4) (wC (.int 2003))) (wC (.int 40692))))]) (wC (.int 2147483399))))
  (wRet (wBin modW (wCallB intW [(wBin fdivW (wVar 4) (wC (.int 16)))]) (wVar 1))))))))
def b__law_drawB : WS := wThen b_draw1B b_draw2B
def m__law_drawB : MW := mOf 5 b__law_drawB
def b__law_someB : WS :=
  (wRet (wBin ixW (wVar 1) (wCall m__law_drawB [(wVar 0), (wCallB lenW [(wVar 1)])])))
def m__law_someB : MW := mOf 2 b__law_someB
def b_draw1C : WS :=
  (wHandIf 0 2 (wThen (wHPut 0 1 (wBin addW (wBin handIxW (wVar 0) (wC (.int 1))) (wC (.int 1))))
  (wThen (wHPut 0 3 (wBin modW (wCallB intW [(wBin addW (wBin addW (wBin mulW (wBin handIxW (wVar 0) (wC (.int 3))) (wC (.int 69621))) (wVar 2)) (wC (.int 29)))]) (wC (.int 2147483629))))
  (wIfS (wTst (wBin wGe (wVar 2) (wBin powW (wC (.int 10)) (wC (.int 18))))) (wHPut 0 2 (wVar 2)) wSkip))))
def b_draw2C : WS :=
  (wThen (wIfS (wTst (wBin wGt (wBin handIxW (wVar 0) (wC (.int 2))) (wC (.int 0)))) (wThen (wSet 3 (wBin modW (wCallB intW [(wBin handIxW (wVar 0) (wC (.int 2)))]) (wVar 1)))
  (wThen (wHPut 0 2 (wBin fdivW (wBin handIxW (wVar 0) (wC (.int 2))) (wVar 1)))
  (wRet (wVar 3)))) wSkip)
  (wThen (wHPut 0 4 (wBin addW (wBin handIxW (wVar 0) (wC (.int 4))) (wC (.int 1))))
  (wThen (wSet 4 (wBin modW (wCallB intW [(wBin mulW (wCallB intW [(wBin addW (wBin handIxW (wVar 0) (wC (.int 3))) (wBin mulW (wC (.int 7919)) (wBin handIxW (wVar 0) (wC (.int 4)))))]) (wC (.int 48271)))]) (wC (.int 2147483647))))
  (wThen (wSet 4 (wBin modW (wCallB intW [(wBin mulW (wVar 4) (wBin addW (wBin fdivW (wVar 4) (wC (.int 1009))) (wC (.int 69621))))]) (wC (.int 2147483647))))
  (wThen (wSet 4 (wBin modW (wCallB intW [(wBin mulW (wVar 4) (wBin addW (wBin fdivW (wVar 4) (wC (.int 2003))) (wC (.int 40692))))]) (wC (.int 2147483399))))
  (wRet (wBin modW (wCallB intW [(wBin fdivW (wVar 4) (wC (.int 16)))]) (wVar 1))))))))
def b__law_drawC : WS := wThen b_draw1C b_draw2C
def m__law_drawC : MW := mOf 5 b__law_drawC
def b__law_someC : WS :=
  (wRet (wBin ixW (wVar 1) (wCall m__law_drawC [(wVar 0), (wCallB lenW [(wVar 1)])])))
def m__law_someC : MW := mOf 2 b__law_someC
def b_sum_of : WS :=
  (wRet (wCallB sumW [(wLc [1, 2] (wSeq (wVar 0)) (wgName 2) wYes (wBin shlW (wC (.int 1)) (wVar 2)))]))
def m_sum_of : MW := mOf 3 b_sum_of
def b_lot_of : WS :=
  (wThen (wPar 1 2 (wLst []) (wVal (wC (.int 0))))
  (wThen (wWhile (wTst (wBin wGt (wVar 0) (wC (.int 0)))) (wThen (wIfS (wTst (wBin eqW (wBin modW (wVar 0) (wC (.int 2))) (wC (.int 1)))) (wApp 1 (wVar 2)) wSkip)
  (wPar 0 2 (wVal (wBin fdivW (wVar 0) (wC (.int 2)))) (wVal (wBin addW (wVar 2) (wC (.int 1)))))))
  (wFrz 1 (wRet (wCallB tupleW [(wVar 1)])))))
def m_lot_of : MW := mOf 3 b_lot_of
def b_lots_of : WS :=
  (wRet (wLc [1, 2] (wRange1 (wBin shlW (wC (.int 1)) (wVar 0))) (wgName 2) wYes (wCall m_lot_of [(wVar 2)])))
def m_lots_of : MW := mOf 3 b_lots_of
def b_common_of : WS :=
  (wRet (wCallB tupleW [(wLc [2, 3] (wSeq (wVar 0)) (wgName 3) (wTst (wBin (wInB false) (wVar 3) (wVar 1))) (wVar 3))]))
def m_common_of : MW := mOf 4 b_common_of
def b_together_of : WS :=
  (wRet (wCallB tupleW [(wSortSet (wBin addW (wVar 0) (wVar 1)))]))
def m_together_of : MW := mOf 2 b_together_of
def b_made : WS :=
  (wRet (wFamily FamOk [(wVar 0), (wCallB tupleW [(wSortSet (wVar 1))])]))
def m_made : MW := mOf 2 b_made
def b_rest_of : WS :=
  (wRet (wCallB tupleW [(wLc [2, 3] (wRange1 (wVar 0)) (wgName 3) (wTst (wBin (wInB true) (wVar 3) (wVar 1))) (wVar 3))]))
def m_rest_of : MW := mOf 4 b_rest_of
def b_with_one : WS :=
  (wRet (wCallB tupleW [(wCallB sortW [(wBin addW (wVar 0) (wTup [(wVar 1)]))])]))
def m_with_one : MW := mOf 2 b_with_one
def b_whole_of : WS :=
  (wRet (wTupRg (wRg1 (wVar 0))))
def m_whole_of : MW := mOf 1 b_whole_of
end PL.C
end
section
set_option Elab.async false
set_option linter.all false
set_option maxRecDepth 100000
set_option maxHeartbeats 0
namespace PL.C
open PySem PySem.Spec L2 PL
open PyProof.Rows hiding St
variable {P : R → Prop} {E : XP}
/-! ### draws -/
theorem sp_draw (n : Int) (h0 : 0 < n) (h1 : n < 2 ^ 30) (h : ∀ k : Int, 0 ≤ k → k < n → P (.val (.int k))) : m__law_draw [dHand, .int n] P E := by
  unfold m__law_draw b__law_draw
  have hfin : ∀ x : Int, P (.val (.int (x % n))) := fun x => h _ (Int.emod_nonneg _ (by omega)) (Int.emod_lt_of_pos _ h0)
  -- what stands behind the first statement
  have rest : ∀ x2 : Option R, b_draw2 { nx := fun _ => P (.val .non), rt := P, bk := fun _ => False, ct := fun _ => False } E [some (.val dHand), some (.val (.int n)), x2, none, none] := by
    unfold b_draw2
    intro x2
    simp only [u_then, u_ifS, u_tst, u_bin, u_var, u_c]
    refine ⟨_, rfl, v_hand12 (.inr rfl) fun big hb => ?_⟩
    refine ⟨_, rfl, ?_⟩
    dsimp only
    by_cases hd : (0 : Int) < big
    · rw [if_pos (decide_eq_true hd)]
      simp only [u_then, u_set, u_bin, u_callB, u_args, u_args0, u_var, u_c]
      refine ⟨_, rfl, v_hand12 (.inr rfl) fun b2 hb2 => ?_⟩
      refine ⟨_, rfl, PL.C.v_mod h0 ?_⟩
      simp only [u_hput, u_bin, u_var, u_c]
      refine ⟨_, rfl, v_hand12 (.inr rfl) fun b3 hb3 => ⟨_, rfl, v_fdiv h0 (by omega) ⟨rfl, _, rfl, .inl ⟨by simp, Int.ediv_nonneg hb3 (by omega)⟩, ?_⟩⟩⟩
      exact ⟨_, rfl, hfin b2⟩
    · rw [if_neg (fun z => hd (of_decide_eq_true z))]
      simp only [u_skip, u_then, u_hput, u_bin, u_var, u_c]
      refine ⟨_, rfl, v_hand34 (.inr rfl) fun c4 => ⟨rfl, _, rfl, by simp, ?_⟩⟩
      simp only [u_set, u_bin, u_callB, u_args, u_args0, u_var, u_c, u_ret]
      refine ⟨_, rfl, v_hand34 (.inl rfl) fun c3 => ⟨_, rfl, v_hand34 (.inr rfl) fun c5 => v_mulL (by decide) (by decide) ?_⟩⟩
      simp only [R.toD_val, PL.v_add, List.nil_append, v_intI]
      refine v_mulR (by decide) (by decide) ?_
      simp only [R.toD_val, PL.v_add, List.nil_append, v_intI]
      refine PL.C.v_mod (by decide) ?_
      have B : ∀ (x m : Int), 0 < m → m < 2 ^ 32 → -(2 ^ 64) < x % m ∧ x % m < 2 ^ 64 := fun x m a b => by
        have := Int.emod_nonneg x (show m ≠ 0 by omega)
        have := Int.emod_lt_of_pos x a
        omega
      refine ⟨_, rfl, _, rfl, v_fdiv (by decide) (by decide) ?_⟩
      simp only [R.toD_val, PL.v_add, List.nil_append, v_intI]
      refine v_mulL (B _ _ (by decide) (by decide)).1 (B _ _ (by decide) (by decide)).2 ?_
      simp only [R.toD_val, PL.v_add, List.nil_append, v_intI]
      refine PL.C.v_mod (by decide) ?_
      refine ⟨_, rfl, _, rfl, v_fdiv (by decide) (by decide) ?_⟩
      simp only [R.toD_val, PL.v_add, List.nil_append, v_intI]
      refine v_mulL (B _ _ (by decide) (by decide)).1 (B _ _ (by decide) (by decide)).2 ?_
      simp only [R.toD_val, PL.v_add, List.nil_append, v_intI]
      refine PL.C.v_mod (by decide) ?_
      exact ⟨_, rfl, v_fdiv (by decide) (by decide) ⟨_, rfl, PL.C.v_mod h0 (hfin _)⟩⟩
  rw [u_mOf, u_then]
  unfold b_draw1
  rw [u_handIf]
  refine ⟨rfl, fun cell hc => ?_, rest none⟩
  simp only [u_then]
  simp only [u_hput, u_bin, u_var, u_c]
  refine ⟨_, rfl, v_hand12 (.inl rfl) fun i hi => ⟨rfl, _, rfl, .inl ⟨by simp, by omega⟩, ?_⟩⟩
  simp only [u_bin, u_callB, u_args, u_args0, u_var, u_c]
  refine ⟨_, rfl, v_hand34 (.inl rfl) fun m => v_mulR (by decide) (by decide) ⟨_, rfl, v_mulR (by decide) (by decide) (PL.C.v_mod (by decide) ⟨rfl, _, rfl, by simp, ?_⟩)⟩⟩
  simp only [u_if, u_tst, u_bin, u_var, u_c]
  refine ⟨_, rfl, v_pow (by decide) (by decide) (by decide) ⟨_, rfl, ?_⟩⟩
  dsimp only
  by_cases hd : (10 : Int) ^ (18 : Int).toNat ≤ cell
  · rw [if_pos (decide_eq_true hd)]
    exact ⟨_, rfl, rfl, _, rfl, .inl ⟨by simp, hc⟩, rest _⟩
  · rw [if_neg (fun z => hd (of_decide_eq_true z))]
    exact ⟨rfl, _, rfl, .inl ⟨by simp, by decide⟩, rest _⟩
theorem sp_drawB (n : Int) (h0 : 0 < n) (h1 : n < 2 ^ 30) (h : ∀ k : Int, 0 ≤ k → k < n → P (.val (.int k))) : m__law_drawB [dHand, .int n] P E := by
  unfold m__law_drawB b__law_drawB
  have hfin : ∀ x : Int, P (.val (.int (x % n))) := fun x => h _ (Int.emod_nonneg _ (by omega)) (Int.emod_lt_of_pos _ h0)
  -- what stands behind the first statement
  have rest : ∀ x2 : Option R, b_draw2B { nx := fun _ => P (.val .non), rt := P, bk := fun _ => False, ct := fun _ => False } E [some (.val dHand), some (.val (.int n)), x2, none, none] := by
    unfold b_draw2B
    intro x2
    simp only [u_then, u_ifS, u_tst, u_bin, u_var, u_c]
    refine ⟨_, rfl, v_hand12 (.inr rfl) fun big hb => ?_⟩
    refine ⟨_, rfl, ?_⟩
    dsimp only
    by_cases hd : (0 : Int) < big
    · rw [if_pos (decide_eq_true hd)]
      simp only [u_then, u_set, u_bin, u_callB, u_args, u_args0, u_var, u_c]
      refine ⟨_, rfl, v_hand12 (.inr rfl) fun b2 hb2 => ?_⟩
      refine ⟨_, rfl, PL.C.v_mod h0 ?_⟩
      simp only [u_hput, u_bin, u_var, u_c]
      refine ⟨_, rfl, v_hand12 (.inr rfl) fun b3 hb3 => ⟨_, rfl, v_fdiv h0 (by omega) ⟨rfl, _, rfl, .inl ⟨by simp, Int.ediv_nonneg hb3 (by omega)⟩, ?_⟩⟩⟩
      exact ⟨_, rfl, hfin b2⟩
    · rw [if_neg (fun z => hd (of_decide_eq_true z))]
      simp only [u_skip, u_then, u_hput, u_bin, u_var, u_c]
      refine ⟨_, rfl, v_hand34 (.inr rfl) fun c4 => ⟨rfl, _, rfl, by simp, ?_⟩⟩
      simp only [u_set, u_bin, u_callB, u_args, u_args0, u_var, u_c, u_ret]
      refine ⟨_, rfl, v_hand34 (.inl rfl) fun c3 => ⟨_, rfl, v_hand34 (.inr rfl) fun c5 => v_mulL (by decide) (by decide) ?_⟩⟩
      simp only [R.toD_val, PL.v_add, List.nil_append, v_intI]
      refine v_mulR (by decide) (by decide) ?_
      simp only [R.toD_val, PL.v_add, List.nil_append, v_intI]
      refine PL.C.v_mod (by decide) ?_
      have B : ∀ (x m : Int), 0 < m → m < 2 ^ 32 → -(2 ^ 64) < x % m ∧ x % m < 2 ^ 64 := fun x m a b => by
        have := Int.emod_nonneg x (show m ≠ 0 by omega)
        have := Int.emod_lt_of_pos x a
        omega
      refine ⟨_, rfl, _, rfl, v_fdiv (by decide) (by decide) ?_⟩
      simp only [R.toD_val, PL.v_add, List.nil_append, v_intI]
      refine v_mulL (B _ _ (by decide) (by decide)).1 (B _ _ (by decide) (by decide)).2 ?_
      simp only [R.toD_val, PL.v_add, List.nil_append, v_intI]
      refine PL.C.v_mod (by decide) ?_
      refine ⟨_, rfl, _, rfl, v_fdiv (by decide) (by decide) ?_⟩
      simp only [R.toD_val, PL.v_add, List.nil_append, v_intI]
      refine v_mulL (B _ _ (by decide) (by decide)).1 (B _ _ (by decide) (by decide)).2 ?_
      simp only [R.toD_val, PL.v_add, List.nil_append, v_intI]
      refine PL.C.v_mod (by decide) ?_
      exact ⟨_, rfl, v_fdiv (by decide) (by decide) ⟨_, rfl, PL.C.v_mod h0 (hfin _)⟩⟩
  rw [u_mOf, u_then]
  unfold b_draw1B
  rw [u_handIf]
  refine ⟨rfl, fun cell hc => ?_, rest none⟩
  simp only [u_then]
  simp only [u_hput, u_bin, u_var, u_c]
  refine ⟨_, rfl, v_hand12 (.inl rfl) fun i hi => ⟨rfl, _, rfl, .inl ⟨by simp, by omega⟩, ?_⟩⟩
  simp only [u_bin, u_callB, u_args, u_args0, u_var, u_c]
  refine ⟨_, rfl, v_hand34 (.inl rfl) fun m => v_mulR (by decide) (by decide) ⟨_, rfl, ?_⟩⟩
  simp only [R.toD_val, PL.v_add, List.nil_append, v_intI]
  refine PL.C.v_mod (by decide) ⟨rfl, _, rfl, by simp, ?_⟩
  simp only [u_ifS, u_tst, u_bin, u_var, u_c]
  refine ⟨_, rfl, v_pow (by decide) (by decide) (by decide) ⟨_, rfl, ?_⟩⟩
  dsimp only
  by_cases hd : (10 : Int) ^ (18 : Int).toNat ≤ cell
  · rw [if_pos (decide_eq_true hd)]
    exact ⟨_, rfl, rfl, _, rfl, .inl ⟨by simp, hc⟩, rest _⟩
  · rw [if_neg (fun z => hd (of_decide_eq_true z))]
    exact rest _
theorem sp_drawC (n : Int) (h0 : 0 < n) (h1 : n < 2 ^ 30) (h : ∀ k : Int, 0 ≤ k → k < n → P (.val (.int k))) : m__law_drawC [dHand, .int n] P E := by
  unfold m__law_drawC b__law_drawC
  have hfin : ∀ x : Int, P (.val (.int (x % n))) := fun x => h _ (Int.emod_nonneg _ (by omega)) (Int.emod_lt_of_pos _ h0)
  -- what stands behind the first statement
  have rest : ∀ x2 : Option R, b_draw2C { nx := fun _ => P (.val .non), rt := P, bk := fun _ => False, ct := fun _ => False } E [some (.val dHand), some (.val (.int n)), x2, none, none] := by
    unfold b_draw2C
    intro x2
    simp only [u_then, u_ifS, u_tst, u_bin, u_var, u_c]
    refine ⟨_, rfl, v_hand12 (.inr rfl) fun big hb => ?_⟩
    refine ⟨_, rfl, ?_⟩
    dsimp only
    by_cases hd : (0 : Int) < big
    · rw [if_pos (decide_eq_true hd)]
      simp only [u_then, u_set, u_bin, u_callB, u_args, u_args0, u_var, u_c]
      refine ⟨_, rfl, v_hand12 (.inr rfl) fun b2 hb2 => ?_⟩
      refine ⟨_, rfl, PL.C.v_mod h0 ?_⟩
      simp only [u_hput, u_bin, u_var, u_c]
      refine ⟨_, rfl, v_hand12 (.inr rfl) fun b3 hb3 => ⟨_, rfl, v_fdiv h0 (by omega) ⟨rfl, _, rfl, .inl ⟨by simp, Int.ediv_nonneg hb3 (by omega)⟩, ?_⟩⟩⟩
      exact ⟨_, rfl, hfin b2⟩
    · rw [if_neg (fun z => hd (of_decide_eq_true z))]
      simp only [u_skip, u_then, u_hput, u_bin, u_var, u_c]
      refine ⟨_, rfl, v_hand34 (.inr rfl) fun c4 => ⟨rfl, _, rfl, by simp, ?_⟩⟩
      simp only [u_set, u_bin, u_callB, u_args, u_args0, u_var, u_c, u_ret]
      refine ⟨_, rfl, v_hand34 (.inl rfl) fun c3 => ⟨_, rfl, v_hand34 (.inr rfl) fun c5 => v_mulL (by decide) (by decide) ?_⟩⟩
      simp only [R.toD_val, PL.v_add, List.nil_append, v_intI]
      refine v_mulR (by decide) (by decide) ?_
      simp only [R.toD_val, PL.v_add, List.nil_append, v_intI]
      refine PL.C.v_mod (by decide) ?_
      have B : ∀ (x m : Int), 0 < m → m < 2 ^ 32 → -(2 ^ 64) < x % m ∧ x % m < 2 ^ 64 := fun x m a b => by
        have := Int.emod_nonneg x (show m ≠ 0 by omega)
        have := Int.emod_lt_of_pos x a
        omega
      refine ⟨_, rfl, _, rfl, v_fdiv (by decide) (by decide) ?_⟩
      simp only [R.toD_val, PL.v_add, List.nil_append, v_intI]
      refine v_mulL (B _ _ (by decide) (by decide)).1 (B _ _ (by decide) (by decide)).2 ?_
      simp only [R.toD_val, PL.v_add, List.nil_append, v_intI]
      refine PL.C.v_mod (by decide) ?_
      refine ⟨_, rfl, _, rfl, v_fdiv (by decide) (by decide) ?_⟩
      simp only [R.toD_val, PL.v_add, List.nil_append, v_intI]
      refine v_mulL (B _ _ (by decide) (by decide)).1 (B _ _ (by decide) (by decide)).2 ?_
      simp only [R.toD_val, PL.v_add, List.nil_append, v_intI]
      refine PL.C.v_mod (by decide) ?_
      exact ⟨_, rfl, v_fdiv (by decide) (by decide) ⟨_, rfl, PL.C.v_mod h0 (hfin _)⟩⟩
  rw [u_mOf, u_then]
  unfold b_draw1C
  rw [u_handIf]
  refine ⟨rfl, fun cell hc => ?_, rest none⟩
  simp only [u_then]
  simp only [u_hput, u_bin, u_var, u_c]
  refine ⟨_, rfl, v_hand12 (.inl rfl) fun i hi => ⟨rfl, _, rfl, .inl ⟨by simp, by omega⟩, ?_⟩⟩
  simp only [u_bin, u_callB, u_args, u_args0, u_var, u_c]
  refine ⟨_, rfl, v_hand34 (.inl rfl) fun m => v_mulR (by decide) (by decide) ⟨_, rfl, ?_⟩⟩
  simp only [R.toD_val, PL.v_add, List.nil_append, v_intI]
  refine PL.C.v_mod (by decide) ⟨rfl, _, rfl, by simp, ?_⟩
  simp only [u_ifS, u_tst, u_bin, u_var, u_c]
  refine ⟨_, rfl, v_pow (by decide) (by decide) (by decide) ⟨_, rfl, ?_⟩⟩
  dsimp only
  by_cases hd : (10 : Int) ^ (18 : Int).toNat ≤ cell
  · rw [if_pos (decide_eq_true hd)]
    exact ⟨_, rfl, rfl, _, rfl, .inl ⟨by simp, hc⟩, rest _⟩
  · rw [if_neg (fun z => hd (of_decide_eq_true z))]
    exact rest _

theorem sp_some (xs : List D) (h0 : 0 < xs.length) (h1 : xs.length < 2 ^ 30) (h : ∀ d ∈ xs, P (.val d)) : m__law_some [dHand, .lst xs] P E := by
  unfold m__law_some b__law_some
  simp only [u_mOf, u_ret, u_bin, u_call, u_callB, u_args, u_args0, u_var]
  refine ⟨_, rfl, _, rfl, _, rfl, ?_⟩
  simp only [R.toD_val, List.nil_append, List.cons_append, v_lenL]
  refine sp_draw _ (by omega) (by omega) fun k k0 k1 => ?_
  obtain ⟨i, rfl⟩ := Int.eq_ofNat_of_zero_le k0
  have hi : i < xs.length := by omega
  exact v_ix (List.getElem?_eq_getElem hi) (h _ (List.getElem_mem hi))

theorem sp_someB (xs : List D) (h0 : 0 < xs.length) (h1 : xs.length < 2 ^ 30) (h : ∀ d ∈ xs, P (.val d)) : m__law_someB [dHand, .lst xs] P E := by
  unfold m__law_someB b__law_someB
  simp only [u_mOf, u_ret, u_bin, u_call, u_callB, u_args, u_args0, u_var]
  refine ⟨_, rfl, _, rfl, _, rfl, ?_⟩
  simp only [R.toD_val, List.nil_append, List.cons_append, v_lenL]
  refine sp_drawB _ (by omega) (by omega) fun k k0 k1 => ?_
  obtain ⟨i, rfl⟩ := Int.eq_ofNat_of_zero_le k0
  have hi : i < xs.length := by omega
  exact v_ix (List.getElem?_eq_getElem hi) (h _ (List.getElem_mem hi))

theorem sp_someC (xs : List D) (h0 : 0 < xs.length) (h1 : xs.length < 2 ^ 30) (h : ∀ d ∈ xs, P (.val d)) : m__law_someC [dHand, .lst xs] P E := by
  unfold m__law_someC b__law_someC
  simp only [u_mOf, u_ret, u_bin, u_call, u_callB, u_args, u_args0, u_var]
  refine ⟨_, rfl, _, rfl, _, rfl, ?_⟩
  simp only [R.toD_val, List.nil_append, List.cons_append, v_lenL]
  refine sp_drawC _ (by omega) (by omega) fun k k0 k1 => ?_
  obtain ⟨i, rfl⟩ := Int.eq_ofNat_of_zero_le k0
  have hi : i < xs.length := by omega
  exact v_ix (List.getElem?_eq_getElem hi) (h _ (List.getElem_mem hi))

/-! ### the hand -/
def bHand1 : WE := (wCallB absW [(wCallB intW [(wVar 2)])])
theorem sp_abs (i : Int) (ρ : Rho) (h : ρ[2]? = some (some (.val (.int i)))) (hp : P (.val (.int (if i < 0 then -i else i)))) : bHand1 ρ P E := by
  unfold bHand1
  simp only [u_callB, u_args, u_args0, u_var]
  exact ⟨_, h, ⟨i, rfl, hp⟩⟩
abbrev HandSem (b2 : WE) : Prop := ∀ ms : List Int, ms.length ≤ 63 → ∀ kk : WEnds, kk.rt (.val dHand) → wLcGo (wgName 2) wYes bHand1 (wipeR (List.replicate 3 none) [2]) (ms.map D.int) [] (fun r => wHandRet 1 b2 kk noX ((List.replicate 3 none).set 1 (some r)))
theorem hand_of (b2 : WE) (hb : ∀ (xs : List D) (ρ : Rho) (P : R → Prop) (E : XP), ρ[1]? = some (some (.own xs)) → (∀ n : Int, P (.val (.int n))) → b2 ρ P E) : HandSem b2 := by
  intro ms hm kk hk
  refine lcGo_enc D.int (fun _ => true) (fun i => .int (if i < 0 then -i else i)) ms [] _ (fun i _ K hK => ?_) ?_
  · unfold item
    simp only [u_gName, u_yes, if_true]
    exact sp_abs i _ rfl (by simpa using hK)
  · have e : ms.filter (fun _ => true) = ms := List.filter_eq_self.mpr fun _ _ => rfl
    rw [e, List.nil_append]
    refine ⟨ms.map fun i => if i < 0 then -i else i, ?_, ?_, ?_, hk⟩
    · show some (some _) = _
      rw [List.map_map]; rfl
    · intro n hn
      obtain ⟨i, _, rfl⟩ := List.mem_map.mp hn
      split <;> omega
    · exact hb (ms.map fun i => .int (if i < 0 then -i else i)) _ _ _ (by rfl) fun n => ⟨n, rfl⟩
theorem hand_semA (a b : Int) (hb0 : -(2 ^ 64) < b) (hb1 : b < 2 ^ 64) : HandSem (wBor 1 (wBin addW (wC (.int a)) (wBin mulW (wC (.int b)) (wCallB lenW [(wVar 1)])))) := hand_of _ fun xs ρ P E h k => by
  have hl := (List.getElem?_eq_some_iff.mp h).1
  simp only [u_bor, u_bin, u_callB, u_args, u_args0, u_var, u_c]
  refine ⟨_, h, rfl, _, by rw [List.getElem?_set_self hl], ?_⟩
  simp only [R.toD_own, List.nil_append, v_lenL, R.toD_val]
  refine v_mulL hb0 hb1 ?_
  simp only [R.toD_val, PL.v_add]
  exact ⟨rfl, k _⟩
theorem hand_semB (a : Int) : HandSem (wBor 1 (wBin addW (wC (.int a)) (wCallB lenW [(wVar 1)]))) := hand_of _ fun xs ρ P E h k => by
  have hl := (List.getElem?_eq_some_iff.mp h).1
  simp only [u_bor, u_bin, u_callB, u_args, u_args0, u_var, u_c]
  refine ⟨_, h, rfl, _, by rw [List.getElem?_set_self hl], ?_⟩
  simp only [R.toD_own, List.nil_append, v_lenL, R.toD_val, PL.v_add]
  exact ⟨rfl, k _⟩
end PL.C
end
section

end
section
set_option Elab.async false
set_option linter.all false
set_option maxRecDepth 100000
set_option maxHeartbeats 0
namespace PL.C
open PySem PySem.Spec L2 PL
open PyProof.Rows hiding St
section
variable {α : Type} {P : R → Prop} {E : XP} {fi : WI} {g : WG} {ft : WT} {fe : WE} {ρ : Rho} {vs : List Nat}
/-- a comprehension that lets some items fall, by draws -/
theorem lcGo_some (enc : α → D) (q : α → Prop) : ∀ (l : List α) (acc : List D) (P : R → Prop), (∀ y ∈ l, ∀ K : Option D → Prop, K none → (q y → K (some (enc y))) → item g ft fe ρ (enc y) K) →
    (∀ M : List α, M.Sublist l → (∀ y ∈ M, q y) → P (.own (acc ++ M.map enc))) → wLcGo g ft fe ρ (l.map enc) acc P
  | [], acc, P, _, hp => by
    rw [List.map_nil]; unfold wLcGo
    simpa using hp [] (List.Sublist.refl _) (by simp)
  | y :: l, acc, P, hx, hp => by
    rw [List.map_cons]; unfold wLcGo
    refine hx y List.mem_cons_self (fun o => match o with | some d => wLcGo g ft fe ρ (l.map enc) (acc ++ [d]) P | none => wLcGo g ft fe ρ (l.map enc) acc P) ?_ fun qy => ?_
    · exact lcGo_some enc q l acc P (fun z hz => hx z (List.mem_cons_of_mem _ hz)) fun M hM hq => hp M (hM.cons y) hq
    · refine lcGo_some enc q l (acc ++ [enc y]) P (fun z hz => hx z (List.mem_cons_of_mem _ hz)) fun M hM hq => ?_
      have := hp (y :: M) (hM.cons_cons y) fun z hz => (List.mem_cons.mp hz).elim (fun e => e ▸ qy) (hq z)
      simpa using this
theorem lc_some (enc : α → D) (l : List α) (q : α → Prop) (hi : ∀ Q, Q (l.map enc) → fi ρ Q E) (hx : ∀ y ∈ l, ∀ K : Option D → Prop, K none → (q y → K (some (enc y))) → item g ft fe (wipeR ρ vs) (enc y) K)
    (hp : ∀ M : List α, M.Sublist l → (∀ y ∈ M, q y) → P (.own (M.map enc))) : wLc vs fi g ft fe ρ P E := hi _ (lcGo_some enc q l [] P hx (by simpa using hp))
end
variable {P : R → Prop} {E : XP}
/-- max(.. + [0]) and min of ints, as a value -/
theorem v_maxI {ns : List Int} {m : Int} (hm : m ∈ ns) (hu : ∀ y ∈ ns, y ≤ m) (h : P (.val (.int m))) : maxB [.lst (ns.map .int)] P := .inl ⟨ns, rfl, List.length_pos_of_mem hm, fun k hk ku => by
  have : k = m := Int.le_antisymm (hu k hk) (ku m hm)
  rw [this]; exact h⟩
theorem v_minI {ns : List Int} {m : Int} (hm : m ∈ ns) (hu : ∀ y ∈ ns, m ≤ y) (h : P (.val (.int m))) : minB [.lst (ns.map .int)] P := .inl ⟨ns, rfl, List.length_pos_of_mem hm, fun k hk ku => by
  have : k = m := Int.le_antisymm (ku m hm) (hu k hk)
  rw [this]; exact h⟩
theorem v_sumI {ns : List Int} (h : P (.val (.int ns.sum))) : sumW [.lst (ns.map .int)] P := ⟨ns, rfl, h⟩
theorem v_absI {i : Int} (h : P (.val (.int (if i < 0 then -i else i)))) : absW [.int i] P := ⟨i, rfl, h⟩
/-- the least, by a strict order of the data -/
theorem fold_min {α : Type} (lt : α → α → Bool) (tr : ∀ a b c, lt a b = true → lt b c = true → lt a c = true) (tot : ∀ a b, lt a b = true ∨ a = b ∨ lt b a = true) (ir : ∀ a, lt a a = false) : ∀ (xs : List α) (x : α),
    xs.foldl (fun a y => if lt y a = true then y else a) x ∈ x :: xs ∧ ∀ y ∈ x :: xs, lt y (xs.foldl (fun a y => if lt y a = true then y else a) x) = false
  | [], x => ⟨List.mem_cons_self, fun y hy => by rw [List.mem_singleton.mp hy]; exact ir x⟩
  | z :: xs, x => by
    rw [List.foldl_cons]
    obtain ⟨h1, h2⟩ := fold_min lt tr tot ir xs (if lt z x = true then z else x)
    by_cases e : lt z x = true
    · rw [if_pos e] at h1 h2 ⊢
      refine ⟨List.mem_cons_of_mem _ h1, fun y hy => ?_⟩
      rcases List.mem_cons.mp hy with rfl | hy
      · cases q : lt y (xs.foldl (fun a y => if lt y a = true then y else a) z) with
        | false => rfl
        | true => rw [← h2 z List.mem_cons_self]; exact (tr _ _ _ e q).symm
      · exact h2 y hy
    · rw [if_neg e] at h1 h2 ⊢
      refine ⟨?_, fun y hy => ?_⟩
      · rcases List.mem_cons.mp h1 with h | h
        · rw [h]; exact List.mem_cons_self
        · exact List.mem_cons_of_mem _ (List.mem_cons_of_mem _ h)
      · rcases List.mem_cons.mp hy with rfl | hy
        · exact h2 y List.mem_cons_self
        · rcases List.mem_cons.mp hy with rfl | hy
          · cases q : lt y (xs.foldl (fun a y => if lt y a = true then y else a) x) with
            | false => rfl
            | true =>
              have hx := h2 x List.mem_cons_self
              rcases tot y x with h | h | h
              · exact absurd h e
              · rw [h] at q; rw [hx] at q; cases q
              · rw [← hx]; exact (tr _ _ _ h q).symm
          · exact h2 y (List.mem_cons_of_mem _ hy)
theorem v_minEnc {α : Type} (enc : α → D) (lt : α → α → Bool) (hlt : ∀ a b, PySem.W.dataLt (toP (enc a)) (toP (enc b)) = lt a b) (tr : ∀ a b c, lt a b = true → lt b c = true → lt a c = true) (tot : ∀ a b, lt a b = true ∨ a = b ∨ lt b a = true)
    (ir : ∀ a, lt a a = false) (inj : ∀ a b, toP (enc a) = toP (enc b) → a = b) (hpl : ∀ a, pl (enc a) = true) (hal : ∀ a b, PySem.W.alike (toP (enc a)) (toP (enc b)) = true) (hdp : ∀ a, dp (enc a) ≤ 60 ∧ toP (enc a) ≠ .none)
    {l : List α} (h0 : l ≠ []) {d : D} (hd : d = .lst (l.map enc) ∨ d = .tup (l.map enc)) (h : ∀ m ∈ l, (∀ y ∈ l, lt y m = false) → P (.val (enc m))) : minB [d] P := by
  cases l with
  | nil => exact absurd rfl h0
  | cons x xs =>
    rw [List.map_cons] at hd
    refine .inr ⟨enc x, xs.map enc, by rcases hd with rfl | rfl; exact .inl rfl; exact .inr rfl, ?_, ?_, ?_, ?_⟩
    · rw [← List.map_cons]; exact List.all_eq_true.mpr fun d hd => by obtain ⟨a, _, rfl⟩ := List.mem_map.mp hd; exact hpl a
    · rw [← List.map_cons]
      intro u hu v hv
      rw [List.map_map] at hu hv
      obtain ⟨a, _, rfl⟩ := List.mem_map.mp hu
      obtain ⟨b, _, rfl⟩ := List.mem_map.mp hv
      exact hal a b
    · rw [← List.map_cons]; intro d hd; obtain ⟨a, _, rfl⟩ := List.mem_map.mp hd; exact hdp a
    · rw [← List.map_cons]
      intro m hm he
      obtain ⟨a, ha, rfl⟩ := List.mem_map.mp hm
      have key : ∀ (xs : List α) (x : α), PySem.W.minD (toP (enc x)) (toPs (xs.map enc)) = toP (enc (xs.foldl (fun a y => if lt y a = true then y else a) x)) := by
        intro xs
        induction xs with
        | nil => intro x; rw [List.map_nil, toPs]; rfl
        | cons z xs ih =>
          intro x
          rw [List.map_cons, toPs, List.foldl_cons, ← ih]
          unfold PySem.W.minD
          rw [List.foldl_cons, hlt]
          by_cases e : lt z x = true
          · rw [if_pos e, if_pos e]
          · rw [if_neg e, if_neg e]
      rw [key] at he
      have e := inj _ _ he
      obtain ⟨h1, h2⟩ := fold_min lt tr tot ir xs x
      rw [← e] at h1 h2
      exact h a h1 h2
/-- the least of lots -/
theorem toP_lot_inj {a b : List Int} (h : toP (dLot a) = toP (dLot b)) : a = b := by
  have e := eqv_lot a b
  rw [h] at e
  have e2 := eqv_lot b b
  rw [e2] at e
  have := e.symm
  simpa using this
theorem v_minLots {L : List (List Int)} (h0 : L ≠ []) {d : D} (hd : d = .lst (L.map dLot) ∨ d = .tup (L.map dLot)) (h : ∀ m ∈ L, (∀ y ∈ L, lexB y m = false) → P (.val (dLot m))) : minB [d] P :=
  v_minEnc dLot lexB dataLt_lot (fun _ _ _ => lexB_trans) lexB_total lexB_irrefl (fun _ _ => toP_lot_inj) pl_lot alike_lot (fun a => ⟨by rw [dp_lot]; decide, by rw [toP_lot]; simp⟩) h0 hd h
end PL.C
end
section
set_option Elab.async false
set_option linter.all false
set_option maxRecDepth 100000
set_option maxHeartbeats 0
namespace PL.C
open PySem PySem.Spec L2 PL
open PyProof.Rows hiding St
variable {P : R → Prop} {E : XP}
theorem ifT {b : Bool} {A B : Prop} (h : b = true) (a : A) : if b = true then A else B := by rw [if_pos h]; exact a
theorem ifF {b : Bool} {A B : Prop} (h : b = false) (a : B) : if b = true then A else B := by rw [h, if_neg (by decide)]; exact a
theorem v_geInt {i j : Int} (h : P (.val (.bl (decide (j ≤ i))))) : wGe (.int i) (.int j) P := h
theorem v_leLot {a b : List Int} (h : P (.val (.bl (!lexB b a)))) : wLe (dLot a) (dLot b) P := by
  show leW (dLot a) (dLot b) P
  exact ⟨pl_lot a, pl_lot b, alike_lot a b, by rw [toP_lot]; simp, by rw [dp_lot, dp_lot]; decide, by show P (.val (.bl (!PySem.W.dataLt (toP (dLot b)) (toP (dLot a))))); rw [dataLt_lot]; exact h⟩
/-! ### texts -/
theorem eqv_str (a b : Str) : PyData.eqv (toP (.str a)) (toP (.str b)) = decide (a = b) := by
  rw [toP, toP, PyData.eqv]; by_cases h : a = b <;> simp [h]
theorem pl_str (a : Str) : pl (.str a) = true := by unfold pl; rw [toP]; rfl
theorem dp_str (a : Str) : dp (.str a) = 0 := by unfold dp; rw [toP]; rfl
theorem v_eqS {a b : Str} (h : P (.val (.bl (decide (a = b))))) : eqW (.str a) (.str b) P := ⟨pl_str a, pl_str b, by rw [dp_str, dp_str]; decide, by rw [eqv_str]; exact h⟩
theorem v_neS {a b : Str} (h : P (.val (.bl (decide (a ≠ b))))) : neW (.str a) (.str b) P := ⟨pl_str a, pl_str b, by rw [dp_str, dp_str]; decide, by rw [eqv_str]; simpa using h⟩
theorem v_inStrs {x : Str} {l : List Str} {d : D} (hd : d = .lst (l.map D.str) ∨ d = .tup (l.map D.str)) (h : P (.val (.bl (decide (x ∈ l))))) : wInB false (.str x) d P := by
  rcases hd with rfl | rfl <;>
  exact .inl ⟨pl_str x, all_pl pl_str l, by rw [dp_str]; decide, by rw [any_eqv eqv_str]; simp only [Bool.false_xor]; exact h⟩
/-- two texts shown of one thing -/
theorem v_neSame {d : D} {m w : Nat} (g : GoodG m w d) (hm : m ≤ 60) (hw : w ≤ 1000000) (h : P (.val (.bl false))) : reprW [d] (fun r1 => reprW [d] (fun r2 => neW r1.toD r2.toD P)) := by
  refine v_reprG g hm hw (v_reprG g hm hw (v_neS ?_))
  simpa using h
theorem shown_int (i : Int) : shownD (.int i) = Str.ofString (toString i) := by unfold shownD; rw [toR, PyData.shown]
/-! ### lots -/
theorem goodG_lot {n : Nat} {q : List Int} (hq : ∀ x ∈ q, x.natAbs < 1000000000) (hl : q.length ≤ n) : GoodG 1 (n * 18 + 4) (dLot q) := by
  unfold dLot
  exact goodG_tup (m := 0) (w := 16) (fun x hx => by obtain ⟨i, hi, rfl⟩ := List.mem_map.mp hx; exact goodG_int (hq i hi)) (by rw [List.length_map]; exact hl)
theorem fok_of {n : Nat} (h1 : 1 ≤ n) (h7 : n ≤ 7) {L : List (List Int)} (hL : ∀ q ∈ L, LOk n q) (ha : L.Pairwise fun a b => lexB a b = true) : FamOk (.int n) (dLots L) := ⟨n, L, rfl, rfl, by omega, by omega, hL, ha⟩
/-- any data against itself -/
theorem u_for {fi : WI} {g : WG} {u : WS} {k : WEnds} {ρ : Rho} : wFor fi g u k E ρ = fi ρ (fun ds => wForGo g u k E ds ρ) E := rfl
theorem sub_lots {n : Nat} {L : List (List Int)} (h : L.Sublist (lotsA n)) : (∀ q ∈ L, LOk n q) ∧ L.Pairwise (fun a b => lexB a b = true) ∧ L.Nodup ∧ L.length ≤ 2 ^ n := by
  have a := (lotsA_asc n).sublist h
  exact ⟨fun q hq => mem_lotsA.mp (h.subset hq), a, asc_nodup a, by rw [← lotsA_len]; exact h.length_le⟩
theorem v_setLotsK {n : Nat} (hn : n ≤ 6) {L : List (List Int)} (hL : ∀ q ∈ L, LOk n q) {d : D} (hd : d = .lst (L.map dLot) ∨ d = .tup (L.map dLot)) {k : List D → Prop}
    (h : ∀ (M : List (List Int)) (ds : List D), M.Pairwise (fun a b => lexB a b = true) → (∀ q, q ∈ M ↔ q ∈ L) → ds.mergeSort (PySem.W.dataLe false toP) = M.map dLot → ds.length = M.length → k ds) : SetD d k := .inr ⟨L, hd, fun M nd hM => by
    have h1 := lots_le (n := n) (fun q hq => hL q (hM q hq)) nd
    have h2 : 2 ^ n ≤ 2 ^ 6 := Nat.pow_le_pow_right (by decide) hn
    omega, fun M nd hm => h (srt M) _ (srt_asc nd) (fun q => mem_srt.trans (hm q)) (map_mergeSort_lots M) (by rw [List.length_map, (srt_perm M).length_eq])⟩
theorem v_setIntsK {ns : List Int} (hz : ns.length ≤ 4000) {d : D} (hd : d = .lst (ns.map .int) ∨ d = .tup (ns.map .int)) {k : List D → Prop}
    (h : ∀ (ms : List Int) (ds : List D), ms.Pairwise (· < ·) → (∀ x, x ∈ ms ↔ x ∈ ns) → ds.mergeSort (PySem.W.dataLe false toP) = ms.map D.int → ds.length = ms.length → k ds) : SetD d k := .inl ⟨ns, hd, hz, fun ms nd hm =>
  h _ _ (sortInts_asc nd) (fun x => ((List.mergeSort_perm ms _).mem_iff).trans (hm x)) (map_sortInts ms) (by rw [List.length_map, List.length_mergeSort])⟩
theorem loks {n : Nat} {L : List (List Int)} (h : (L.all fun q => decide (q ∈ lotsU n)) = true) : ∀ q ∈ L, LOk n q := fun q hq => (mem_lotsU n q).mp (of_decide_eq_true (List.all_eq_true.mp h q hq))
end PL.C
end
section
set_option Elab.async false
set_option linter.all false
set_option maxRecDepth 100000
set_option maxHeartbeats 4000000
set_option autoImplicit false
/-! an own exception class whose __init__ says super().__init__(..) [; self.f = x] -/
namespace PL
open PySem PySem.Spec PySem.W PySem.Calls
open PyProof.Rows hiding St
section
variable {prog : Program} {w : World} {A : Around} {E : Value → Shared → Prop} {s : Shared} {K : Frag}
/-- what stands behind the top for such a class C: its __init__ at fI, the cell of __class__ at cc -/
structure SxC (prog : Program) (K : Frag) (C fI cc : Addr) (params : Arguments) (body : List Stmt) (scope : Scope) : Prop where
  fn : ∃ (name qual : Str) (kV doc pm : Value) (an : Option Addr) (cda : Addr) (ct : Value) (oc : Value) (od : Option Addr) (osl : Array (Option Value)),
    K.lookup fI = some ⟨oc, od, .func (ksFn name qual params body scope .none kV doc pm an (.ref cda) ct cc), osl⟩ ∧ codeIn K (.ref cda) qual = true ∧
    ∃ (ccl : Value) (cdd : Option Addr) (vs : Array Value) (ccs : Array (Option Value)) (file : Str) (tf : Tok), K.lookup cda = some ⟨ccl, cdd, .fields vs, ccs⟩ ∧ vs[2]? = some (.str file tf) ∧ ((prog.main.file : Str) == file) = true
  cell : ∃ (cl : Value) (cld : Option Addr) (csl : Array (Option Value)), K.lookup cc = some ⟨cl, cld, .cell (some (.ref C)), csl⟩
  cls : ∃ nm q N bs bm sn sub ab col dd k0 k1 k2 k3 k5, K.lookup C = some (excClassObj nm q C N bs bm true sn sub ab col dd k0 k1 k2 k3 k5 "ValueError.__new__") ∧ PySem.HandSPX.refsVE bm = true
  up : ks_superIn K C C "__init__" = some (some (.builtin "ValueError.__init__"))
  sub : subIn K (.ref C) (.type "ValueError") = some true
  slf : mroIn K C (.ref C) = some true
  opq : nsIn K cStatics "thirdparty.any" = some none
  top : (prog.main.scope.names.lookup ("super" : Str)).isSome = false

theorem ref_veinit {C : Addr} {h : Heap} {g : Array GenState} {d : Drawn} {t : Nat} {os : OsState} {nm q : Str} {N : Addr} {bs bm : List Value} {sn : List Str} {sub : List Value} {ab : Bool} {col : Option Bool} {dd : Option Addr} {k0 k1 k2 k3 k5 : Option Value}
    {u x t0 : Addr} {rest : List Value} {Q : Value → Shared → Prop} (hC : h.get? C = some (excClassObj nm q C N bs bm true sn sub ab col dd k0 k1 k2 k3 k5 "ValueError.__new__")) (hu : h.get? u = some (kxs_mw "ValueError.__init__" x)) (he : h.get? x = some (PySem.HandSPX.excO C t0)) (hz : rest.length ≤ sizeLine)
    (hq : ∀ h', (∀ b o, b ≠ x → h.get? b = some o → h'.get? b = some o) → (∃ t1, h'.get? x = some (PySem.HandSPX.excO C t1)) → Q .none ⟨h', g, d, t, os⟩) :
    wpAny (model prog w) A (call (.ref u) rest) Q E ⟨h, g, d, t, os⟩ := by
  refine wpAny_call (codeAny_of_tree ?_)
  show wpAny _ A.in1 (callAny (.ref u) ⟨rest, []⟩) _ _ _
  simp only [callAny]
  refine wpAny_bind (wpAny_load hu ?_)
  simp only [kxs_mw, show (Value.type "method-wrapper" == Value.type "method" || Value.type "method-wrapper" == Value.type "builtin_function_or_method" || Value.type "method-wrapper" == Value.type "method-wrapper") = true by decide, if_true]
  refine KFB.if_so (by decide) ?_
  refine wpAny_bind (check_bound_init F.excBase_ValueError.toExcCallFacts hC he rfl ?_)
  refine wpAny_bind (wpAny_pure (wpAny_pure ?_))
  refine ⟨plainId_quiet F.excBase_ValueError.init.plain _, codeAny_builtin F.excBase_ValueError.initEntry ?_⟩
  exact exc_init_tree (cls := .ref C) (t0 := t0) (dv := none) (c2 := .none) (c3 := .none) (b4 := .bool false) he hz fun h' k e' t' => hq h' k ⟨_, e'⟩
end
end PL
end
section
set_option Elab.async false
set_option linter.all false
set_option maxRecDepth 100000
set_option maxHeartbeats 4000000
set_option autoImplicit false
namespace PL
open PySem PySem.Spec PySem.W PySem.Calls
open PyProof.Rows hiding St
section
variable {prog : Program} {w : World} {A : Around} {E : Value → Shared → Prop} {K : Frag}
/-- super().__init__(..) within __init__ -/
theorem sx_call {C fI cc x t0 L : Addr} {params : Arguments} {bodyF body : List Stmt} {scope : Scope} {q name : Str} {kV doc pm ct oc : Value} {an od : Option Addr} {cda : Addr} {osl : Array (Option Value)} {ccl : Value} {cdd : Option Addr} {vs : Array Value} {ccs : Array (Option Value)} {file : Str} {tf : Tok}
    {mg mb m : Str → Option Value} {es : List Expr} {rest : List Value} {p0 p1 p2 p3 : Pos} {Q : Value → Shared → Prop} {hh : Heap} {pl : Sem Bool} {g : Array GenState} {d : Drawn} {t : Nat} {os : OsState}
    (S : SxC prog K C fI cc params bodyF scope) (X : K.In hh) (lk : K.lookup fI = some ⟨oc, od, .func (ksFn name q params bodyF scope .none kV doc pm an (.ref cda) ct cc), osl⟩)
    (lc : K.lookup cda = some ⟨ccl, cdd, .fields vs, ccs⟩) (hvs : vs[2]? = some (.str file tf)) (hfile : ((prog.main.file : Str) == file) = true)
    (nsG : hh.Ns mainGlobals mg) (mgS : mg "super" = none) (nsB : hh.Ns builtinsNs mb) (mbS : mb "super" = some (.type "super"))
    (hp : ∃ ar : Arg, (params.posonlyargs ++ params.args).head? = some ar ∧ ar.arg = "self") (nsL : hh.Ns L m) (hself : m "self" = some (.ref x)) (he : hh.get? x = some (PySem.HandSPX.excO C t0))
    (hk : scope.kind = .function) (hks : scope.names.lookup ("super" : Str) = some .globalImplicit) (hkc : scope.names.lookup ("__class__" : Str) = some .free) (hka : scope.names.lookup ("self" : Str) = some .local)
    (hev : eval (.Call (.Attribute (.Call (.Name "super" p0) [] [] p1) "__init__" p2) es [] p3) (ksEnv q scope L fI (.ref cda) cc) = (do
      let ov ← attributeBase (.Call (.Name "super" p0) [] [] p1) "__init__" (ksEnv q scope L fI (.ref cda) cc) (eval (.Call (.Name "super" p0) [] [] p1) (ksEnv q scope L fI (.ref cda) cc))
      standAt p2.atName
      let (f, first) ← holding [ov] (getMethod ov "__init__" pl)
      callWith p3 f first (backTo p3 (starEach es (ksEnv q scope L fI (.ref cda) cc))) []))
    (hz : rest.length ≤ sizeLine)
    (hpl : (backTo p3 (starEach es (ksEnv q scope L fI (.ref cda) cc))).any (·.1) = false)
    (hargs : ∀ (u : Addr) (s₂ : Shared) (Q₂ : Args → Shared → Prop), s₂.heap.Ns L m → Q₂ ⟨rest, []⟩ s₂ → wpAny (model prog w) A (evalArgs (.ref u) true (backTo p3 (starEach es (ksEnv q scope L fI (.ref cda) cc))) []) Q₂ E s₂)
    (h : ∀ h' tk', (∀ b o, b ≠ x → hh.get? b = some o → h'.get? b = some o) → (∃ t1, h'.get? x = some (PySem.HandSPX.excO C t1)) → Q .none ⟨h', g, d, tk', os⟩) :
    PySem.wpAt (model prog w) A (.func body (ksEnv q scope L fI (.ref cda) cc)) (eval (.Call (.Attribute (.Call (.Name "super" p0) [] [] p1) "__init__" p2) es [] p3) (ksEnv q scope L fI (.ref cda) cc)) Q E ⟨hh, g, d, t, os⟩ := by
  obtain ⟨ar, hp, har⟩ := hp
  obtain ⟨cl, cld, csl, hcell⟩ := S.cell
  obtain ⟨nm, qq, N, bs, bm, sn, sub, ab, col, dd, k0, k1, k2, k3, k5, hC, hbm⟩ := S.cls
  refine ks_wpAt_MethodCall (pl := pl) ?_ hev
  refine ks_wpAt_super_base (env := ksEnv q scope L fI (.ref cda) cc) hks hkc (by decide) rfl (X _ _ lk) rfl hp rfl (X _ _ lc) rfl hvs hfile S.top ?_
  refine ks_loadName_global hk hks (loadGlobal_builtin (env := ksEnv q scope L fI (.ref cda) cc) nsG mgS nsB mbS ⟨rfl, ?_⟩)
  refine wpAny_loadName_free hk hkc rfl ⟨_, X _ _ hcell, rfl⟩ ?_
  rw [har]
  refine wpAny_loadName_local hk hka nsL hself ?_
  refine ks_wpAny_isType_cls (X _ _ hC) rfl ⟨rfl, ?_⟩
  have hxC : x ≠ C := by
    intro z
    rw [z, X _ _ hC] at he
    cases he
  refine ks_wpAny_call_super (X _ _ hC) rfl he rfl (fun c e => by cases e) (looks_mroIn X S.slf) (fun h1 e1 kk1 => ?_)
  have X1 : K.In h1 := X.keeps kk1
  have I1 : InstAt h1 x (PySem.HandSPX.excO C t0) C none := ⟨kk1 _ _ he, rfl, rfl, trivial⟩
  have up := S.up
  cases hc : clsIn K C with
  | none => unfold ks_superIn at up; rw [hc] at up; cases up
  | some cd =>
    unfold ks_superIn at up
    rw [hc] at up
    refine kxs_getMethod kxs_ValueError e1 (looks_opaque X1 S.opq) (l₀ := cd.mro) (fun A Q E s k q => wpAny_bind ((looks_clsIn X1 hc) A _ E s k (wpAny_pure q))) rfl X1 up (I1.type.andThen (looks_subIn X1 S.sub)) hxC (by decide) ?_
    have kk2 : ∀ b o, h1.get? b = some o → (h1.push (kxs_mw "ValueError.__init__" x)).get? b = some o := fun b o e => Heap.get?_push_of_some _ e
    have e2 : (h1.push (kxs_mw "ValueError.__init__" x)).get? h1.objs.size = some (kxs_mw "ValueError.__init__" x) := Heap.get?_push_at rfl rfl
    have ns2 : (h1.push (kxs_mw "ValueError.__init__" x)).Ns L m := by
      obtain ⟨o, es', ep, ho, hd, hr⟩ := nsL
      exact ⟨o, es', ep, kk2 _ _ (kk1 _ _ ho), hd, hr⟩
    refine kxs_callWith (i := "ValueError.__init__") (x := x) hpl (hargs _ _ _ ns2 ⟨e2, ?_⟩)
    refine ref_veinit (X1.keeps kk2 _ _ hC) e2 (kk2 _ _ (kk1 _ _ he)) hz fun h' k3 e3 => h h' _ (fun b o hb ho => k3 b o hb (kk2 _ _ (kk1 _ _ ho))) e3
end
end PL
end
section
set_option Elab.async false
set_option linter.all false
set_option maxRecDepth 100000
set_option maxHeartbeats 4000000
set_option autoImplicit false
namespace PL
open PySem PySem.Spec PySem.W PySem.Calls
open PyProof.Rows hiding St
/-- super().__init__() -/
abbrev SuSt (es : List Expr) (p0 p1 p2 p3 p4 : Pos) : Stmt := .Expr (.Call (.Attribute (.Call (.Name "super" p0) [] [] p1) "__init__" p2) es [] p3) p4
section
variable {prog : Program} {w : World} {A : Around} {E : Value → Shared → Prop} {K : Frag}
/-- what the scope of such an __init__ says -/
structure SxS (scope : Scope) (ps : List Str) : Prop where
  kind : scope.kind = .function
  co : scope.isCoroutine = false
  gen : scope.isGenerator = false
  cell : ∀ x ∈ scope.names, x.2 ≠ .cell
  su : scope.names.lookup ("super" : Str) = some .globalImplicit
  kc : scope.names.lookup ("__class__" : Str) = some .free
  par : ∀ x ∈ ps, scope.names.lookup x = some .local
def sxsB (scope : Scope) (ps : List Str) : Bool := decide (scope.kind = .function) && (!scope.isCoroutine && (!scope.isGenerator && (scope.names.all (fun x => !decide (x.2 = .cell)) && (decide (scope.names.lookup ("super" : Str) = some .globalImplicit) && (decide (scope.names.lookup ("__class__" : Str) = some .free) && ps.all fun x => decide (scope.names.lookup x = some .local))))))
theorem sxs_by {scope : Scope} {ps : List Str} (h : sxsB scope ps = true) : SxS scope ps := by
  unfold sxsB at h
  simp only [Bool.and_eq_true, Bool.not_eq_true', decide_eq_true_eq, List.all_eq_true, decide_eq_false_iff_not] at h
  obtain ⟨h1, h2, h3, h4, h5, h6, h7⟩ := h
  exact ⟨h1, h2, h3, h4, h5, h6, h7⟩

/-- the state ahead of such a call: what the module's names say -/
structure SxG (mg : Str → Option Value) (h : Heap) : Prop where
  nsG : h.Ns mainGlobals mg
  mgS : mg "super" = none
  nsB : ∃ mb, h.Ns builtinsNs mb ∧ mb "super" = some (.type "super")
  lim : h.NoLimit
theorem SxG.keeps {mg : Str → Option Value} {h h' : Heap} (G : SxG mg h) (k : ∀ b o, h.get? b = some o → h'.get? b = some o) : SxG mg h' := by
  obtain ⟨mb, ⟨o, es, ep, e1, e2, e3⟩, e4⟩ := G.nsB
  obtain ⟨o', es', ep', e1', e2', e3'⟩ := G.nsG
  exact ⟨⟨o', es', ep', k _ _ e1', e2', e3'⟩, G.mgS, ⟨mb, ⟨o, es, ep, k _ _ e1, e2, e3⟩, e4⟩, G.lim.keeps k⟩

theorem ns_keeps {h h' : Heap} {L : Addr} {m : Str → Option Value} (n : h.Ns L m) (k : ∀ b o, h.get? b = some o → h'.get? b = some o) : h'.Ns L m := by
  obtain ⟨o, es, ep, e1, e2, e3⟩ := n
  exact ⟨o, es, ep, k _ _ e1, e2, e3⟩

/-- the whole: __init__(self) of super().__init__() alone -/
theorem sx_run0 {C fI cc x t0 : Addr} {params : Arguments} {scope : Scope} {mg : Str → Option Value} {p0 p1 p2 p3 p4 : Pos} {R : Result → Shared → Prop} {hh : Heap} {g : Array GenState} {d : Drawn} {t : Nat} {os : OsState}
    (S : SxC prog K C fI cc params [SuSt [] p0 p1 p2 p3 p4] scope) (T : SxS scope ["self"]) (X : K.In hh) (G : SxG mg hh) (hp : ∃ ar : Arg, (params.posonlyargs ++ params.args).head? = some ar ∧ ar.arg = "self")
    (hb : ∀ (name qual : Str) (kV doc pm : Value) (an : Option Addr) (cdv ct : Value) (u : Value), bindArgs (ksFn name qual params [SuSt [] p0 p1 p2 p3 p4] scope .none kV doc pm an cdv ct cc) ⟨[u], []⟩ = pure [(("self" : Str), u)])
    (hev : ∀ (env : Env), ∃ pl : Sem Bool, eval (.Call (.Attribute (.Call (.Name "super" p0) [] [] p1) "__init__" p2) [] [] p3) env = (do
      let ov ← attributeBase (.Call (.Name "super" p0) [] [] p1) "__init__" env (eval (.Call (.Name "super" p0) [] [] p1) env)
      standAt p2.atName
      let (f, first) ← holding [ov] (getMethod ov "__init__" pl)
      callWith p3 f first (backTo p3 (starEach [] env)) []))
    (hroom : A.depth < recursionLimit) (he : hh.get? x = some (PySem.HandSPX.excO C t0))
    (h : ∀ h' tk', (∀ b o, b ≠ x → hh.get? b = some o → h'.get? b = some o) → (∃ t1, h'.get? x = some (PySem.HandSPX.excO C t1)) → R (.ok (.ret .none)) ⟨h', g, d, tk', os⟩) :
    codeAny (model prog w) A (.call (.ref fI) ⟨[.ref x], []⟩) R ⟨hh, g, d, t, os⟩ := by
  obtain ⟨name, qual, kV, doc, pm, an, cda, ct, oc, od, osl, lk, hcd, ccl, cdd, vs, ccs, file, tf, lc, hvs, hfile⟩ := S.fn
  obtain ⟨mb, nsB, mbS⟩ := G.nsB
  refine ks_codeAny_call_defAt (fd := ksFn name qual params [SuSt [] p0 p1 p2 p3 p4] scope .none kV doc pm an (.ref cda) ct cc) (binds := [(("self" : Str), .ref x)]) hroom (X _ _ lk) rfl G.lim (codeRec_of X hcd) rfl (.of_eq (hb _ _ _ _ _ _ _ _ _)) T.cell (fun y hy => ?_) (fun h₀ hns kk => ?_) T.co T.gen T.kind
  · rcases List.mem_cons.mp hy with rfl | hy
    · exact T.par _ (List.mem_cons_self ..)
    · cases hy
  have G0 := G.keeps kk
  obtain ⟨mb0, nsB0, mbS0⟩ := G0.nsB
  show PySem.wpAt _ _ (.func _ (ksEnv qual scope hh.objs.size fI (.ref cda) cc)) (execs _ (ksEnv qual scope hh.objs.size fI (.ref cda) cc)) _ _ _
  refine ks_wpAt_execs_cons (ks_wpAt_Expr_any ?_ (by unfold interactive; rw [show (ksEnv qual scope hh.objs.size fI (.ref cda) cc).scope.kind = .function from T.kind] <;> rfl))
  obtain ⟨pl, hev1⟩ := hev (ksEnv qual scope hh.objs.size fI (.ref cda) cc)
  refine sx_call (rest := []) S (X.keeps kk) lk lc hvs hfile G0.nsG G.mgS nsB0 mbS0 hp hns rfl (kk _ _ he) T.kind T.su T.kc (T.par _ (List.mem_cons_self ..)) hev1 (Nat.zero_le _) rfl (fun u s2 Q2 _ q => evalArgs_empty q) fun h' tk' k e => ?_
  have kx : ∀ b o, b ≠ x → hh.get? b = some o → h'.get? b = some o := fun b o hb ho => k b o hb (kk b o ho)
  exact wpAt_of_wpAny (wpAny_execs_nil (h h' tk' kx e))
end
end PL
end
section
set_option Elab.async false
set_option linter.all false
set_option maxRecDepth 100000
set_option maxHeartbeats 4000000
set_option autoImplicit false
namespace PL
open PySem PySem.Spec PySem.W PySem.Calls
open PyProof.Rows hiding St
section
variable {prog : Program} {w : World} {A : Around} {E : Value → Shared → Prop} {K : Frag}
abbrev sxB1 (y f : Str) (p0 p1 p2 p3 p4 p5 p6 p7 p8 p9 : Pos) : List Stmt := [SuSt [.Name y p5] p0 p1 p2 p3 p4, .Assign [.Attribute (.Name "self" p6) f p7] (.Name y p8) p9]
/-- the whole: __init__(self, y) of super().__init__(y) and self.f = y -/
theorem sx_run1 {C fI cc x t0 : Addr} {y f : Str} {params : Arguments} {scope : Scope} {mg : Str → Option Value} {p0 p1 p2 p3 p4 p5 p6 p7 p8 p9 : Pos} {R : Result → Shared → Prop} {hh : Heap} {g : Array GenState} {d : Drawn} {t : Nat} {os : OsState} {v : Value}
    (S : SxC prog K C fI cc params (sxB1 y f p0 p1 p2 p3 p4 p5 p6 p7 p8 p9) scope) (T : SxS scope ["self", y]) (X : K.In hh) (G : SxG mg hh) (hp : ∃ ar : Arg, (params.posonlyargs ++ params.args).head? = some ar ∧ ar.arg = "self")
    (hb : ∀ (name qual : Str) (kV doc pm : Value) (an : Option Addr) (cdv ct : Value) (u v : Value), bindArgs (ksFn name qual params (sxB1 y f p0 p1 p2 p3 p4 p5 p6 p7 p8 p9) scope .none kV doc pm an cdv ct cc) ⟨[u, v], []⟩ = pure [(("self" : Str), u), (y, v)])
    (hev : ∀ (env : Env), ∃ pl : Sem Bool, eval (.Call (.Attribute (.Call (.Name "super" p0) [] [] p1) "__init__" p2) [.Name y p5] [] p3) env = (do
      let ov ← attributeBase (.Call (.Name "super" p0) [] [] p1) "__init__" env (eval (.Call (.Name "super" p0) [] [] p1) env)
      standAt p2.atName
      let (f, first) ← holding [ov] (getMethod ov "__init__" pl)
      callWith p3 f first (backTo p3 (starEach [.Name y p5] env)) []))
    (hy : y ≠ ("self" : Str)) (hyd : (y == ("__debug__" : Str)) = false) (sa : PySem.W.findIn K (.ref C) "__setattr__" = some (some (.builtin "object.__setattr__"))) (hno : PySem.W.findIn K (.ref C) f = some none)
    (hxK : K.lookup x = none) (hroom : A.depth < recursionLimit) (he : hh.get? x = some (PySem.HandSPX.excO C t0))
    (h : ∀ h' tk' dx, (∀ b o, b ≠ x → hh.get? b = some o → h'.get? b = some o) → hh.objs.size ≤ dx → dx ≠ x → (∃ t1 : Addr, h'.get? x = some ({ cls := .ref C, dict := some dx, data := .fields #[.ref t1, .none, .none, .none, .bool false, .none] } : Obj)) →
      h'.Ns1 dx (fun z => if z = f then some v else none) → R (.ok (.ret .none)) ⟨h', g, d, tk', os⟩) :
    codeAny (model prog w) A (.call (.ref fI) ⟨[.ref x, v], []⟩) R ⟨hh, g, d, t, os⟩ := by
  obtain ⟨name, qual, kV, doc, pm, an, cda, ct, oc, od, osl, lk, hcd, ccl, cdd, vs, ccs, file, tf, lc, hvs, hfile⟩ := S.fn
  obtain ⟨nm, qq, N, bs, bm, sn, sub, ab, col, dd, k0, k1, k2, k3, k5, hC, hbm⟩ := S.cls
  obtain ⟨mb, nsB, mbS⟩ := G.nsB
  refine ks_codeAny_call_defAt (fd := ksFn name qual params (sxB1 y f p0 p1 p2 p3 p4 p5 p6 p7 p8 p9) scope .none kV doc pm an (.ref cda) ct cc) (binds := [(("self" : Str), .ref x), (y, v)]) hroom (X _ _ lk) rfl G.lim (codeRec_of X hcd) rfl (.of_eq (hb _ _ _ _ _ _ _ _ _ _)) T.cell (fun z hz => ?_) (fun h₀ hns kk => ?_) T.co T.gen T.kind
  · rcases List.mem_cons.mp hz with rfl | hz
    · exact T.par _ (List.mem_cons_self ..)
    · rcases List.mem_cons.mp hz with rfl | hz
      · exact T.par _ (List.mem_cons_of_mem _ (List.mem_cons_self ..))
      · cases hz
  have G0 := G.keeps kk
  obtain ⟨mb0, nsB0, mbS0⟩ := G0.nsB
  have mself : (fun z => ([(("self" : Str), Value.ref x), (y, v)] : List (Str × Value)).reverse.lookup z) ("self" : Str) = some (.ref x) := by
    show ([(y, v), (("self" : Str), Value.ref x)] : List (Str × Value)).lookup ("self" : Str) = _
    have e : (("self" : Str) == y) = false := by simpa using (Ne.symm hy)
    simp [List.lookup, e]
  have my : (fun z => ([(("self" : Str), Value.ref x), (y, v)] : List (Str × Value)).reverse.lookup z) y = some v := by
    show ([(y, v), (("self" : Str), Value.ref x)] : List (Str × Value)).lookup y = _
    simp [List.lookup]
  have ky : scope.names.lookup y = some .local := T.par _ (List.mem_cons_of_mem _ (List.mem_cons_self ..))
  have ksf : scope.names.lookup ("self" : Str) = some .local := T.par _ (List.mem_cons_self ..)
  show PySem.wpAt _ _ (.func _ (ksEnv qual scope hh.objs.size fI (.ref cda) cc)) (execs _ (ksEnv qual scope hh.objs.size fI (.ref cda) cc)) _ _ _
  refine ks_wpAt_execs_cons (ks_wpAt_Expr_any ?_ (by unfold interactive; rw [show (ksEnv qual scope hh.objs.size fI (.ref cda) cc).scope.kind = .function from T.kind] <;> rfl))
  obtain ⟨pl, hev1⟩ := hev (ksEnv qual scope hh.objs.size fI (.ref cda) cc)
  have nm1 : ∀ {s2 : Shared} {Q : Value → Shared → Prop} {E : Value → Shared → Prop} {A : Around} {p : Pos}, s2.heap.Ns hh.objs.size (fun z => ([(("self" : Str), Value.ref x), (y, v)] : List (Str × Value)).reverse.lookup z) → Q v s2 → wpAny (model prog w) A (eval (.Name y p) (ksEnv qual scope hh.objs.size fI (.ref cda) cc)) Q E s2 :=
    fun n q => wpAny_Name (wpAny_loadName_local T.kind ky n my q) hyd
  refine sx_call (rest := [v]) S (X.keeps kk) lk lc hvs hfile G0.nsG G.mgS nsB0 mbS0 hp hns mself (kk _ _ he) T.kind T.su T.kc ksf hev1 (by rw [sizeLine_eq]; show 1 ≤ _; decide) rfl
    (fun u s2 Q2 n2 q => evalArgs_plain (spliced_cons (nm1 n2 (spliced_nil q)))) fun h' tk' k e => ?_
  obtain ⟨t1, e⟩ := e
  have kx : ∀ b o, b ≠ x → hh.get? b = some o → h'.get? b = some o := fun b o hb ho => k b o hb (kk b o ho)
  have xL : hh.objs.size ≠ x := fun z => absurd (Heap.lt_size he) (by rw [← z]; exact Nat.lt_irrefl _)
  have ns1 : h'.Ns hh.objs.size (fun z => ([(("self" : Str), Value.ref x), (y, v)] : List (Str × Value)).reverse.lookup z) := by
    obtain ⟨o, es, ep, e1, e2, e3⟩ := hns
    exact ⟨o, es, ep, k _ _ xL e1, e2, e3⟩
  have lt0 : x < hh.objs.size := Heap.lt_size he
  obtain ⟨C1, hcl⟩ : ∃ cd : ClassData, PySem.W.clsIn K C = some cd ∧ PySem.HandSPX.refsVE cd.mro = true ∧ cd.hasDict = true := ⟨{ name := nm, bases := bs, mro := .ref C :: bm, ns := N, qualname := qq, hasDict := true, slotNames := sn, subclasses := sub, abstract := ab, collection := col, hasDel := false }, by unfold PySem.W.clsIn; rw [hC] <;> rfl, hbm, rfl⟩
  have X' : K.In h' := fun b o q => kx b o (fun z => by
    rw [z, hxK] at q
    cases q) (X _ _ q)
  have ho : h'.get? x = some ({ cls := .ref C, dict := none, data := .fields #[.ref t1, .none, .none, .none, .bool false, .none] } : Obj) := e
  refine wpAt_of_wpAny (wpAny_execs_cons ?_)
  refine plainObj_wpAny_Assign_Attribute (nm1 ns1 (wpAny_Name (wpAny_loadName_local T.kind ksf ns1 mself ?_) (by decide))) (by rfl)
  refine PySem.W.set_plain X' (ox := { cls := .ref C, dict := none, data := .fields #[.ref t1, .none, .none, .none, .bool false, .none] }) (od := none) ⟨ho, rfl, rfl, trivial⟩ sa ?_
  refine PySem.HandSPX.exc_osa X' ho hcl.1 hcl.2.1 hcl.2.2 hno (fun h2 tk2 dx k2 dn dne hx hn => ?_)
  refine wpAny_execs_nil (h h2 tk2 dx (fun b o hb q => k2 b o hb (kx b o hb q)) ?_ dne ⟨t1, hx⟩ hn)
  have := Heap.lt_size (show h'.get? hh.objs.size = _ from ns1.choose_spec.choose_spec.choose_spec.1)
  exact Nat.le_of_lt (Nat.lt_of_lt_of_le this dn)
end
end PL
end
section
set_option Elab.async false
set_option linter.all false
set_option maxRecDepth 100000
set_option maxHeartbeats 4000000
set_option autoImplicit false
/-! such an exception made and raised -/
namespace PL
open PySem PySem.Spec L2
open PyProof.Rows hiding St
/-- all that is said of such a class -/
structure SxK (P : Program) (K : PySem.W.Frag) (C fI cc : Addr) (st : Stmt) (ps : List Str) : Prop where
  c : SxC P K C fI cc (defArgs st) (defBody st) (defScope st)
  s : SxS (defScope st) ps
  ini : PySem.W.findIn K (.ref C) "__init__" = some (some (.ref fI))
  tI : PySem.W.typeIn K (.ref fI) = some (.type "function")
  sa : PySem.W.findIn K (.ref C) "__setattr__" = some (some (.builtin "object.__setattr__"))
  exC : PySem.W.subIn K (.ref C) (.type "BaseException") = some true
  tyC : PySem.W.typeIn K (.ref C) = some (.type "type")
  kC : PySem.W.keepIn K (.ref C) = true
section
variable {X : Cx} {pins : List (Addr × Obj)} {σ : L2.St} {H : Hp}
theorem sxg_of {s : Shared} (I : Inv X pins σ H s) (hm : X.mg "super" = none) : SxG X.mg s.heap := by
  obtain ⟨mb, h1, h2⟩ := I.mod.blt
  exact ⟨I.mod.glob.keeps I.bk, hm, ⟨mb, h1.keeps I.bk, (h2 _ (by decide)).trans (by kernel_rfl)⟩, I.nolimit⟩
theorem K_fresh {s : Shared} (I : Inv X pins σ H s) {x : Addr} (h : s.heap.objs.size ≤ x) : X.K.lookup x = none := by
  cases q : X.K.lookup x with
  | none => rfl
  | some o => exact absurd (Heap.lt_size (I.kIn x o q)) (Nat.not_lt.mpr h)
/-- C() -/
theorem pmk0 {x : Str} {C fI cc : Addr} {st : Stmt} {k : Nat} {p pos p0 p1 p2 p3 p4 : Pos} (S : SxK X.prog X.K C fI cc st ["self"]) (hm : X.mg x = some (.ref C)) (mS : X.mg "super" = none) (hr : Room (k + 1) X.A) (hg : Gl X x)
    (eb : defBody st = [SuSt [] p0 p1 p2 p3 p4])
    (hp : ∃ ar : Arg, ((defArgs st).posonlyargs ++ (defArgs st).args).head? = some ar ∧ ar.arg = "self")
    (hb : ∀ (name qual : Str) (kV doc pm : Value) (an : Option Addr) (cdv ct : Value) (u : Value), bindArgs (PySem.W.ksFn name qual (defArgs st) (defBody st) (defScope st) .none kV doc pm an cdv ct cc) ⟨[u], []⟩ = pure [(("self" : Str), u)])
    (hev : ∀ (env : Env), ∃ pl : Sem Bool, eval (.Call (.Attribute (.Call (.Name "super" p0) [] [] p1) "__init__" p2) [] [] p3) env = (do
      let ov ← attributeBase (.Call (.Name "super" p0) [] [] p1) "__init__" env (eval (.Call (.Name "super" p0) [] [] p1) env)
      standAt p2.atName
      let (f, first) ← holding [ov] (getMethod ov "__init__" pl)
      callWith p3 f first (backTo p3 (starEach [] env)) []))
    (hdb : (x == ("__debug__" : Str)) = false := by decide) : PMk X (.Call (.Name x p) [] [] pos) (fun σ H Q => Q (.ref C) none H) := by
  intro pins s σ H Q I q
  have SC := S.c
  rw [eb] at SC hb
  obtain ⟨nm, qq, N, bs, bm, sn, sub, ab, col, dd, k0, k1, k2, k3, k5, hC, hbm⟩ := SC.cls
  refine wpAny_Call_Name_kw (ld_glob I hg hm ?_ hdb)
  refine PySem.W.callWith_K0 I.kIn S.kC ?_
  show wpAny _ _ (call (.ref C) []) _ _ _
  have os0 : s.os = s.os := rfl
  obtain ⟨hp0, g, dr, tk, os⟩ := s
  have hsz : hp0.objs.size ≤ hp0.objs.size + 1 := Nat.le_succ _
  have kk : ∀ b o, hp0.get? b = some o → ((hp0.push (PySem.W.kdv_tup [])).push (PySem.HandSPX.excO C hp0.objs.size)).get? b = some o := fun b o e => Heap.get?_push_of_some _ (Heap.get?_push_of_some _ e)
  have hget : ((hp0.push (PySem.W.kdv_tup [])).push (PySem.HandSPX.excO C hp0.objs.size)).get? (hp0.objs.size + 1) = some (PySem.HandSPX.excO C hp0.objs.size) := by heap_get
  have GX := (sxg_of I mS).keeps kk
  refine wpAny_call (PySem.HandSPX.call_own F.excBase_ValueError (fun Y => PySem.HandSPX.refsVE_contains Y bm hbm) (I.kIn _ _ hC) (PySem.W.looks_findIn I.kIn S.ini) (fun self => PySem.W.bind_fn I.kIn self S.tI) (Nat.zero_le _) ?_)
  refine sx_run0 SC S.s (I.kIn.keeps kk) GX hp hb hev ((hr.make C [] []).depth) hget fun h' tk' k e => ⟨rfl, ?_⟩
  obtain ⟨t1, e⟩ := e
  have kx : ∀ b o, hp0.get? b = some o → h'.get? b = some o := fun b o ho => k b o (Nat.ne_of_lt (Nat.lt_of_lt_of_le (Heap.lt_size ho) hsz)) (kk b o ho)
  exact ⟨hp0.objs.size + 1, _, _, ⟨hp0, g, dr, tk, os⟩, H, .ref C, none, rfl, I, kx, Heap.get?_none_of_le hsz, e, ⟨rfl, rfl⟩, rfl, rfl, I.hok.fresh hsz, rfl, I.bare, raises_own S.exC S.tyC, q⟩
/-- C(e) -/
theorem pmk1 {x y f : Str} {C fI cc : Addr} {st : Stmt} {k : Nat} {e : Expr} {ta : TA} {p pos p0 p1 p2 p3 p4 p5 p6 p7 p8 p9 : Pos} (S : SxK X.prog X.K C fI cc st ["self", y]) (hm : X.mg x = some (.ref C)) (mS : X.mg "super" = none) (hr : Room (k + 1) X.A) (hg : Gl X x) (ha : PA X [e] ta)
    (eb : defBody st = sxB1 y f p0 p1 p2 p3 p4 p5 p6 p7 p8 p9)
    (hp : ∃ ar : Arg, ((defArgs st).posonlyargs ++ (defArgs st).args).head? = some ar ∧ ar.arg = "self")
    (hb : ∀ (name qual : Str) (kV doc pm : Value) (an : Option Addr) (cdv ct : Value) (u v : Value), bindArgs (PySem.W.ksFn name qual (defArgs st) (defBody st) (defScope st) .none kV doc pm an cdv ct cc) ⟨[u, v], []⟩ = pure [(("self" : Str), u), (y, v)])
    (hev : ∀ (env : Env), ∃ pl : Sem Bool, eval (.Call (.Attribute (.Call (.Name "super" p0) [] [] p1) "__init__" p2) [.Name y p5] [] p3) env = (do
      let ov ← attributeBase (.Call (.Name "super" p0) [] [] p1) "__init__" env (eval (.Call (.Name "super" p0) [] [] p1) env)
      standAt p2.atName
      let (f, first) ← holding [ov] (getMethod ov "__init__" pl)
      callWith p3 f first (backTo p3 (starEach [.Name y p5] env)) []))
    (hy : y ≠ ("self" : Str)) (hyd : (y == ("__debug__" : Str)) = false) (hno : PySem.W.findIn X.K (.ref C) f = some none)
    (hdb : (x == ("__debug__" : Str)) = false := by decide) (he : starEach [e] X.env = (false, eval e X.env) :: starEach [] X.env := by rfl) (hpl : (backTo pos (starEach [] X.env)).any (·.1) = false := by rfl) :
    PMk X (.Call (.Name x p) [e] [] pos) (fun σ H Q => ta σ H fun vs H1 => ∃ v, vs = [v] ∧ ∀ d, H1 d = none → Q (.ref C) (some d) (upd H1 d (.xd [(f, v)]))) := by
  intro pins s0 σ H Q I0 h
  have SC := S.c
  rw [eb] at SC hb
  obtain ⟨nm, qq, N, bs, bm, sn, sub, ab, col, dd, k0, k1, k2, k3, k5, hC, hbm⟩ := SC.cls
  refine wpAny_Call_Name_kw (ld_glob I0 hg hm ?_ hdb)
  refine PySem.W.callWith_K (h₀ := X.base) I0.ok.mod.kin S.kC (thn (ha.run pos pins s0 σ H _ I0 h) fun us s1 ⟨vs, H1, I, r1, v, ev, q⟩ => ⟨I.kIn, ?_⟩) he hpl
  subst ev
  obtain ⟨u, rfl, ru⟩ : ∃ u, us = [u] ∧ RelV v u := by
    cases r1 with
    | cons a b => cases b; exact ⟨_, rfl, a⟩
  show wpAny _ _ (call (.ref C) [u]) _ _ _
  obtain ⟨hp0, g, dr, tk, os⟩ := s1
  have hsz : hp0.objs.size ≤ hp0.objs.size + 1 := Nat.le_succ _
  have kk : ∀ b o, hp0.get? b = some o → ((hp0.push (PySem.W.kdv_tup [u])).push (PySem.HandSPX.excO C hp0.objs.size)).get? b = some o := fun b o e => Heap.get?_push_of_some _ (Heap.get?_push_of_some _ e)
  have hget : ((hp0.push (PySem.W.kdv_tup [u])).push (PySem.HandSPX.excO C hp0.objs.size)).get? (hp0.objs.size + 1) = some (PySem.HandSPX.excO C hp0.objs.size) := by heap_get
  have hps : ((hp0.push (PySem.W.kdv_tup [u])).push (PySem.HandSPX.excO C hp0.objs.size)).objs.size = hp0.objs.size + 2 := by simp [Heap.push]
  have GX := (sxg_of I mS).keeps kk
  refine wpAny_call (PySem.HandSPX.call_own F.excBase_ValueError (fun Y => PySem.HandSPX.refsVE_contains Y bm hbm) (I.kIn _ _ hC) (PySem.W.looks_findIn I.kIn S.ini) (fun self => PySem.W.bind_fn I.kIn self S.tI) (by rw [sizeLine_eq]; show 1 ≤ _; decide) ?_)
  refine sx_run1 SC S.s (I.kIn.keeps kk) GX hp hb hev hy hyd S.sa hno (K_fresh I hsz) ((hr.make C [u] []).depth) hget fun h' tk' dx k ld ne e hn => ⟨rfl, ?_⟩
  obtain ⟨t1, e⟩ := e
  rw [hps] at ld
  have kx : ∀ b o, hp0.get? b = some o → h'.get? b = some o := fun b o ho => k b o (Nat.ne_of_lt (Nat.lt_of_lt_of_le (Heap.lt_size ho) hsz)) (kk b o ho)
  obtain ⟨G, g1', g2'⟩ := restrict h' fun b => decide (b ≠ hp0.objs.size + 1)
  have gk : ∀ b, b ≠ hp0.objs.size + 1 → G.get? b = h'.get? b := fun b hb => g1' b (decide_eq_true hb)
  have ge : G.get? (hp0.objs.size + 1) = none := g2' _ (by simp)
  have hnd : H1 dx = none := I.hok.fresh (Nat.le_trans (Nat.le_add_right _ 2) ld)
  have J : Inv X pins σ (upd H1 dx (.xd [(f, v)])) ⟨G, g, dr, tk', os⟩ := by
    refine I.laid (t' := tk') (a := dx) (o := .xd [(f, v)]) (h' := G) (fun b o ho => ?_) (Nat.le_trans (Nat.le_add_right _ 2) ld) ?_
    · rw [gk b (Nat.ne_of_lt (Nat.lt_of_lt_of_le (Heap.lt_size ho) hsz))]
      exact kx b o ho
    · exact ⟨_, hn.at fun o q => (gk dx ne).trans q, relO_put (fs := []) ru fun g => True.intro⟩
  refine ⟨hp0.objs.size + 1, _, _, ⟨G, g, dr, tk', os⟩, _, .ref C, some dx, rfl, J, fun b o ho => ?_, ge, e, ⟨rfl, rfl⟩, rfl, rfl, ?_, rfl, I.bare, raises_own S.exC S.tyC, q dx hnd⟩
  · by_cases hb : b = hp0.objs.size + 1
    · rw [hb, ge] at ho
      cases ho
    · exact (gk b hb).symm.trans ho
  · rw [upd_ne (Ne.symm ne)]
    exact I.hok.fresh hsz
end
end PL
end
section
set_option Elab.async false
set_option linter.all false
set_option maxRecDepth 100000
set_option maxHeartbeats 4000000
set_option autoImplicit false
/-! isinstance of a caught exception, with or without a dict -/
namespace PL
open PySem PySem.Spec PySem.W PySem.Calls
section
variable {K : PySem.W.Frag}
theorem x_findCls {D : Addr} (T : L2.ExcC K D) (od : Option Obj) : findObj K D od "__class__" = some (.bind (.builtin "getset_descriptor.__get__") (.builtin "object.__class__")) := by
  obtain ⟨cd, hc, _⟩ := any_some T.hd
  show (clsIn K D).bind _ = _
  rw [hc, Option.bind_some, T.ha]
  simp [T.hn, T.ht]
theorem x_class {prog : Program} {w : World} {A : Around} {E : Value → Shared → Prop} {s : Shared} {x D : Addr} {ox : Obj} {od : Option Obj} {Q : Option Value → Shared → Prop} (T : L2.ExcC K D) (X : K.In s.heap) (I : InstAt s.heap x ox D od) (q : Q (some (.ref D)) { s with toks := s.toks + 1 }) :
    wpAny (model prog w) A (getAttr? (.ref x) "__class__") Q E s := by
  obtain ⟨hp, gs, dr, tk, os⟩ := s
  have LT := I.type (M := model prog w)
  have LB : Looks (model prog w) hp (isInstance (.ref x) (.type "BaseException")) true := LT.andThen (looks_subIn X T.hs)
  have LF := looks_find (M := model prog w) X I (x_findCls T od)
  have no1 : (Value.builtin "BaseException.__getattribute__" == Value.builtin "object.__getattribute__") = false := by decide +kernel
  have no2 : (onTheHeap (Value.ref D) && Value.builtin "BaseException.__getattribute__" == Value.builtin "object.__getattribute__") = false := by rw [no1]; rfl
  unfold getAttr? getAttrBy? getAttrBy
  refine wpAny_bind (wpAny_mkText (wpAny_bind (wpAny_attempt (wpAny_holding (wpAny_bind (LT.at (wpAny_bind ((looks_findIn (M := model prog w) X T.hg).at ?_))))))))
  show wpAny _ _ (ite ((onTheHeap (Value.ref D) && Value.builtin "BaseException.__getattribute__" == Value.builtin "object.__getattribute__") = true) _ _) _ _ _
  rw [no2, if_neg Bool.false_ne_true]
  unfold getAttrByItsOwn hookBefore
  refine wpAny_bind ?_
  rw [if_pos (show onTheHeap (Value.ref D) = true from rfl)]
  refine (looks_findIn (M := model prog w) X T.hk).at (wpAny_bind (wpAny_attempt (wpAny_holding ?_)))
  unfold callGetattribute
  rw [show (false && onTheHeap (Value.builtin "BaseException.__getattribute__")) = false from rfl, if_neg Bool.false_ne_true]
  unfold boundAndCalled
  rw [PySem.F.excAttr_ValueError.ga.bind (.ref x)]
  refine wpAny_bind (wpAny_pure ?_)
  show wpAny _ _ (call (.builtin "BaseException.__getattribute__") [.ref x, .str "__class__" tk]) _ _ _
  refine wpAny_call (codeAny_call_builtin PySem.F.excAttr_ValueError.ga.plain PySem.F.entry_bexc_ga (@check_slot (model prog w) _ _ ⟨hp, gs, dr, tk + 1, os⟩ "BaseException.__getattribute__" "BaseException" "__getattribute__" (.ref x) [.str "__class__" tk] [] _ (by decide +kernel) (by decide +kernel) LB
    (PySem.F.args_bexc_ga (.ref x) (.str "__class__" tk)) ?_))
  unfold Builtin.«object.__getattribute__»
  refine wpAny_bind (wpAny_of_eq (a := ((Value.ref x : Value), [Value.str "__class__" tk])) (by first | rfl | (simp only [slotArgs]; rfl)) (wpAny_bind (wpAny_pure (wpAny_bind (LT.at (wpAny_bind (LF.at ?_)))))))
  show wpAny _ _ (holding [Value.builtin "object.__class__"] (call (.builtin "getset_descriptor.__get__") [.builtin "object.__class__", .ref x, .ref D]) >>= ret) _ _ _
  refine wpAny_bind (wpAny_holding (wpAny_call (class_get (s := ⟨hp, gs, dr, tk + 1, os⟩) (ox := ox) (od := od) X I T.hm (wpAny_pure ?_))))
  show wpAny _ _ (handedOut (.ref D)) _ _ _
  rw [handedOut_of (v := .ref D) rfl]
  first
    | exact wpAny_pure (wpAny_pure q)
    | exact wpAny_pure q
    | exact wpAny_pure (wpAny_bind (wpAny_pure (wpAny_pure q)))
theorem x_kit {x D : Addr} {ox : Obj} {od : Option Obj} (T : L2.ExcC K D) : KitX K (.ref x) (.ref D) (fun h => InstAt h x ox D od) := by
  obtain ⟨cdD, hcD, _⟩ := any_some T.hd
  obtain ⟨co, dd, cs, hl⟩ : ∃ co dd cs, K.lookup D = some ⟨co, dd, .cls cdD, cs⟩ := by
    unfold clsIn at hcD
    split at hcD
    · rename_i c' d' cd' sl' ho
      cases hcD
      exact ⟨_, _, _, ho⟩
    · cases hcD
  refine ⟨fun _ _ _ I => I.type, fun _ _ X _ => ?_, fun h tp dd its n sl X htp => ?_, fun X I k => x_class T X I k⟩
  · intro A' Q' E' s' k q
    unfold isType loadHead
    exact wpAny_bind (wpAny_loadPart (k _ _ (X _ _ hl)) (wpAny_pure q))
  · cases q : (Value.ref D == .ref tp) with
    | false => rfl
    | true =>
      have e : D = tp := Value.ref.inj (beq_iff_eq.mp q)
      subst e
      have z := (X _ _ hl).symm.trans htp
      cases z
end
end PL

namespace PL
open PySem PySem.Spec L2
open PyProof.Rows hiding St
/-- isinstance(e, c), e the exception that the suite holds -/
theorem call_isX {X : Cx} {a D : Addr} {oe : Obj} {d : Option Addr} {pn : List (Addr × Obj)} (C : ExcC X.K D) (hz : Zc (.ref D) d oe) (hf : ∃ vs, oe.data = .fields vs) :
    CallR (X.suite a ((a, oe) :: pn)) (.builtin "isinstance") (fun xs H Q => (∀ dx, d = some dx → ∃ fs, H dx = some (.xd fs)) ∧ ∃ (c : V) (cv : Value) (b : Bool), xs = [.ref a, c] ∧ (∀ u, RelV c u → u = cv) ∧ PySem.W.kitOne X.K (.ref D) cv = some b ∧ Q (.bl b) H) := by
  intro pins s σ H xs us Q I r h
  obtain ⟨hd, c, cv, b, rfl, hcv, e, q⟩ := h
  obtain ⟨u0, ut, rfl, rx, rt⟩ : ∃ u0 ut, us = [u0, ut] ∧ RelV (.ref a) u0 ∧ RelV c ut := by
    cases r with
    | cons rx rr => cases rr with
      | cons rt rr => cases rr; exact ⟨_, _, rfl, rx, rt⟩
  obtain rfl : u0 = Value.ref a := rx
  obtain rfl := hcv _ rt
  obtain ⟨hget, _⟩ := I.pin (a, oe) (List.mem_append.mpr (.inl List.mem_cons_self))
  obtain ⟨vs, hv⟩ := hf
  have J : ∃ od, PySem.W.InstAt s.heap a oe D od := by
    cases d with
    | none => exact ⟨none, hget, hz.1, by unfold PySem.W.notCls; rw [hv] <;> rfl, by rw [hz.2]; trivial⟩
    | some dx =>
      obtain ⟨fs, hx⟩ := hd dx rfl
      obtain ⟨mA, hns, _⟩ := (show ObjOk X.prog X.w H s.heap dx (.xd fs) from I.hok dx _ hx)
      obtain ⟨od, ho, _⟩ := lookIn_ns hns
      exact ⟨some od, hget, hz.1, by unfold PySem.W.notCls; rw [hv] <;> rfl, by rw [hz.2]; exact ho⟩
  obtain ⟨od, J⟩ := J
  exact PySem.W.kia_one (x_kit C) I.kIn J e (fun z => nomatch z) fun tk => ⟨.bl b, H, I.kept (t' := tk) fun _ _ z => z, rfl, q⟩
end PL
end
section
set_option Elab.async false
set_option linter.all false
set_option maxRecDepth 100000
set_option autoImplicit false
/-! exceptions in the W layer: raise; try of a call; isinstance and a field in the suite -/
namespace PL
open PySem PySem.Spec L2
open PyProof.Rows hiding St
section
variable {X : Cx} {c : Pc} {e : Expr} {fe : WE} {pos : Pos} {o : OP}
/-- raise C() -/
def wRaise0 (x : Str) : WS := fun _ E _ => E ⟨x, []⟩
theorem ws_raise0 {x : Str} {C : Addr} (hc : X.calm = true) (tk : Takes X c.W) (hm : c.mg x = some (.ref C)) (h : PMk X e (fun σ H Q => Q (.ref C) none H)) : PS X (.Raise (some e) none pos) (tWS c (wRaise0 x)) :=
  PS.imp (ps_raise hc tk h) fun D σ H ⟨G, ρ, k, E, s, sr, q, ok, xa⟩ => xa _ q (.ref C) none σ G H s ⟨⟨C, rfl, hm⟩, rfl⟩
/-- raise C(e), kept as f: a number or a text -/
def wRaise1 (x f : Str) (fe : WE) : WS := fun _ E ρ => fe ρ (fun r => ((∃ i, r.toD = .int i) ∨ ∃ s, r.toD = .str s) ∧ E ⟨x, [(f, r.toD)]⟩) E
theorem ws_raise1 {x f : Str} {C : Addr} {e' : Expr} (hJ : c.J = JO o) (hc : X.calm = true) (tk : Takes X c.W) (hm : c.mg x = some (.ref C)) (he : PE X e (tWE c fe)) (hs : starEach [e] X.env = (false, eval e X.env) :: starEach [] X.env)
    (h : PA X [e] (tCons (tWD c fe) tNil) → PMk X e' (fun σ H Q => tCons (tWD c fe) tNil σ H fun vs H1 => ∃ v, vs = [v] ∧ ∀ d, H1 d = none → Q (.ref C) (some d) (upd H1 d (.xd [(f, v)])))) : PS X (.Raise (some e') none pos) (tWS c (wRaise1 x f fe)) := by
  refine PS.imp (ps_raise hc tk (h (pa_cons (pdD he) pa_nil hs))) fun D σ H ⟨G, ρ, k, E, s, sr, q, ok, xa⟩ => ?_
  show tWD c fe σ H _
  refine inSD s sr xa q fun r p v G' H' s' s2 rd sr' => ⟨v, rfl, fun d hd => ?_⟩
  refine xa _ p.2 (.ref C) (some d) σ (gupd G' d (.inv 2 [.str f, r.toD])) (upd H' d (.xd [(f, v)])) (s'.trans (Step.new c.jo s'.coh hd ?_)) ⟨⟨C, rfl, hm⟩, d, rfl, gupd_same⟩
  show c.J 2 _ _ _ _
  rw [hJ]
  refine ⟨f, r.toD, v, rfl, upd_same, ?_⟩
  rcases p.1 with ⟨i, e1⟩ | ⟨i, e1⟩
  · exact .inl ⟨i, e1, by rw [e1] at rd; exact rd.int_⟩
  · exact .inr ⟨i, e1, by rw [e1] at rd; exact rd.str_⟩

/-- an exception as it lies in a slot -/
def exD (x : Exc) (a dx : Addr) : D := match x.fs with
  | [] => .raw a none []
  | (n, f) :: _ => .raw a (some dx) [.str n, f]
def exd? (x : Exc) (dx : Addr) : Option Addr := match x.fs with
  | [] => none
  | _ => some dx
theorem exD_rep {x : Exc} {a dx : Addr} {mg : Str → Option Value} {G : Gh} {H : Hp} {cls : Value} {d : Option Addr} (r : XRep mg G H x cls d) (hd : ∀ b, d = some b → b = dx) : Rep G (exD x a dx) (.ref a) ∧ d = exd? x dx := by
  obtain ⟨n, fs⟩ := x
  obtain ⟨_, h⟩ := r
  cases fs with
  | nil =>
    refine ⟨?_, h⟩
    unfold exD; unfold Rep; rfl
  | cons p fs =>
    obtain ⟨n, f⟩ := p
    obtain ⟨b, e, g⟩ := h
    have z := hd b e
    subst z
    refine ⟨?_, e⟩
    unfold exD; unfold Rep
    exact ⟨rfl, g⟩
theorem SRep.back {J : JT} {jo : JOk J} {G0 G1 G : Gh} {H0 H1 H : Hp} {σ : L2.St} {ρ : Rho} (s : Step J G0 H0 G1 H1) (sr : SRep H1 G H σ ρ) : SRep H0 G H σ ρ :=
  ⟨sr.len, fun i r e => let ⟨v, h1, h2⟩ := sr.at_ i r e; ⟨v, h1, h2.back jo s⟩, sr.apart⟩
theorem SRep.noOwn {H0 H1 G H} {σ : L2.St} {ρ : Rho} (sr : SRep H0 G H σ ρ) (no : ∀ r, some r ∈ ρ → r.isOwn = false) : SRep H1 G H σ ρ := by
  refine ⟨sr.len, fun i r e => ?_, sr.apart⟩
  obtain ⟨v, h1, h2⟩ := sr.at_ i r e
  refine ⟨v, h1, ?_⟩
  have n := no r (List.mem_of_getElem? e)
  cases r with
  | val d => exact h2
  | own ds => cases n
  | ownd t ds => cases n

/-- try: e / except C as n: suite. All that e lets out is of the known classes -/
def wTryE (known : List Str) (i : Nat) (f : WE) (v : Exc → Addr → Addr → WS) : WS := fun k E ρ => (∀ r, some r ∈ ρ → r.isOwn = false) ∧ f ρ (fun _ => k.nx ρ) (fun x => x.cls ∈ known ∧
  ∀ a dx, v x a dx { nx := fun ρ' => k.nx (ρ'.set i none), rt := k.rt, bk := fun ρ' => k.bk (ρ'.set i none), ct := fun ρ' => k.ct (ρ'.set i none) } noX (ρ.set i (some (.val (exD x a dx)))))
/-- the ground of a suite -/
abbrev Pc.suite (c : Pc) (G : Gh) (H : Hp) : Pc := { c with G0 := G, H0 := H, W := fun _ _ _ _ => False }
abbrev Pc.wish (c : Pc) (W : WX) : Pc := { c with W := W }
theorem SRep.unset {H0 H : Hp} {G : Gh} {σ : L2.St} {ρ : Rho} (sr : SRep H0 G H σ ρ) (i : Nat) : SRep H0 G H (σ.set i none) (ρ.set i none) := by
  have key : ∀ (j : Nat) (r : R), (ρ.set i none)[j]? = some (some r) → j ≠ i ∧ ρ[j]? = some (some r) := fun j r e => by
    by_cases hj : i = j
    · subst hj
      rw [List.getElem?_set, if_pos rfl] at e
      split at e <;> cases e
    · rw [List.getElem?_set_ne hj] at e; exact ⟨Ne.symm hj, e⟩
  have keyS : ∀ (j : Nat), j ≠ i → (σ.set i none)[j]? = σ[j]? := fun j hj => List.getElem?_set_ne (Ne.symm hj)
  refine ⟨by rw [List.length_set, List.length_set]; exact sr.len, fun j r e => ?_, fun j k r r' p e1 e2 o1 o2 h1 h2 => ?_⟩
  · obtain ⟨n, e⟩ := key j r e
    rw [keyS j n]
    exact sr.at_ j r e
  · obtain ⟨n1, e1⟩ := key j r e1
    obtain ⟨n2, e2⟩ := key k r' e2
    rw [keyS _ n1] at h1
    rw [keyS _ n2] at h2
    exact sr.apart j k r r' p e1 e2 o1 o2 h1 h2
theorem ws_try {known : List Str} {x n : Str} {cv : Value} {i : Nat} {b₀ : Stmt} {suite : List Stmt} {np p1 p2 : Pos} {f : WE} {v : Exc → Addr → Addr → WS}
    (hs : X.stack = X.env :: X.outer) (hf : X.env.frame = some X.env.locals) (hN : X.N.Nodup) (hi : X.N[i]? = some n) (hln : X.env.kindOf n = some .local) (hc : Names X x cv)
    (hk : ∀ y ∈ known, ∃ C, c.mg y = some (.ref C) ∧ PySem.W.exmOne X.K (.ref C) cv = some true)
    (he : ∀ (W : WX) (pn : List (Addr × Obj)) (xe : Value → Shared → Prop), Takes (X.tr pn xe) W → PE (X.tr pn xe) e (tWE (c.wish W) f))
    (hsw : ∀ (pn : List (Addr × Obj)) (xe : Value → Shared → Prop), swapsWith e none p1.line (X.tr pn xe).env = pure false)
    (hv : ∀ (y : Exc) (a dx : Addr) (oe : Obj) (C : Addr) (pn : List (Addr × Obj)) (G : Gh) (H : Hp), Zc (.ref C) (exd? y dx) oe → (∃ vs, oe.data = .fields vs) → y.cls ∈ known → c.mg y.cls = some (.ref C) → PSs (X.suite a ((a, oe) :: pn)) (b₀ :: suite) (tWS (c.suite G H) (v y a dx))) :
    PS X (.Try [.Expr e p1] [.ExceptHandler (some (.Name x np)) (some n) (b₀ :: suite) p2] [] [] pos) (tWS c (wTryE known i f v)) := by
  have base := ps_try_as (X := X) (body := [.Expr e p1]) (tb := fun W D σ H => tWE (c.wish W) f σ H (fun _ H' => D.nx σ H')) (Wout := fun _ _ _ _ => False) (pos := pos) (pos' := p2) (np := np) (b₀ := b₀) (suite := suite)
    (ts := fun a cls d D σ H => ∃ y dx G C, cls = .ref C ∧ y.cls ∈ known ∧ c.mg y.cls = some (.ref C) ∧ d = exd? y dx ∧ tWS (c.suite G H) (v y a dx) D σ H)
    hs hf hN hi hln hc takes0 (fun W pn xe tk _ => ?_) (fun a oe cls d pn hz hfd => ?_)
  · refine PS.imp base fun D σ H ⟨G, ρ, k, E, s, sr, ⟨no, q⟩, ok, xa⟩ => ?_
    refine ⟨G, ρ, _, _, s.coh, sr, q, fun r p v' G' H' s2 rr => ok.nx _ p σ G' H' s2.le (s.trans s2) (sr.step s2), fun y hy cls d G' H' s2 xr => ?_⟩
    obtain ⟨hyk, hyv⟩ := hy
    obtain ⟨C, hC, hex⟩ := hk y.cls hyk
    obtain ⟨⟨C', ec, hC'⟩, _⟩ := id xr
    obtain rfl : C' = C := by
      have z : some (Value.ref C') = some (Value.ref C) := hC'.symm.trans hC
      exact Value.ref.inj (Option.some.inj z)
    subst ec
    refine ⟨true, hex, fun _ a _ => ?_, fun z => by cases z⟩
    obtain ⟨dx, hdx⟩ : ∃ dx, ∀ b, d = some b → b = dx := by
      cases d with
      | none => exact ⟨0, fun b z => by cases z⟩
      | some b => exact ⟨b, fun b' z => (Option.some.inj z).symm⟩
    obtain ⟨rx, hd⟩ := exD_rep (a := a) xr hdx
    refine ⟨y, dx, G', C', rfl, hyk, hC, hd, ?_⟩
    refine ⟨G', _, _, noX, Step.refl s2.coh, ((sr.step s2).noOwn no).setVal i rx, hyv a dx, ⟨fun ρ' h σ' G2 H2 le s3 sr3 => ?_, fun r h v2 G2 H2 le s3 rr => ?_, fun ρ' h σ' G2 H2 le s3 sr3 => ?_, fun ρ' h σ' G2 H2 le s3 sr3 => ?_⟩, fun _ z => z.elim⟩
    · exact ok.nx _ h _ _ _ (s2.le.trans s3.le) ((s.trans s2).trans s3) ((SRep.back (jo := c.jo) (s.trans s2) sr3).unset i)
    · exact ok.rt _ h _ _ _ (s2.le.trans s3.le) ((s.trans s2).trans s3) (rr.back c.jo (s.trans s2))
    · exact ok.bk _ h _ _ _ (s2.le.trans s3.le) ((s.trans s2).trans s3) ((SRep.back (jo := c.jo) (s.trans s2) sr3).unset i)
    · exact ok.ct _ h _ _ _ (s2.le.trans s3.le) ((s.trans s2).trans s3) ((SRep.back (jo := c.jo) (s.trans s2) sr3).unset i)
  · exact pss_cons (ps_expr (he W pn xe tk) (hsw pn xe)) pss_nil
  · refine ⟨fun pins s σ H D I ⟨y, dx, G, C, ec, hyk, hC, hd, h⟩ => ?_⟩
    subst ec hd
    exact (hv y a dx oe C pn G H hz hfd hyk hC).run pins s σ H D I h
end
end PL
end
section
set_option Elab.async false
set_option linter.all false
set_option maxRecDepth 100000
set_option autoImplicit false
/-! in an except suite: isinstance of what was caught, its field -/
namespace PL
open PySem PySem.Spec L2
open PyProof.Rows hiding St
section
variable {X : Cx} {c : Pc} {pos : Pos} {o : OP} {a dx C : Addr} {oe : Obj} {pn : List (Addr × Obj)} {x : Exc} {i : Nat} {n : Str}
theorem exD_dict {G : Gh} {H : Hp} (co : Coh (JO o) G H) (r : Rep G (exD x a dx) (.ref a)) : ∀ d, exd? x dx = some d → ∃ f g v, H d = some (.xd [(f, v)]) ∧ (∃ r, x.fs = (f, g) :: r) ∧ Rep G g v := by
  intro d e
  obtain ⟨nm, fs⟩ := x
  cases fs with
  | nil => cases e
  | cons p fs =>
    obtain ⟨f, g⟩ := p
    obtain rfl : dx = d := Option.some.inj e
    unfold exD at r
    unfold Rep at r
    obtain ⟨f', g', v, e1, e2, e3⟩ := (show JExn [.str f, g] H dx from co dx _ r.2)
    obtain ⟨rfl, rfl⟩ : f = f' ∧ g = g' := by simpa using e1
    refine ⟨f, g, v, e2, ⟨fs, rfl⟩, ?_⟩
    rcases e3 with ⟨i, e4, e5⟩ | ⟨i, e4, e5⟩
    · rw [e4, e5]; unfold Rep; rfl
    · rw [e4, e5]; unfold Rep; rfl
/-- isinstance(e, y) -/
def wIsX (i : Nat) (d : D) (b : Bool) : WE := fun ρ P _ => ρ[i]? = some (some (.val d)) ∧ P (.val (.bl b))
theorem isX_any {G0 : Gh} {H0 : Hp} {p p1 : Pos} {e2 : Expr} {cv : Value} {vc : V} {b : Bool} (hJ : c.J = JO o) (T : ExcC X.K C) (hz : Zc (.ref C) (exd? x dx) oe) (hf : ∃ vs, oe.data = .fields vs) (hi : X.N[i]? = some n) (hv : Vis X.env.scope n)
    (hg : Gl X "isinstance") (hm : X.mg "isinstance" = none) (hcv : ∀ u, RelV vc u → u = cv) (hk : PySem.W.kitOne X.K (.ref C) cv = some b) (h2 : PE (X.suite a ((a, oe) :: pn)) e2 (tC vc))
    (hd : (n == ("__debug__" : Str)) = false) (hcd : (n == ("__classdict__" : Str)) = false)
    (s1 : starEach [.Name n p1, e2] X.env = (false, eval (.Name n p1) X.env) :: starEach [e2] X.env) (s2 : starEach [e2] X.env = (false, eval e2 X.env) :: starEach [] X.env) (hpl : (backTo pos (starEach [e2] X.env)).any (·.1) = false) :
    PE (X.suite a ((a, oe) :: pn)) (.Call (.Name "isinstance" p) [.Name n p1, e2] [] pos) (tWE (c.suite G0 H0) (wIsX i (exD x a dx) b)) := by
  refine PE.imp (pe_callB (X := X.suite a ((a, oe) :: pn)) (call_isX T hz hf) hg hm (by decide +kernel) (pa_cons (X := X.suite a ((a, oe) :: pn)) (pe_var (X := X.suite a ((a, oe) :: pn)) hi hv hd hcd) (pa_cons (X := X.suite a ((a, oe) :: pn)) h2 pa_nil s2) s1) (by decide) (by decide) s1 hpl) fun σ H Q ⟨G, ρ, P, E, co, sr, ⟨h, hp⟩, hq, hx⟩ => ?_
  obtain ⟨v, h1, rv⟩ := sr.get h
  obtain rfl : v = V.ref a := by
    have z : Rep G (exD x a dx) v := rv
    obtain ⟨nm, fs⟩ := x
    cases fs with
    | nil => unfold exD at z; unfold Rep at z; exact z
    | cons q fs => unfold exD at z; unfold Rep at z; exact z.1
  have co' : Coh (JO o) G H := hJ ▸ co
  exact ⟨_, h1, fun d e => let ⟨f, g, v, e1, _⟩ := exD_dict co' rv d e; ⟨_, e1⟩, vc, cv, b, rfl, hcv, hk, hq _ hp _ G H (Step.refl co) rr_bl⟩
/-- .. y a class of the program -/
theorem pd_isXo {G0 : Gh} {H0 : Hp} {p p1 p2 : Pos} {y : Str} {Cy : Addr} {b : Bool} (hJ : c.J = JO o) (T : ExcC X.K C) (hz : Zc (.ref C) (exd? x dx) oe) (hf : ∃ vs, oe.data = .fields vs) (my : X.mg y = some (.ref Cy)) (hk : PySem.W.kitOne X.K (.ref C) (.ref Cy) = some b) (hm : X.mg "isinstance" = none)
    (i : Nat) (hi : X.N[i]? = some n := by rfl) (hv : Vis X.env.scope n := by first | exact Or.inl rfl | exact Or.inr (Or.inl rfl) | exact Or.inr (Or.inr rfl)) (hg : Gl X "isinstance" := by rfl) (gy : Gl X y := by rfl) (hy : (y == ("__debug__" : Str)) = false := by decide)
    (hd : (n == ("__debug__" : Str)) = false := by decide) (hcd : (n == ("__classdict__" : Str)) = false := by decide)
    (s1 : starEach [.Name n p1, .Name y p2] X.env = (false, eval (.Name n p1) X.env) :: starEach [.Name y p2] X.env := by rfl) (s2 : starEach [.Name y p2] X.env = (false, eval (.Name y p2) X.env) :: starEach [] X.env := by rfl) (hpl : (backTo pos (starEach [.Name y p2] X.env)).any (·.1) = false := by rfl) :
    PE (X.suite a ((a, oe) :: pn)) (.Call (.Name "isinstance" p) [.Name n p1, .Name y p2] [] pos) (tWE (c.suite G0 H0) (wIsX i (exD x a dx) b)) :=
  isX_any hJ T hz hf hi hv hg hm (vc := .ref Cy) (fun u h => h) hk (pe_glob (X := X.suite a ((a, oe) :: pn)) gy my rfl hy) hd hcd s1 s2 hpl
/-- .. a built-in class -/
theorem pd_isXb {G0 : Gh} {H0 : Hp} {p p1 p2 : Pos} {y : Str} {T' : String} {b : Bool} (hJ : c.J = JO o) (T : ExcC X.K C) (hz : Zc (.ref C) (exd? x dx) oe) (hf : ∃ vs, oe.data = .fields vs) (my : X.mg y = none) (vy : bootBuiltins y = some (.type T')) (hk : PySem.W.kitOne X.K (.ref C) (.type T') = some b) (hm : X.mg "isinstance" = none)
    (i : Nat) (hi : X.N[i]? = some n := by rfl) (hv : Vis X.env.scope n := by first | exact Or.inl rfl | exact Or.inr (Or.inl rfl) | exact Or.inr (Or.inr rfl)) (hg : Gl X "isinstance" := by rfl) (gy : Gl X y := by rfl) (hy : (y == ("__debug__" : Str)) = false := by decide) (hyn : y ≠ "__name__" := by decide)
    (hd : (n == ("__debug__" : Str)) = false := by decide) (hcd : (n == ("__classdict__" : Str)) = false := by decide)
    (s1 : starEach [.Name n p1, .Name y p2] X.env = (false, eval (.Name n p1) X.env) :: starEach [.Name y p2] X.env := by rfl) (s2 : starEach [.Name y p2] X.env = (false, eval (.Name y p2) X.env) :: starEach [] X.env := by rfl) (hpl : (backTo pos (starEach [.Name y p2] X.env)).any (·.1) = false := by rfl) :
    PE (X.suite a ((a, oe) :: pn)) (.Call (.Name "isinstance" p) [.Name n p1, .Name y p2] [] pos) (tWE (c.suite G0 H0) (wIsX i (exD x a dx) b)) :=
  isX_any hJ T hz hf hi hv hg hm (vc := .ty T') (fun u h => h) hk (pe_bltn (X := X.suite a ((a, oe) :: pn)) gy my vy rfl hyn hy) hd hcd s1 s2 hpl
/-- e.f -/
def wXf (i : Nat) (d : D) (x : Exc) (f : Str) : WE := fun ρ P _ => ρ[i]? = some (some (.val d)) ∧ ∃ g r, x.fs = (f, g) :: r ∧ P (.val g)
theorem pd_xf {G0 : Gh} {H0 : Hp} {p1 : Pos} {f : Str} (hJ : c.J = JO o) (T : XfC X.K C) (hno : PySem.W.findIn X.K (.ref C) f = some none) (hz : Zc (.ref C) (exd? x dx) oe) (hf : ∃ vs, oe.data = .fields vs)
    (i : Nat) (hi : X.N[i]? = some n := by rfl) (hv : Vis X.env.scope n := by first | exact Or.inl rfl | exact Or.inr (Or.inl rfl) | exact Or.inr (Or.inr rfl))
    (hd : (n == ("__debug__" : Str)) = false := by decide) (hcd : (n == ("__classdict__" : Str)) = false := by decide) (hb : attributeBase (.Name n p1) f X.env (eval (.Name n p1) X.env) = eval (.Name n p1) X.env := by rfl) :
    PE (X.suite a ((a, oe) :: pn)) (.Attribute (.Name n p1) f pos) (tWE (c.suite G0 H0) (wXf i (exD x a dx) x f)) := by
  refine PE.imp (pe_xf T hno hz hf (pe_var (X := X.suite a ((a, oe) :: pn)) hi hv hd hcd) hb) fun σ H Q ⟨G, ρ, P, E, co, sr, ⟨h, g, r, ex, hp⟩, hq, hx⟩ => ?_
  obtain ⟨v, h1, rv⟩ := sr.get h
  obtain rfl : v = V.ref a := by
    have z : Rep G (exD x a dx) v := rv
    obtain ⟨nm, fs⟩ := x
    cases fs with
    | nil => cases ex
    | cons q fs => unfold exD at z; unfold Rep at z; exact z.1
  have co' : Coh (JO o) G H := hJ ▸ co
  have ed : exd? x dx = some dx := by
    obtain ⟨nm, fs⟩ := x
    cases fs with
    | nil => cases ex
    | cons q fs => rfl
  obtain ⟨f', g', w, e1, ⟨r', e2⟩, e3⟩ := exD_dict co' rv dx ed
  obtain ⟨rfl, rfl⟩ : f = f' ∧ g = g' := by
    have z : (f, g) :: r = (f', g') :: r' := ex.symm.trans e2
    simpa using (List.cons.inj z).1
  exact ⟨_, h1, rfl, rfl, dx, _, w, ed, e1, by simp [List.lookup], hq _ hp _ G H (Step.refl co) e3⟩
end
end PL
end
section
set_option Elab.async false
set_option linter.all false
set_option maxRecDepth 100000
set_option autoImplicit false
/-! facts behind the top on own exception classes; a hook that reads them too -/
namespace PL
open PySem PySem.Spec L2
open PyProof.Rows hiding St
/-- an own exception class with its __init__ as the text has it -/
structure XcD where
  cls : Str
  qual : Str
  st : Stmt
  file : Str
abbrev XcW : Type := Option (Str × Arguments × FuncBody × Scope × Addr × List Str × Addr)
abbrev xcC (K : PySem.W.Frag) (d : XcD) : Addr := He.ga K d.cls
abbrev xcF (K : PySem.W.Frag) (d : XcD) : Addr := He.ma K (xcC K d) "__init__"
def xcW (K : PySem.W.Frag) (d : XcD) : XcW := match K.lookup (xcF K d) with
  | some ⟨_, _, .func fd, _⟩ => some (fd.qualname, fd.params, fd.body, fd.scope, fd.globals, fd.closure.map (·.1), fd.builtins)
  | _ => none
def XcD.val (d : XcD) : XcW := some (d.qual, defArgs d.st, .stmts (defBody d.st), defScope d.st, mainGlobals, ["__class__"], builtinsNs)
def clo1 : List (Str × Addr) → Addr
  | [(_, c)] => c
  | _ => 0
theorem clo1_ok {l : List (Str × Addr)} {x : Str} (h : l.map (·.1) = [x]) : l = [(x, clo1 l)] := by
  cases l with
  | nil => cases h
  | cons p r =>
    cases r with
    | nil =>
      obtain ⟨y, a⟩ := p
      have e : y = x := (List.cons.inj h).1
      rw [e]; rfl
    | cons p2 r => cases h
def xcCell (K : PySem.W.Frag) (d : XcD) : Addr := match K.lookup (xcF K d) with
  | some ⟨_, _, .func fd, _⟩ => clo1 fd.closure
  | _ => 0
def vexB (K : PySem.W.Frag) (C : Addr) : Bool := match K.lookup C with
  | some ⟨.type "type", _, .cls cd, sl⟩ => (match cd.mro, sl.toList with
    | .ref C' :: bm, [_, _, _, _, some (.builtin n), _] => C' == C && (n == "ValueError.__new__" && (!cd.hasDel && (cd.hasDict && PySem.HandSPX.refsVE bm)))
    | _, _ => false)
  | _ => false
theorem vex_ok {K : PySem.W.Frag} {C : Addr} (h : vexB K C = true) : ∃ nm q N bs bm sn sub ab col dd k0 k1 k2 k3 k5, K.lookup C = some (excClassObj nm q C N bs bm true sn sub ab col dd k0 k1 k2 k3 k5 "ValueError.__new__") ∧ PySem.HandSPX.refsVE bm = true := by
  unfold vexB at h
  split at h
  · rename_i dd cd sl ho
    split at h
    · rename_i C' bm k0 k1 k2 k3 n k5 hm hs
      simp only [Bool.and_eq_true, beq_iff_eq, Bool.not_eq_true'] at h
      obtain ⟨rfl, rfl, h1, h2, h3⟩ := h
      obtain ⟨nm, bs, mro, ns, qn, hd, sn, sub, ab, col, del⟩ := cd
      dsimp only at hm h1 h2
      subst hm h1 h2
      obtain ⟨l⟩ := sl
      dsimp only at hs
      subst hs
      exact ⟨nm, qn, ns, bs, bm, sn, sub, ab, col, dd, k0, k1, k2, k3, k5, ho, h3⟩
    · cases h
  · cases h
def fileB (vs : Array Value) (x : Str) : Bool := match vs[2]? with
  | some v => (match v with
    | .str f _ => decide (f = x)
    | _ => false)
  | none => false
theorem file_ok {vs : Array Value} {x : Str} (h : fileB vs x = true) : ∃ tf, vs[2]? = some (.str x tf) := by
  unfold fileB at h
  cases e : vs[2]? with
  | none => rw [e] at h; cases h
  | some v =>
    rw [e] at h
    cases v with
    | str f t =>
      have z : f = x := of_decide_eq_true h
      exact ⟨t, by rw [z]⟩
    | _ => cases h
/-- the code of the def, its cell -/
def xcIn (K : PySem.W.Frag) (d : XcD) : Bool := match K.lookup (xcF K d) with
  | some ⟨_, _, .func fd, _⟩ => decide (fd.defaults = .none) && (match fd.code with
    | .ref cda => PySem.W.codeIn K (.ref cda) d.qual && (match K.lookup cda with
      | some ⟨_, _, .fields vs, _⟩ => fileB vs d.file
      | _ => false)
    | _ => false) && (match K.lookup (xcCell K d) with
      | some ⟨_, _, .cell (some (.ref D)), _⟩ => decide (D = xcC K d)
      | _ => false)
  | _ => false
def xcB (K : PySem.W.Frag) (d : XcD) : Bool := vexB K (xcC K d) && (xcIn K d && (He.eqO (PySem.W.findIn K (.ref (xcC K d)) "__init__") (some (some (.ref (xcF K d)))) && (decide (PySem.W.typeIn K (.ref (xcF K d)) = some (.type "function")) &&
  (He.eqO (PySem.W.findIn K (.ref (xcC K d)) "__setattr__") (some (some (.builtin "object.__setattr__"))) && (decide (PySem.W.subIn K (.ref (xcC K d)) (.type "BaseException") = some true) && (decide (PySem.W.typeIn K (.ref (xcC K d)) = some (.type "type")) && (PySem.W.keepIn K (.ref (xcC K d)) &&
  (He.eqO (PySem.W.ks_superIn K (xcC K d) (xcC K d) "__init__") (some (some (.builtin "ValueError.__init__"))) && (decide (PySem.W.subIn K (.ref (xcC K d)) (.type "ValueError") = some true) && (decide (PySem.W.mroIn K (xcC K d) (.ref (xcC K d)) = some true) && (He.eqO (PySem.W.nsIn K cStatics "thirdparty.any") (some none)))))))))))) 
theorem xc_ok {P : Program} {K : PySem.W.Frag} {d : XcD} {ps : List Str} (e : xcW K d = d.val) (h : xcB K d = true) (hs : sxsB (defScope d.st) ps = true) (hf : ((P.main.file : Str) == d.file) = true) (ht : (P.main.scope.names.lookup ("super" : Str)).isSome = false) :
    SxK P K (xcC K d) (xcF K d) (xcCell K d) d.st ps := by
  unfold xcB at h
  simp only [Bool.and_eq_true] at h
  obtain ⟨h1, h2, h3, h4, h5, h6, h7, h8, h9, h10, h11, h12⟩ := h
  have hin := h2
  unfold xcIn at hin
  unfold xcW at e
  have hcell : ∀ (fd : FuncData) oc od osl, K.lookup (xcF K d) = some ⟨oc, od, .func fd, osl⟩ → fd.closure.map (·.1) = [("__class__" : Str)] → fd.closure = [(("__class__" : Str), xcCell K d)] := fun fd oc od osl q m => by
    have z : xcCell K d = clo1 fd.closure := by unfold xcCell; rw [q]
    rw [z]
    exact clo1_ok m
  cases q : K.lookup (xcF K d) with
  | none => rw [q] at hin; cases hin
  | some ob =>
    obtain ⟨oc, od, dt, osl⟩ := ob
    rw [q] at hin e
    cases dt with
    | func fd =>
      have hcl := hcell fd oc od osl q
      obtain ⟨n1, n2, n3, n4, n5, n6, n7, n8, n9, n10, n11, n12, n13, n14, n15⟩ := fd
      have e2 : (some (n2, n3, n4, n5, n6, n7.map (·.1), n15) : XcW) = (some (d.qual, defArgs d.st, FuncBody.stmts (defBody d.st), defScope d.st, mainGlobals, [("__class__" : Str)], builtinsNs) : XcW) := e
      simp only [Option.some.injEq, Prod.mk.injEq] at e2
      obtain ⟨e21, e22, e23, e24, e25, e26, e27⟩ := e2
      subst e21 e22 e23 e24 e25 e27
      have hcl2 : n7 = [(("__class__" : Str), xcCell K d)] := hcl e26
      subst hcl2
      simp only [Bool.and_eq_true, decide_eq_true_eq] at hin
      obtain ⟨⟨hd0, hcode⟩, hce⟩ := hin
      have hd0' : n8 = .none := hd0
      subst hd0'
      refine ⟨⟨?_, ?_, vex_ok h1, He.eqO_ok h9, of_decide_eq_true h10, of_decide_eq_true h11, He.eqO_ok h12, ht⟩, sxs_by hs, He.eqO_ok h3, of_decide_eq_true h4, He.eqO_ok h5, of_decide_eq_true h6, of_decide_eq_true h7, h8⟩
      · cases n13 with
        | ref cda =>
          have hcode' : (PySem.W.codeIn K (.ref cda) d.qual && (match K.lookup cda with
            | some ⟨_, _, .fields vs, _⟩ => fileB vs d.file
            | _ => false)) = true := hcode
          rw [Bool.and_eq_true] at hcode'
          obtain ⟨c1, c2⟩ := hcode'
          split at c2
          · rename_i ccl cdd vs ccs lc
            obtain ⟨tf, hv2⟩ := file_ok c2
            exact ⟨n1, d.qual, n9, n10, n11, n12, cda, n14, oc, od, osl, q, c1, ccl, cdd, vs, ccs, d.file, tf, lc, hv2, hf⟩
          · cases c2
        | _ => cases hcode
      · split at hce
        · rename_i cl cld D csl lc
          have eD : D = xcC K d := of_decide_eq_true hce
          subst eD
          exact ⟨cl, cld, csl, lc⟩
        · cases hce
    | _ => cases hin

/-! ### a hook -/
abbrev AlX : Type := He.AlD × List XcW × Bool
def obsX (fa : List He.Fa) (fn : List He.DefD) (xs : List XcD) (xa : List (PySem.W.Frag → Bool)) (K : PySem.W.Frag) : AlX := (He.obsD fa fn K, xs.map (xcW K), (xs.all (xcB K)) && xa.all fun f => f K)
def valX (fn : List He.DefD) (xs : List XcD) : AlX := (He.valD fn, xs.map XcD.val, true)
def SaysX (fa : List He.Fa) (fn : List He.DefD) (xs : List XcD) (xa : List (PySem.W.Frag → Bool)) (K : PySem.W.Frag) : Prop := obsX fa fn xs xa K = valX fn xs
def obsXG (n : Nat) (fa : List He.Fa) (fn : List He.DefD) (xs : List XcD) (xa : List (PySem.W.Frag → Bool)) (g : Addr → Option Obj) : AlX := obsX fa fn xs xa (He.frG g (cStatics :: He.asD g n))
def hookX (n : Nat) (fa : List He.Fa) (fn : List He.DefD) (xs : List XcD) (xa : List (PySem.W.Frag → Bool)) : PySem.W.Hook where
  α := AlX
  obs := fun s => obsXG n fa fn xs xa s.heap.get?
  val := fun _ => valX fn xs
  says := fun _ h => ∃ K : PySem.W.Frag, K.In h ∧ SaysX fa fn xs xa K
  of := fun _ _ e => ⟨_, He.frG_in, e⟩
  keeps := fun _ _ _ ⟨K, hK, c⟩ k => ⟨K, PySem.W.Frag.In.keeps hK k, c⟩
theorem obsXG_eq {n : Nat} {fa : List He.Fa} {fn : List He.DefD} {xs : List XcD} {xa : List (PySem.W.Frag → Bool)} {g : Addr → Option Obj} {s : Shared} (h : ∀ a, g a = s.heap.get? a) : obsXG n fa fn xs xa g = (hookX n fa fn xs xa).obs s := by
  have e : g = s.heap.get? := funext h
  rw [e] <;> rfl
section
variable {fa : List He.Fa} {fn : List He.DefD} {xs : List XcD} {xa : List (PySem.W.Frag → Bool)} {K : PySem.W.Frag}
theorem SaysX.d (c : SaysX fa fn xs xa K) : He.SaysD fa fn K := congrArg (fun z : AlX => z.1) c
theorem SaysX.exc (c : SaysX fa fn xs xa K) (i : Nat) {d : XcD} (h : xs[i]? = some d := by rfl) : xcW K d = d.val ∧ xcB K d = true := by
  have c2 : xs.map (xcW K) = xs.map XcD.val := congrArg (fun z : AlX => z.2.1) c
  have c3 : ((xs.all (xcB K)) && xa.all fun f => f K) = true := congrArg (fun z : AlX => z.2.2) c
  rw [Bool.and_eq_true] at c3
  have e2 : (xs.map (xcW K))[i]? = (xs.map XcD.val)[i]? := by rw [c2]
  rw [List.getElem?_map, List.getElem?_map, h] at e2
  exact ⟨Option.some.inj e2, List.all_eq_true.mp c3.1 d (List.mem_of_getElem? h)⟩
theorem SaysX.fac (c : SaysX fa fn xs xa K) (i : Nat) {f : PySem.W.Frag → Bool} (h : xa[i]? = some f := by rfl) : f K = true := by
  have c3 : ((xs.all (xcB K)) && xa.all fun f => f K) = true := congrArg (fun z : AlX => z.2.2) c
  rw [Bool.and_eq_true] at c3
  exact List.all_eq_true.mp c3.2 f (List.mem_of_getElem? h)
end
end PL
namespace PL
open PySem PySem.Spec L2
open PyProof.Rows hiding St
/-- what a caught class must say -/
def xcatB (y : Str) (K : PySem.W.Frag) : Bool := xfB K (He.ga K y) && (decide (PySem.W.hasDictIn K (He.ga K y) = true) && (He.eqO (PySem.W.findIn K (.ref (He.ga K y)) "__class__") (some (some (.builtin "object.__class__"))) &&
  (He.eqO (PySem.W.specialIn K (.builtin "object.__class__") "__get__") (some (some (.builtin "getset_descriptor.__get__"))) && (decide (PySem.W.takesIn K (.builtin "object.__class__") = some true) && decide (PySem.W.mroIn K (He.ga K y) (.type "object") = some true)))))
theorem xcat_ok {y : Str} {K : PySem.W.Frag} (h : xcatB y K = true) : ExcC K (He.ga K y) ∧ XfC K (He.ga K y) := by
  unfold xcatB at h
  simp only [Bool.and_eq_true] at h
  obtain ⟨h1, h2, h3, h4, h5, h6⟩ := h
  have x := xfB_ok h1
  exact ⟨⟨x.ga, x.gg, x.exC, of_decide_eq_true h2, He.eqO_ok h3, He.eqO_ok h4, of_decide_eq_true h5, of_decide_eq_true h6⟩, x⟩
def isaB (y z : Str) (b : Bool) (K : PySem.W.Frag) : Bool := decide (PySem.W.kitOne K (.ref (He.ga K y)) (.ref (He.ga K z)) = some b)
theorem isa_ok {y z : Str} {b : Bool} {K : PySem.W.Frag} (h : isaB y z b K = true) : PySem.W.kitOne K (.ref (He.ga K y)) (.ref (He.ga K z)) = some b := of_decide_eq_true h
def isbB (y : Str) (T : String) (b : Bool) (K : PySem.W.Frag) : Bool := decide (PySem.W.kitOne K (.ref (He.ga K y)) (.type T) = some b)
theorem isb_ok {y : Str} {T : String} {b : Bool} {K : PySem.W.Frag} (h : isbB y T b K = true) : PySem.W.kitOne K (.ref (He.ga K y)) (.type T) = some b := of_decide_eq_true h
end PL
end
section
set_option Elab.async false
set_option linter.all false
set_option maxRecDepth 100000
set_option autoImplicit false
/-! what is known of the classes that a law catches, as one fact; the rules by it -/
namespace PL
open PySem PySem.Spec L2
open PyProof.Rows hiding St
structure XKn (K : PySem.W.Frag) (mg : Str → Option Value) (known own : List Str) (isa : Str → Str → Bool) (flds : List Str) : Prop where
  mgk : ∀ y ∈ known, mg y = some (.ref (He.ga K y))
  ok : ∀ y ∈ known, ExcC K (He.ga K y) ∧ XfC K (He.ga K y)
  isO : ∀ y ∈ known, ∀ z ∈ own, PySem.W.kitOne K (.ref (He.ga K y)) (.ref (He.ga K z)) = some (isa y z)
  isV : ∀ y ∈ known, PySem.W.kitOne K (.ref (He.ga K y)) (.type "ValueError") = some true
  fld : ∀ y ∈ known, ∀ f ∈ flds, PySem.W.findIn K (.ref (He.ga K y)) f = some none
  exm : ∀ y ∈ known, PySem.W.exmOne K (.ref (He.ga K y)) (.ref (He.ga K "LotError")) = some true
  own : ∀ z ∈ own, mg z = some (.ref (He.ga K z))
  err : mg "LotError" = some (.ref (He.ga K "LotError"))
def gloB (x : Str) (K : PySem.W.Frag) : Bool := He.eqO (PySem.W.nsIn K mainGlobals x) (some (some (.ref (He.ga K x))))
def xknB (known own : List Str) (isa : Str → Str → Bool) (flds : List Str) (K : PySem.W.Frag) : Bool :=
  (known.all fun y => gloB y K && (xcatB y K && ((own.all fun z => isaB y z (isa y z) K) && (isbB y "ValueError" true K && ((flds.all fun f => He.eqO (PySem.W.findIn K (.ref (He.ga K y)) f) (some none)) && decide (PySem.W.exmOne K (.ref (He.ga K y)) (.ref (He.ga K "LotError")) = some true)))))) &&
  ((own.all fun z => gloB z K) && gloB "LotError" K)
theorem xkn_ok {K : PySem.W.Frag} {h : Heap} {mg : Str → Option Value} {known own : List Str} {isa : Str → Str → Bool} {flds : List Str} (X : K.In h) (G : h.Ns mainGlobals mg) (e : xknB known own isa flds K = true) : XKn K mg known own isa flds := by
  unfold xknB at e
  simp only [Bool.and_eq_true] at e
  obtain ⟨e1, e2, e3⟩ := e
  have glo : ∀ {x : Str}, gloB x K = true → mg x = some (.ref (He.ga K x)) := fun h => PySem.W.mg_of X G (He.eqO_ok h)
  have key : ∀ y ∈ known, _ := fun y hy => List.all_eq_true.mp e1 y hy
  simp only [Bool.and_eq_true] at key
  exact ⟨fun y hy => glo (key y hy).1, fun y hy => xcat_ok (key y hy).2.1, fun y hy z hz => isa_ok (List.all_eq_true.mp (key y hy).2.2.1 z hz), fun y hy => isb_ok (key y hy).2.2.2.1,
    fun y hy f hf => He.eqO_ok (List.all_eq_true.mp (key y hy).2.2.2.2.1 f hf), fun y hy => of_decide_eq_true (key y hy).2.2.2.2.2, fun z hz => glo (List.all_eq_true.mp e2 z hz), glo e3⟩
section
variable {X : Cx} {c : Pc} {pos : Pos} {o : OP} {a dx : Addr} {oe : Obj} {pn : List (Addr × Obj)} {x : Exc} {n : Str} {known own : List Str} {isa : Str → Str → Bool} {flds : List Str}
/-- what a suite is given -/
structure InS (K : PySem.W.Frag) (known : List Str) (x : Exc) (dx : Addr) (oe : Obj) : Prop where
  mem : x.cls ∈ known
  z : Zc (.ref (He.ga K x.cls)) (exd? x dx) oe
  f : ∃ vs, oe.data = .fields vs
theorem ws_tryK (xk : XKn X.K c.mg known own isa flds) (hmg : c.mg = X.mg) (i : Nat) {e : Expr} {b₀ : Stmt} {suite : List Stmt} {np p1 p2 : Pos} {f : WE} {v : Exc → Addr → Addr → WS}
    (hs : X.stack = X.env :: X.outer) (hf : X.env.frame = some X.env.locals) (hN : X.N.Nodup)
    (he : ∀ (W : WX) (pn : List (Addr × Obj)) (xe : Value → Shared → Prop), Takes (X.tr pn xe) W → PE (X.tr pn xe) e (tWE (c.wish W) f))
    (hv : ∀ (y : Exc) (a dx : Addr) (oe : Obj) (pn : List (Addr × Obj)) (G : Gh) (H : Hp), InS X.K known y dx oe → PSs (X.suite a ((a, oe) :: pn)) (b₀ :: suite) (tWS (c.suite G H) (v y a dx)))
    (hi : X.N[i]? = some n := by rfl) (hln : X.env.kindOf n = some .local := by rfl) (hgl : Gl X "LotError" := by rfl)
    (hsw : ∀ (pn : List (Addr × Obj)) (xe : Value → Shared → Prop), swapsWith e none p1.line (X.tr pn xe).env = pure false := by intro _ _; rfl) :
    PS X (.Try [.Expr e p1] [.ExceptHandler (some (.Name "LotError" np)) (some n) (b₀ :: suite) p2] [] [] pos) (tWS c (wTryE known i f v)) := by
  refine ws_try (cv := .ref (He.ga X.K "LotError")) hs hf hN hi hln ⟨hgl, by decide, .inl (by rw [← hmg]; exact xk.err)⟩ (fun y hy => ⟨_, xk.mgk y hy, xk.exm y hy⟩) he hsw fun y a dx oe C pn G H hz hfd hyk hC => hv y a dx oe pn G H ?_
  have e1 : C = He.ga X.K y.cls := by
    have z := hC.symm.trans (xk.mgk _ hyk)
    exact Value.ref.inj (Option.some.inj z)
  subst e1
  exact ⟨hyk, hz, hfd⟩
theorem pd_isO {G0 : Gh} {H0 : Hp} {p p1 p2 : Pos} {y : Str} (hJ : c.J = JO o) (xk : XKn X.K X.mg known own isa flds) (s : InS X.K known x dx oe) (hm : X.mg "isinstance" = none) (i : Nat) (hy : y ∈ own := by decide)
    (hi : X.N[i]? = some n := by rfl) (hv : Vis X.env.scope n := by first | exact Or.inl rfl | exact Or.inr (Or.inl rfl) | exact Or.inr (Or.inr rfl)) (hg : Gl X "isinstance" := by rfl) (gy : Gl X y := by rfl) (hyd : (y == ("__debug__" : Str)) = false := by decide)
    (hd : (n == ("__debug__" : Str)) = false := by decide) (hcd : (n == ("__classdict__" : Str)) = false := by decide)
    (s1 : starEach [.Name n p1, .Name y p2] X.env = (false, eval (.Name n p1) X.env) :: starEach [.Name y p2] X.env := by rfl) (s2 : starEach [.Name y p2] X.env = (false, eval (.Name y p2) X.env) :: starEach [] X.env := by rfl) (hpl : (backTo pos (starEach [.Name y p2] X.env)).any (·.1) = false := by rfl) :
    PE (X.suite a ((a, oe) :: pn)) (.Call (.Name "isinstance" p) [.Name n p1, .Name y p2] [] pos) (tWE (c.suite G0 H0) (wIsX i (exD x a dx) (isa x.cls y))) :=
  pd_isXo hJ (xk.ok _ s.mem).1 s.z s.f (xk.own y hy) (xk.isO _ s.mem y hy) hm i hi hv hg gy hyd hd hcd s1 s2 hpl
theorem pd_isV {G0 : Gh} {H0 : Hp} {p p1 p2 : Pos} (hJ : c.J = JO o) (xk : XKn X.K X.mg known own isa flds) (s : InS X.K known x dx oe) (hm : X.mg "isinstance" = none) (my : X.mg "ValueError" = none) (i : Nat)
    (hi : X.N[i]? = some n := by rfl) (hv : Vis X.env.scope n := by first | exact Or.inl rfl | exact Or.inr (Or.inl rfl) | exact Or.inr (Or.inr rfl)) (hg : Gl X "isinstance" := by rfl) (gy : Gl X "ValueError" := by rfl)
    (hd : (n == ("__debug__" : Str)) = false := by decide) (hcd : (n == ("__classdict__" : Str)) = false := by decide)
    (s1 : starEach [.Name n p1, .Name "ValueError" p2] X.env = (false, eval (.Name n p1) X.env) :: starEach [.Name "ValueError" p2] X.env := by rfl) (s2 : starEach [.Name "ValueError" p2] X.env = (false, eval (.Name "ValueError" p2) X.env) :: starEach [] X.env := by rfl) (hpl : (backTo pos (starEach [.Name "ValueError" p2] X.env)).any (·.1) = false := by rfl) :
    PE (X.suite a ((a, oe) :: pn)) (.Call (.Name "isinstance" p) [.Name n p1, .Name "ValueError" p2] [] pos) (tWE (c.suite G0 H0) (wIsX i (exD x a dx) true)) :=
  pd_isXb hJ (xk.ok _ s.mem).1 s.z s.f my PyProof.Rows.Boot.«ValueError» (xk.isV _ s.mem) hm i hi hv hg gy (by decide) (by decide) hd hcd s1 s2 hpl
theorem pd_fldX {G0 : Gh} {H0 : Hp} {p1 : Pos} {f : Str} (hJ : c.J = JO o) (xk : XKn X.K X.mg known own isa flds) (s : InS X.K known x dx oe) (i : Nat) (hfl : f ∈ flds := by decide)
    (hi : X.N[i]? = some n := by rfl) (hv : Vis X.env.scope n := by first | exact Or.inl rfl | exact Or.inr (Or.inl rfl) | exact Or.inr (Or.inr rfl))
    (hd : (n == ("__debug__" : Str)) = false := by decide) (hcd : (n == ("__classdict__" : Str)) = false := by decide) (hb : attributeBase (.Name n p1) f X.env (eval (.Name n p1) X.env) = eval (.Name n p1) X.env := by rfl) :
    PE (X.suite a ((a, oe) :: pn)) (.Attribute (.Name n p1) f pos) (tWE (c.suite G0 H0) (wXf i (exD x a dx) x f)) :=
  pd_xf hJ (xk.ok _ s.mem).2 (xk.fld _ s.mem f hfl) s.z s.f i hi hv hd hcd hb
end
end PL
end
section
set_option Elab.async false
set_option linter.all false
set_option maxRecDepth 100000
set_option autoImplicit false
/-! sorted: numbers, lots by size -/
namespace PL.C
open PySem PySem.Spec L2 PL
open PyProof.Rows hiding St
variable {P : R → Prop} {E : XP}
theorem v_sortEnc {α : Type} (enc : α → D) (lt : α → α → Bool) (hlt : ∀ a b, PySem.W.dataLt (toP (enc a)) (toP (enc b)) = lt a b) (tr : ∀ a b c, lt a b = false → lt b c = false → lt a c = false) (as : ∀ a b, lt a b = true → lt b a = false)
    (hpl : ∀ a, pl (enc a) = true) (hal : ∀ a b, PySem.W.alike (toP (enc a)) (toP (enc b)) = true) (hdp : ∀ a, dp (enc a) ≤ 60) (hk : (∀ a, ∃ ys, enc a = .tup ys) ∨ ∀ a, toP (enc a) ≠ .none ∧ ∀ ys, toP (enc a) ≠ .tuple ys)
    {l : List α} (h : ∀ m : List α, m.Perm l → m.Pairwise (fun a b => lt b a = false) → P (.own (m.map enc))) : sortW [.lst (l.map enc)] P := by
  refine ⟨l.map enc, .inl rfl, all_pl hpl l, ?_, ?_, fun d hd => ?_, ?_⟩
  · intro x hx y hy
    rw [List.map_map] at hx hy
    obtain ⟨a, _, rfl⟩ := List.mem_map.mp hx
    obtain ⟨b, _, rfl⟩ := List.mem_map.mp hy
    exact hal a b
  · rcases hk with hk | hk
    · exact .inl fun d hd => by obtain ⟨q, _, rfl⟩ := List.mem_map.mp hd; exact hk q
    · exact .inr fun d hd => by obtain ⟨q, _, rfl⟩ := List.mem_map.mp hd; exact hk q
  · obtain ⟨q, _, rfl⟩ := List.mem_map.mp hd
    exact hdp q
  · have e : (l.map enc).mergeSort (PySem.W.dataLe false toP) = (l.mergeSort fun a b => !lt b a).map enc := by
      rw [List.map_mergeSort]
      intro a _ b _
      show (!lt b a) = _
      rw [PySem.W.dataLe_eq]
      show _ = !PySem.W.dataLt (toP (enc b)) (toP (enc a))
      rw [hlt]
    rw [e]
    refine h _ (List.mergeSort_perm _ _) ?_
    refine (List.pairwise_mergeSort (le := fun a b => !lt b a) (fun a b c h1 h2 => ?_) (fun a b => ?_) l).imp fun {a b} h => by simpa using h
    · simp only [Bool.not_eq_true'] at h1 h2 ⊢
      exact tr c b a h2 h1
    · cases q : lt b a with
      | false => simp
      | true => simp [as _ _ q]
theorem v_sortInts {ns : List Int} (h : ∀ ms : List Int, ms.Perm ns → ms.Pairwise (· ≤ ·) → P (.own (ms.map .int))) : sortW [.lst (ns.map .int)] P := by
  refine v_sortEnc D.int (fun i j => decide (i < j)) (fun a b => by rw [toP, toP, PySem.W.dataLt_int]) (fun a b c h1 h2 => ?_) (fun a b h => ?_) pl_int (fun a b => by rw [toP, toP]; rfl) (fun a => by rw [dp_int]; decide) (.inr fun a => ⟨by rw [toP]; simp, fun ys => by rw [toP]; simp⟩) fun m pm pw => h m pm (pw.imp fun {a b} z => ?_)
  · simp only [decide_eq_false_iff_not] at *; omega
  · simp only [decide_eq_false_iff_not, decide_eq_true_eq] at *; omega
  · simp only [decide_eq_false_iff_not] at z; omega
/-- nodup numbers: one sorted list -/
theorem sorted_int {ms ns qs : List Int} (pm : ms.Perm ns) (pw : ms.Pairwise (· ≤ ·)) (nd : ns.Nodup) (hq : qs.Pairwise (· < ·)) (e : ∀ x, x ∈ qs ↔ x ∈ ns) : ms = qs := by
  refine asc_ext_int ?_ hq fun x => by rw [e, pm.mem_iff]
  have nd' : ms.Nodup := pm.nodup_iff.mpr nd
  exact (pw.and nd').imp fun {a b} ⟨h1, h2⟩ => by omega
def dSz (q : List Int) : D := .tup [.int q.length, dLot q]
theorem toP_sz (q : List Int) : toP (dSz q) = .tuple [.int q.length, toP (dLot q)] := by unfold dSz; rw [toP, toPs, toPs, toPs, toP]
def szLt (a b : List Int) : Bool := if a.length = b.length then lexB a b else decide (a.length < b.length)
theorem dataLt_sz (a b : List Int) : PySem.W.dataLt (toP (dSz a)) (toP (dSz b)) = szLt a b := by
  rw [toP_sz, toP_sz, PySem.W.dataLt_tuple]
  unfold szLt
  by_cases e : a.length = b.length
  · rw [if_pos e, e, PySem.W.dataLt_all_yes (by simp [PySem.W.alike]) (by simp [PyData.eqv])]
    by_cases e2 : a = b
    · subst e2
      rw [lexB_irrefl]
      exact PyProof.Rows.lex_irrefl _
    · have h2 := eqv_lot a b
      rw [PySem.W.dataLt_all_no (alike_lot a b) (by rw [h2]; simpa using e2), dataLt_lot]
  · rw [if_neg e, PySem.W.dataLt_all_no (by simp [PySem.W.alike]) (by simp [PyData.eqv]; omega), PySem.W.dataLt_int]
    simp
theorem v_sortSz {L : List (List Int)} (h : ∀ M : List (List Int), M.Perm L → M.Pairwise (fun a b => szLt b a = false) → P (.own (M.map dSz))) : sortW [.lst (L.map dSz)] P := by
  refine v_sortEnc dSz szLt dataLt_sz (fun a b c h1 h2 => ?_) (fun a b h => ?_) (fun q => ?_) (fun a b => ?_) (fun q => ?_) (.inl fun a => ⟨_, rfl⟩) h
  · unfold szLt at *
    by_cases e1 : a.length = b.length
    · rw [if_pos e1] at h1
      by_cases e2 : b.length = c.length
      · rw [if_pos e2] at h2
        rw [if_pos (e1.trans e2)]
        have q1 : lexLe b a = true := by unfold lexLe; rw [h1]; rfl
        have q2 : lexLe c b = true := by unfold lexLe; rw [h2]; rfl
        have q3 := lexLe_trans c b a q2 q1
        unfold lexLe at q3
        simpa using q3
      · rw [if_neg e2] at h2
        rw [if_neg (by omega)]
        simp only [decide_eq_false_iff_not] at *; omega
    · rw [if_neg e1] at h1
      simp only [decide_eq_false_iff_not] at h1
      by_cases e2 : b.length = c.length
      · rw [if_neg (by omega)]
        simp only [decide_eq_false_iff_not]; omega
      · rw [if_neg e2] at h2
        simp only [decide_eq_false_iff_not] at h2
        rw [if_neg (by omega)]
        simp only [decide_eq_false_iff_not]; omega
  · unfold szLt at *
    by_cases e1 : a.length = b.length
    · rw [if_pos e1] at h
      rw [if_pos e1.symm]
      cases q : lexB b a with
      | false => rfl
      | true => have := lexB_trans h q; rw [lexB_irrefl] at this; cases this
    · rw [if_neg e1] at h
      rw [if_neg (fun z => e1 z.symm)]
      simp only [decide_eq_true_eq, decide_eq_false_iff_not] at *; omega
  · have h1 := pl_lot q
    unfold pl at h1 ⊢
    rw [toP_sz]; simp [PyData.plain, PyData.plainAll, h1]
  · rw [toP_sz, toP_sz]; simp [PySem.W.alike, PySem.W.alikeAll, alike_lot]
  · have h1 := dp_lot q
    unfold dp at h1 ⊢
    rw [toP_sz]; simp [PyData.depth, PyData.depthAll, h1]
theorem v_sortSized {L : List (List Int)} (h : ∀ M : List (List Int), M.Perm L → M.Pairwise (fun a b => a.length ≤ b.length) → P (.own (M.map dSz))) : sortW [.lst (L.map dSz)] P := by
  refine v_sortSz fun m pm pw => h m pm (pw.imp fun {a b} z => ?_)
  unfold szLt at z
  by_cases e1 : b.length = a.length
  · omega
  · rw [if_neg e1] at z
    simp only [decide_eq_false_iff_not] at z; omega
theorem szLt_eq {a b : List Int} (h1 : szLt a b = false) (h2 : szLt b a = false) : a = b := by
  unfold szLt at h1 h2
  by_cases e1 : a.length = b.length
  · rw [if_pos e1] at h1
    rw [if_pos e1.symm] at h2
    rcases lexB_total a b with h | h | h
    · rw [h1] at h; cases h
    · exact h
    · rw [h2] at h; cases h
  · rw [if_neg e1] at h1
    rw [if_neg (fun z => e1 z.symm)] at h2
    simp only [decide_eq_false_iff_not] at h1 h2
    omega
end PL.C
end
section
set_option Elab.async false
set_option linter.all false
set_option maxRecDepth 100000
set_option autoImplicit false
/-! {k: v} with a tuple as its key -/
namespace PL
open PySem PySem.Spec L2
open PyProof.Rows hiding St
section
variable {X : Cx} {ka va : Expr} {tk tv : TE} {pos : Pos}
def tDispT (tk tv : TE) : TE := fun σ H Q => ∀ p, H p = none → tk σ (upd H p (.dT [])) fun x H1 => tv σ H1 fun y H2 => ∃ k b, H2 p = some (.dT []) ∧ x = .ref b ∧ H2 b = some (.tup (k.map kV)) ∧ Q (.ref p) (upd H2 p (.dT [(k, y)]))
theorem pe_dispT (hu : X.A.units + 1 < cLine) (hk : PE X ka tk) (hv : PE X va tv) : PE X (.Dict [some ka] [va] pos) (tDispT tk tv) := by
  refine ⟨fun pins s σ H Q I q => ?_⟩
  have hn := I.hok.fresh (Nat.le_refl s.heap.objs.size)
  have I1 := I.laid (a := s.heap.objs.size) (o := .dT []) (h' := s.heap.push { cls := .type "dict", data := .dict #[] }) (t' := s.toks) (fun _ _ q => Heap.get?_push_of_some _ q) (Nat.le_refl _) (dt_empty s.heap I.big)
  have sh : (evalEachOpt [some ka] X.env).zip ((evalEach [va] X.env).map fun v => do let x ← v; standAt pos; pure x) = [(eval ka X.env, (do let x ← eval va X.env; standAt pos; pure x : Sem Value))].map fun p => (some p.1, p.2) := rfl
  rw [arm_eval_Dict, sh, dictDisplay_pairs _ (by simp) (by show 1 < 17; decide)]
  refine wpAny_bind (wpAny_standAt (wpAny_bind ?_))
  unfold subDict
  refine wpAny_bind (wpAny_alloc (wpAny_bind (wpAny_holding ?_)))
  rw [if_pos (by show 1 ≤ 15; decide)]
  refine wpAny_bind (evalPairs_cons (thn (hk.run pins _ σ _ _ I1 (q _ hn)) fun u s2 ⟨x, H1, I2, rx, q1⟩ => wpAny_bind (thn (hv.run pins s2 σ H1 _ I2 q1) fun v s3 ⟨y, H2, I3, ry, k, b, e, ex, eb, q2⟩ => wpAny_bind (wpAny_standAt (wpAny_pure (evalPairs_nil ?_))))))
  refine wpAny_holding ?_
  subst ex
  obtain rfl : u = Value.ref b := rx
  rw [List.forIn_cons]
  obtain ⟨z, hd, xs, rel, dd⟩ := dt_of I3.hok e
  cases rel
  refine wpAny_bind (wpAny_bind ?_)
  show wpAny _ _ (dictSet _ (Value.ref b) v >>= fun _ => pure (ForInStep.yield PUnit.unit)) _ _ _
  refine wpAny_bind (wpAny_dictSet_heap (knd := tupleKind (mixKind X.prog X.w)) (hsz := Nat.zero_le _) (by show X.A.units < cLine; omega) (key_of I3.hok eb) dd fun h' dd' hs => wpAny_pure ?_)
  refine wpAny_pure (wpAny_pure (wpAny_pure (wpAny_pure ?_)))
  obtain ⟨o', es, ep, hq, h2, h3, h4, _, h5⟩ := dd'
  refine ⟨.ref s.heap.objs.size, _, ?_, rfl, q2⟩
  refine d_write I3 (by rw [e]; exact True.intro) hs ⟨o', hq⟩ ⟨by show 1 ≤ sizeLine; rw [sizeLine_eq]; decide, hd, _, ((show KT H2 [] [] from .nil).put k eb ry).keeps fun c ys ec => ?_, o', es, ep, hq, h2, h3, h4, h5⟩
  rw [upd_ne (ne_of ec e (fun z => nomatch z))]
  exact ec
end
end PL
namespace PL
open PySem PySem.Spec L2
open PyProof.Rows hiding St
section
variable {X : Cx} {c : Pc} {ka va : Expr} {fk fv : WE} {pos : Pos}
/-- {k: v}, k a tuple of numbers and texts -/
def wDispT (fk fv : WE) : WE := fun ρ P E => fk ρ (fun rk => fv ρ (fun rv => ∃ k : List Key, rk.toD = .tup (k.map keyD) ∧ P (.ownd true [(rk.toD, rv.toD)])) E) E
theorem pd_dispT (hu : X.A.units + 1 < cLine) (hk : PE X ka (tWE c fk)) (hv : PE X va (tWE c fv)) : PE X (.Dict [some ka] [va] pos) (tWE c (wDispT fk fv)) :=
  PE.imp (pe_dispT hu (pdD hk) (pdD hv)) fun σ H Q ⟨G, ρ, P, E, co, sr, h, hp, hx⟩ => fun p np => by
    have s0 := Step.newOwn (o := .dT []) c.jo co np
    refine opnd (G := G) s0.coh (sr.step s0) (hx.step s0) h fun rk pk x G1 H1 st1 rd1 co1 sr1 hx1 => ?_
    refine opnd co1 sr1 hx1 pk fun rv pv y G2 H2 st2 rd2 co2 sr2 hx2 => ?_
    obtain ⟨k, ek, pp⟩ := pv
    have st := st1.trans st2
    obtain ⟨h1, n1⟩ := st.frame p _ upd_same (co.fresh c.jo np)
    have rd1' := Rep.mono st2.le _ _ rd1
    rw [ek] at rd1'
    unfold Rep at rd1'
    obtain ⟨b, vs, rfl, gb, rs⟩ := rd1'
    have ev : vs = k.map kV := by
      clear gb ek pp
      induction k generalizing vs with
      | nil => rw [List.map_nil] at rs; unfold Reps at rs; exact rs
      | cons q k ih =>
        rw [List.map_cons] at rs
        obtain ⟨v, r, rfl, a1, a2⟩ := rs.uncons
        rw [List.map_cons, ih _ a2]
        cases q with
        | inl i => rw [show v = V.int i from a1.int_]; rfl
        | inr z => rw [show v = V.str z from a1.str_]; rfl
    subst ev
    refine ⟨k, b, h1, rfl, co2 b _ gb, ?_⟩
    have full := s0.trans st
    have s' : Step c.J G H G2 (upd H2 p (.dT [(k, y)])) := ⟨full.le, full.coh.move c.jo fun a g e => upd_ne (by rintro rfl; rw [n1] at e; cases e), fun a o h nt z => by
        have ne : a ≠ p := by rintro rfl; rw [np] at h; cases h
        rw [upd_ne ne]; exact full.keep a o h nt z, fun a xs h => by
        have ne : a ≠ p := by rintro rfl; rw [np] at h; cases h
        rw [upd_ne ne]; exact full.tups a xs h⟩
    refine hp _ pp (.ref p) G2 _ s' ⟨p, [(k, y)], rfl, np, n1, ?_, ?_⟩
    · rw [upd_same]
    · unfold RepT
      refine ⟨k, y, [], rfl, ek, rd2, ?_⟩
      unfold RepT; rfl
end
end PL
namespace PL.C
open PySem PySem.Spec L2 PL
open PyProof.Rows hiding St
theorem u_dispT {fk fv : WE} {ρ : Rho} {P : R → Prop} {E : XP} : wDispT fk fv ρ P E = fk ρ (fun rk => fv ρ (fun rv => ∃ k : List Key, rk.toD = .tup (k.map keyD) ∧ P (.ownd true [(rk.toD, rv.toD)])) E) E := rfl
end PL.C
end
section

end
section
set_option Elab.async false
set_option linter.all false
set_option maxRecDepth 100000
set_option maxHeartbeats 2000000
set_option autoImplicit false
/-! a lambda without parameters, made: what is new is told -/
namespace PL
open PySem PySem.Spec L2 LamX
open PyProof.Rows hiding St
/-- the code object was in the table, or it is new there -/
def LamNew (H : Hp) (P : Addr) (q : Str) (c' : Addr) (H1 : Hp) : Prop :=
  (H1 = H ∧ ∃ ps pos, H P = some (.tbl ps) ∧ codeAmong pos ps.toList = some (.ref c')) ∨
  ∃ ps more, H P = some (.tbl ps) ∧ H c' = none ∧ H1 = upd (upd H P (.tbl (ps ++ more))) c' (CodeO c' q) ∧ TriplesOk (ps ++ more).toList ∧ ∀ pos cv, codeAmong pos (ps ++ more).toList = some cv → codeAmong pos ps.toList = some cv ∨ cv = .ref c'
section
variable {X : Cx} {pins : List (Addr × Obj)} {σ : L2.St} {H : Hp} {s : Shared}
theorem lam_make3 {c P : Addr} {params : Arguments} {body : Expr} {scope : Scope} {pos : Pos} {E : Value → Shared → Prop} {Q : Value → Shared → Prop} (I : Inv X pins σ H s) (TB : TabB X.base X.mg c P) (hcode : X.env.code = .ref c)
    (hT : TabS H P (X.env.qual ++ "<lambda>")) (hdef : defaultsOf params X.env = ([], [])) (hfree : ∀ y ∈ scope.names, y.2 = .free → ∃ c, X.env.cells.lookup y.1 = some c)
    (h : ∀ (f c' : Addr) (pm ctv : Value) (H1 : Hp) (s' : Shared), Inv X pins σ H1 s' → LamNew H P (X.env.qual ++ "<lambda>") c' H1 → H1 c' = some (CodeO c' (X.env.qual ++ "<lambda>")) →
      s'.heap.get? f = some (PySem.W.kla_obj "<lambda>" (X.env.qual ++ "<lambda>") params body scope (cloFrom X.env.cells scope.names []) pm c' ctv) → H1 f = none → f ∉ frs X.stack → Q (.ref f) s') :
    wpAny (model X.prog X.w) X.A (eval (.Lambda params body scope pos) X.env) Q E s := by
  obtain ⟨ps, hP, ht, ha⟩ := hT
  have bP := TB.bm.keeps I.bk
  have hP' : s.heap.get? P = some { cls := .none, data := .fields ps } := I.hok P _ hP
  have out : ∀ f, s.heap.objs.size ≤ f → f ∉ frs X.stack := fun f hf z => by
    rcases List.mem_cons.mp (I.stkSub _ z) with e | e
    · have h1 := I.lt
      rw [← e] at h1
      exact absurd (Nat.lt_of_lt_of_le h1 hf) (Nat.lt_irrefl _)
    · exact I.nofs hf e
  refine PySem.W.kla_eval hdef ?_
  rcases hc : codeAmong pos ps.toList with _ | cv
  · refine PySem.W.kla_makeFunction (mg := X.mg) (c := c) (P := P) (ps := ps) (closure_ok hfree) I.ok.glob (I.mod.glob.keeps I.bk) hcode (TB.code.keeps I.bk) hP' ht hc TB.gP bP fun c' ctv h' tk hx hge hlt hrec htb => ?_
    obtain ⟨c2, oc, vs, t, e2, hoc, hd, hv⟩ := hrec
    obtain rfl : c' = c2 := Value.ref.inj e2
    have hsz : s.heap.objs.size ≤ h'.objs.size := Nat.le_trans hge (Nat.le_of_lt hlt)
    have nC : H c' = none := I.hok.fresh hge
    have nP : h'.objs.size ≠ P := Nat.ne_of_gt (Nat.lt_of_lt_of_le (Heap.lt_size hP') hsz)
    have J := inv_table (t' := tk) (more := #[rawInt pos.line, rawInt pos.col, .ref c']) (h' := h'.push (PySem.W.kla_obj "<lambda>" (X.env.qual ++ "<lambda>") params body scope (cloFrom X.env.cells scope.names []) ((X.mg "__name__").getD .none) c' ctv)) I hP
      (fun b o hb e => Heap.get?_push_of_some _ (hx b o hb e)) (Heap.get?_push_of_some _ htb) hge ⟨oc, vs, t, Heap.get?_push_of_some _ hoc, hd, hv⟩
    have eL : (ps ++ #[rawInt pos.line, rawInt pos.col, .ref c']).toList = ps.toList ++ [rawInt pos.line, rawInt pos.col, .ref c'] := by simp
    refine h h'.objs.size c' ((X.mg "__name__").getD .none) ctv _ _ J (.inr ⟨ps, _, hP, nC, rfl, ?_, fun p' cv hcv => ?_⟩) upd_same (Heap.get?_push_size _ rfl) ?_ (out _ hsz)
    · rw [eL]; exact PySem.TriplesOk_snoc _ _ _ _ ht
    · rw [eL] at hcv; exact among_app _ ht hcv
    · rw [upd_ne (Nat.ne_of_gt hlt), upd_ne nP]
      exact I.hok.fresh hsz
  · obtain ⟨c', rfl, hco⟩ := ha pos cv hc
    refine PySem.W.kla_makeFunctionHit (mg := X.mg) (c := c) (P := P) (ps := ps) (closure_ok hfree) I.ok.glob (I.mod.glob.keeps I.bk) hcode (TB.code.keeps I.bk) hP' ht hc bP fun ctv h' tk hx hsz => ?_
    exact h h'.objs.size c' ((X.mg "__name__").getD .none) ctv H _ (I.kept (t' := tk) fun b o e => Heap.get?_push_of_some _ (hx b o e)) (.inl ⟨rfl, ps, pos, hP, hc⟩) hco (Heap.get?_push_size _ rfl) (I.hok.fresh hsz) (out _ hsz)
end
/-- .. in the ghost heap -/
theorem lam_step {o : OP} {G : Gh} {H H1 : Hp} {P c' : Addr} {q : Str} (co : Coh (JO o) G H) (gP : G P = some (.inv 3 [.str q])) (n : LamNew H P q c' H1) : ∃ G1, Step (JO o) G H G1 H1 ∧ G1 c' = some (.code q) := by
  obtain ⟨q', ps0, e0, hP0, ht0, ha0⟩ := (show JTab [.str q] G H P from co P _ gP)
  obtain rfl : q = q' := by simpa using e0
  rcases n with ⟨rfl, ps, pos, hP, hc⟩ | ⟨ps, more, hP, nC, rfl, ht, ha⟩
  · rw [hP0] at hP; cases hP
    obtain ⟨c, e1, e2⟩ := ha0 pos _ hc
    obtain rfl : c' = c := Value.ref.inj e1
    exact ⟨G, Step.refl co, e2⟩
  · rw [hP0] at hP; cases hP
    have gC : G c' = none := co.fresh (joOk o) nC
    have nPc : P ≠ c' := ne_of_none hP0 nC
    have le : GLe G (gupd G c' (.code q)) := GLe.upd gC
    have same : ∀ b, b ≠ P → b ≠ c' → upd (upd H P (.tbl (ps0 ++ more))) c' (CodeO c' q) b = H b := fun b h1 h2 => by rw [upd_ne h2, upd_ne h1]
    have ne : ∀ b g, G b = some g → b ≠ c' := fun b g e z => by rw [z, gC] at e; cases e
    refine ⟨gupd G c' (.code q), ⟨le, ⟨fun b g e => ?_, fun P' ds h => le _ _ (co.st P' ds h)⟩, fun b u e nt z => ?_, fun b xs e => ?_⟩, gupd_same⟩
    · by_cases hb : b = c'
      · subst hb
        rw [gupd_same] at e; cases e
        exact upd_same
      · rw [gupd_ne hb] at e
        have x := co b g e
        by_cases hbP : b = P
        · subst hbP
          rw [gP] at e; cases e
          refine ⟨q, ps0 ++ more, rfl, by rw [upd_ne nPc, upd_same], ht, fun pos cv hcv => ?_⟩
          rcases ha pos cv hcv with z | z
          · obtain ⟨c, e1, e2⟩ := ha0 pos cv z
            exact ⟨c, e1, le _ _ e2⟩
          · exact ⟨c', z, gupd_same⟩
        · have sb := same b hbP hb
          cases g with
          | tup vs => exact sb.trans x
          | lst vs => exact sb.trans x
          | dK vs => exact sb.trans x
          | dT vs => exact sb.trans x
          | dF vs => exact sb.trans x
          | code z => exact sb.trans x
          | priv z => obtain ⟨u, h2, n2⟩ := x; exact ⟨u, sb.trans h2, n2⟩
          | inv t ds =>
            refine (joOk o).mono x le fun d hd => ?_
            rcases hd with rfl | hd
            · exact sb
            · exact same d (fun z => by rw [z, gP] at hd; cases hd) (ne d _ hd)
    · have h1 : b ≠ c' := fun y => by rw [y, nC] at e; cases e
      have h2 : b ≠ P := fun y => by rw [y, gP] at z; cases z
      exact ⟨(same b h2 h1).trans e, by rw [gupd_ne h1]; exact z⟩
    · have h1 : b ≠ c' := fun y => by rw [y, nC] at e; cases e
      have h2 : b ≠ P := fun y => by rw [y, hP0] at e; cases e
      exact (same b h2 h1).trans e
theorem tab_of {o : OP} {G : Gh} {H : Hp} {P : Addr} {q : Str} (co : Coh (JO o) G H) (gP : G P = some (.inv 3 [.str q])) : TabS H P q := by
  obtain ⟨q', ps0, e0, hP0, ht0, ha0⟩ := (show JTab [.str q] G H P from co P _ gP)
  obtain rfl : q = q' := by simpa using e0
  exact ⟨ps0, hP0, ht0, fun pos cv hc => let ⟨c, e1, e2⟩ := ha0 pos cv hc; ⟨c, e1, co c _ e2⟩⟩
end PL
end
section
set_option Elab.async false
set_option linter.all false
set_option maxRecDepth 100000
set_option maxHeartbeats 2000000
set_option autoImplicit false
/-! x(lambda: body): the wish of exceptions is told of the slots at the call -/
namespace PL
open PySem PySem.Spec L2 LamX
open PyProof.Rows hiding St
section
variable {X : Cx} {pins : List (Addr × Obj)} {σ : L2.St} {H : Hp} {s : Shared}
theorem pe_act3 {Ng : List Str} {qg : Str} {sg : Scope} {g f c' : Addr} {cdg pm ctv : Value} {params : Arguments} {body : Expr} {scope : Scope} {k : Nat} {a : Str} {pn : List (Addr × Obj)} {xe : Value → Shared → Prop} {W : WX} {t : XK → TE} {p1 p2 : Pos}
    (I : Inv X pins σ H s) (L : LamS X.env.scope scope) (hf : s.heap.get? f = some (PySem.W.kla_obj "<lambda>" (X.env.qual ++ "<lambda>") params body scope (cloFrom X.env.cells scope.names []) pm c' ctv)) (hfn : H f = none) (hfr : f ∉ frs X.stack)
    (hbind : bindArgs (PySem.W.kla_fn "<lambda>" (X.env.qual ++ "<lambda>") params body scope (cloFrom X.env.cells scope.names []) pm (.ref c') ctv) ⟨[], []⟩ = pure [])
    (tk : Takes ((cxOf C8.CX0 X.prog X.w X.K X.mg X.base Ng qg sg g cdg X.A X.stack s H C8.E0).tr pn xe) W) (hr : Room (k + 1) (X.A.deeper (envOfC qg sg s.heap.objs.size g cdg)))
    (hbody : ∀ (A : Around) (outer : List Env) (s : Shared) (H : Hp) (E : XK), Room k (A.deeper (lamEnv X scope s.heap.objs.size f c')) → (∃ e1, A = X.A.deeper e1) → PE (lamCx X A outer s H E scope f c') body (t E))
    (hN : Ng[0]? = some a) (hv : Vis sg a) (hd : (a == ("__debug__" : Str)) = false) (hcd : (a == ("__classdict__" : Str)) = false) :
    PE ((cxOf C8.CX0 X.prog X.w X.K X.mg X.base Ng qg sg g cdg X.A X.stack s H C8.E0).tr pn xe) (.Call (.Name a p1) [] [] p2)
      (fun σZ HZ Q => σZ[0]? = some (some (.ref f)) ∧ HZ c' = some (CodeO c' (X.env.qual ++ "<lambda>")) ∧ t (fun cls d H' => W cls d σZ H') σ HZ Q) := by
  refine ⟨fun pinsZ sZ σZ HZ Q IZ ⟨hs, hc, ht⟩ => ?_⟩
  refine wpAny_Call_Name_kw (thn ((pe_var (pos := p1) (i := 0) hN hv hd hcd).run pinsZ sZ σZ HZ (fun v H1 => v = .ref f ∧ H1 = HZ) IZ ⟨.ref f, hs, rfl, rfl⟩) fun u s1 ⟨v, H1, I1, r1, ev, eH⟩ => ?_)
  subst ev
  rw [eH] at I1
  obtain rfl : u = Value.ref f := r1
  have of1 : s1.heap.get? f = some (PySem.W.kla_obj "<lambda>" (X.env.qual ++ "<lambda>") params body scope (cloFrom X.env.cells scope.names []) pm c' ctv) := I1.base.keep f _ hf hfn hfr (fun z => nomatch (show f ∈ ([] : List Addr) from z))
  obtain ⟨⟨oc, vs, t0, hoc, hdc, hvc⟩, _, _⟩ := I1.hok c' _ hc
  refine PySem.W.callWith_F0 ⟨_, _, _, _, of1⟩ (wpAny_call ?_)
  have rc : codeAny (model X.prog X.w) (X.A.deeper (envOfC qg sg s.heap.objs.size g cdg)) (.call (.ref f) ⟨[], []⟩) (CR (L2.CX X.prog X.w) (envOfC qg sg s.heap.objs.size g cdg :: X.stack) X.prog X.w HZ s1 Q (fun cls d H' => W cls d σZ H')) s1 := by
    refine PySem.W.kla_callFunE hr.depth of1 rfl L.co L.gen rfl ⟨c', oc, vs, t0, rfl, hoc, hdc, hvc⟩ ?_
    rw [hbind]
    refine wpAny_pure (wpAny_newFunctionEnv (fun y hy => (L.own y hy).2) (fun y hy => absurd hy (by simp)) (fun h₁ hns hsb => ⟨I1.nolimit.fresh _ hsb, ?_⟩) L.kind)
    show codeAny _ _ (.expr body (lamEnv X scope s1.heap.objs.size f c')) _ _
    have J : Inv (lamCx X (X.A.deeper (envOfC qg sg s.heap.objs.size g cdg)) (envOfC qg sg s.heap.objs.size g cdg :: X.stack) s1 HZ (fun cls d H' => W cls d σZ H') scope f c') [] σ HZ { s1 with heap := h₁, toks := s1.toks + ([] : List (Str × Value)).length } :=
      lam_start2 I L I1.env0 hr.hd (show Un (frs X.stack) [] H HZ s.heap s1.heap from I1.base) hns (fun b o e => hsb.extBut b o (Nat.ne_of_lt (Heap.lt_size e)) (Heap.get?_push_of_some _ e))
    refine PySem.W.kla_codeExpr (wpAny_mono ((hbody _ _ s1 HZ _ (hr.deeper _) ⟨_, rfl⟩).run [] _ _ HZ Q J ht) (fun v s' ⟨w', H', J', rv, q⟩ => ⟨w', H', J'.os, J'.bare, J'.base, J'.hok, rv, q⟩) fun e s' hq => hq)
  refine codeAny_mono rc fun r s' hq => ?_
  match r, hq with
  | .error e, hq => exact passAt tk σZ pinsZ HZ s1 e s' I1 hq
  | .ok (.ret u), hq => exact I1.after hq
/-- what a def makes of the act that it is handed: c' the act's code object, f the function; tl its reading -/
def GivesA (X : Cx) (Ng : List Str) (x : Str) (sg : Scope) (g : Addr) (cdg : Value) (bg : List Stmt) (a q : Str) (TT : Addr → (XK → Hp → VK → Prop) → Hp → VK → Prop) : Prop :=
  ∀ (f c' : Addr) (s : Shared) (H : Hp) (Q : VK) (tl : XK → Hp → VK → Prop), Room 2 (X.A.deeper (envOfC x sg s.heap.objs.size g cdg)) →
    (∀ (W : WX) (pn : List (Addr × Obj)) (xe : Value → Shared → Prop) (p1 p2 : Pos), Takes ((cxOf C8.CX0 X.prog X.w X.K X.mg X.base Ng x sg g cdg X.A X.stack s H C8.E0).tr pn xe) W →
      PE ((cxOf C8.CX0 X.prog X.w X.K X.mg X.base Ng x sg g cdg X.A X.stack s H C8.E0).tr pn xe) (.Call (.Name a p1) [] [] p2) (fun σZ HZ Q => σZ[0]? = some (some (.ref f)) ∧ HZ c' = some (CodeO c' q) ∧ tl (fun cls d H' => W cls d σZ H') HZ Q)) →
    TT c' tl H Q → ∃ t, PSs (cxOf C8.CX0 X.prog X.w X.K X.mg X.base Ng x sg g cdg X.A X.stack s H C8.E0).nox bg t ∧ t { nx := fun _ H' => Q .non H', rt := Q } (L2.start Ng [.ref f]) H
theorem pe_lamcall3 {TT : Addr → (XK → Hp → VK → Prop) → Hp → VK → Prop} {x a : Str} {g c P : Addr} {k : Nat} {pg : Arguments} {bg : List Stmt} {sg : Scope} {dV kV doc pm cdv ct oc : Value} {an od : Option Addr} {osl : Array (Option Value)} {Ng : List Str}
    {params : Arguments} {body : Expr} {scope : Scope} {t : XK → TE} {p lpos pos : Pos} (hg : Gl X x) (hm : X.mg x = some (.ref g)) (hk : PySem.W.keepIn X.K (.ref g) = true)
    (lk : X.K.lookup g = some ⟨oc, od, .func (PySem.W.fnOf x x pg bg sg dV kV doc pm an cdv ct), osl⟩) (hcg : PySem.W.codeIn X.K cdv x = true) (hb : Binds X.K (PySem.W.fnOf x x pg bg sg dV kV doc pm an cdv ct) [a] []) (Sg : FnScope Ng [a] sg) (hNg : Ng[0]? = some a) (hva : Vis sg a)
    (hG : GivesA X Ng x sg g cdv bg a (X.env.qual ++ "<lambda>") TT) (TB : ∀ base : Heap, X.K.In base → TabB base X.mg c P) (hcode : X.env.code = .ref c) (hr : Room (k + 4) X.A) (L : LamS X.env.scope scope) (hdef : defaultsOf params X.env = ([], []))
    (hbind : ∀ (q : Str) (cl : List (Str × Addr)) (pm cv ctv : Value), bindArgs (PySem.W.kla_fn "<lambda>" q params body scope cl pm cv ctv) ⟨[], []⟩ = pure [])
    (hbody : ∀ (A : Around) (outer : List Env) (s : Shared) (H : Hp) (E : XK) (f c' : Addr), Room k (A.deeper (lamEnv X scope s.heap.objs.size f c')) → (∃ e1, A = X.A.deeper e1) → PE (lamCx X A outer s H E scope f c') body (t E))
    (hdb : (x == ("__debug__" : Str)) = false) (hd : (a == ("__debug__" : Str)) = false) (hcd : (a == ("__classdict__" : Str)) = false) :
    PE X (.Call (.Name x p) [.Lambda params body scope lpos] [] pos) (fun σ H Q => TabS H P (X.env.qual ++ "<lambda>") ∧ ∀ c' H1, LamNew H P (X.env.qual ++ "<lambda>") c' H1 → TT c' (fun E' H' Q' => t E' σ H' Q') H1 Q) := by
  refine ⟨fun pins s σ H Q I ⟨hT, h⟩ => ?_⟩
  refine wpAny_Call_Name_kw (ld_glob I hg hm ?_ hdb)
  refine PySem.W.callWith_K (h₀ := X.base) I.ok.mod.kin hk ?_ (by rfl) (by rfl)
  show wpAny _ _ (spliced ((false, eval (.Lambda params body scope lpos) X.env) :: backTo pos (starEach [] X.env))) _ _ s
  refine Calls.spliced_cons (lam_make3 I (TB _ I.ok.mod.kin) hcode hT hdef (L.has I.ok) fun f c' pm' ctv H1 s' I1 new hco hf hfn hfr => Calls.spliced_nil ⟨I1.kIn, wpAny_call ?_⟩)
  have rc : codeAny (model X.prog X.w) X.A (.call (.ref g) ⟨[.ref f], []⟩) (CR C8.CX0 X.stack X.prog X.w H1 s' Q C8.E0) s' := by
    refine run_ofS (N := Ng) (ps := [a]) (us := [.ref f]) (vs := [.ref f]) lk hcg Sg (k := k + 3) hr I1.env0 (hb s' [.ref f] I1.kIn rfl) (.cons rfl .nil) rfl fun hr' => ?_
    obtain ⟨t', ht', hq'⟩ := hG f c' s' H1 Q (fun E' H' Q' => t E' σ H' Q') (hr'.mono (by omega)) (fun W pn xe p1 p2 tk => pe_act3 (k := k) I1 L hf hfn hfr (hbind _ _ _ _ _) tk (hr'.mono (by omega)) (fun A outer s H E hr2 he => hbody A outer s H E f c' hr2 he) hNg hva hd hcd) (h c' H1 new)
    exact ⟨t', ht'.nox, hq'⟩
  refine codeAny_mono rc fun r s2 hq => ?_
  match r, hq with
  | .error e, hq => exact (show False from hq).elim
  | .ok (.ret u), hq => exact I1.after hq
end
end PL
end
section
set_option Elab.async false
set_option linter.all false
set_option maxRecDepth 100000
set_option autoImplicit false
/-! a lambda handed to a def that calls it in a try: the W layer -/
namespace PL
open PySem PySem.Spec L2 LamX
open PyProof.Rows hiding St
/-- what an act is worth -/
abbrev WA := (R → Prop) → XP → Prop
def ActOf (J : JT) (mg : Str → Option Value) (G : Gh) (H : Hp) (act : WA) (tl : XK → Hp → VK → Prop) : Prop :=
  ∀ G1 H1, Step J G H G1 H1 → ∀ (P : R → Prop) (E : XP) (Q : VK) (Ech : XK), act P E → (∀ r, P r → ∀ v G' H', Step J G1 H1 G' H' → RepR H1 G' H' v r → Q v H') → (∀ x, E x → ∀ cls d G' H', Step J G1 H1 G' H' → XRep mg G' H' x cls d → Ech cls d H') → tl Ech H1 Q
section
variable {X : Cx} {c : Pc} {o : OP} {pos : Pos} {known own : List Str} {isa : Str → Str → Bool} {flds : List Str}
/-- try: call() / except LotError as n: suite; call the first slot -/
def wTryA (known : List Str) (i : Nat) (f : Addr) (act : WA) (v : Exc → Addr → Addr → WS) : WS := fun k E ρ => (∀ r, some r ∈ ρ → r.isOwn = false) ∧ ρ[0]? = some (some (.val (.raw f none []))) ∧ act (fun _ => k.nx ρ) (fun x => x.cls ∈ known ∧
  ∀ a dx, v x a dx { nx := fun ρ' => k.nx (ρ'.set i none), rt := k.rt, bk := fun ρ' => k.bk (ρ'.set i none), ct := fun ρ' => k.ct (ρ'.set i none) } noX (ρ.set i (some (.val (exD x a dx)))))
theorem ws_tryA {n a q : Str} {f c' : Addr} {act : WA} {tl : XK → Hp → VK → Prop} {v : Exc → Addr → Addr → WS} (xk : XKn X.K c.mg known own isa flds) (hmg : c.mg = X.mg) (i : Nat) {b₀ : Stmt} {suite : List Stmt} {pa pc np p1 p2 : Pos}
    (hact : ActOf c.J c.mg c.G0 c.H0 act tl) (hcode : c.G0 c' = some (.code q))
    (hcall : ∀ (W : WX) (pn : List (Addr × Obj)) (xe : Value → Shared → Prop) (p1 p2 : Pos), Takes (X.tr pn xe) W → PE (X.tr pn xe) (.Call (.Name a p1) [] [] p2) (fun σZ HZ Q => σZ[0]? = some (some (.ref f)) ∧ HZ c' = some (CodeO c' q) ∧ tl (fun cls d H' => W cls d σZ H') HZ Q))
    (hs : X.stack = X.env :: X.outer) (hf : X.env.frame = some X.env.locals) (hN : X.N.Nodup)
    (hv : ∀ (y : Exc) (a dx : Addr) (oe : Obj) (pn : List (Addr × Obj)) (G : Gh) (H : Hp), InS X.K known y dx oe → PSs (X.suite a ((a, oe) :: pn)) (b₀ :: suite) (tWS (c.suite G H) (v y a dx)))
    (hi : X.N[i]? = some n := by rfl) (hln : X.env.kindOf n = some .local := by rfl) (hgl : Gl X "LotError" := by rfl)
    (hsw : ∀ (pn : List (Addr × Obj)) (xe : Value → Shared → Prop), swapsWith (.Call (.Name a pa) [] [] pc) none p1.line (X.tr pn xe).env = pure false := by intro _ _; rfl) :
    PS X (.Try [.Expr (.Call (.Name a pa) [] [] pc) p1] [.ExceptHandler (some (.Name "LotError" np)) (some n) (b₀ :: suite) p2] [] [] pos) (tWS c (wTryA known i f act v)) := by
  have base := ps_try_as (X := X) (body := [.Expr (.Call (.Name a pa) [] [] pc) p1]) (c := .ref (He.ga X.K "LotError")) (tb := fun W D σ H => (σ[0]? = some (some (.ref f)) ∧ H c' = some (CodeO c' q) ∧ tl (fun cls d H' => W cls d σ H') H (fun _ H' => D.nx σ H'))) (Wout := fun _ _ _ _ => False) (pos := pos) (pos' := p2) (np := np) (b₀ := b₀) (suite := suite)
    (ts := fun a cls d D σ H => ∃ y dx G C, cls = .ref C ∧ y.cls ∈ known ∧ c.mg y.cls = some (.ref C) ∧ d = exd? y dx ∧ tWS (c.suite G H) (v y a dx) D σ H)
    hs hf hN hi hln ⟨hgl, by decide, .inl (by rw [← hmg]; exact xk.err)⟩ L2.takes0 (fun W pn xe tk _ => ?_) (fun a oe cls d pn hz hfd => ?_)
  · refine PS.imp base fun D σ H ⟨G, ρ, k, E, s, sr, ⟨no, h0, ha⟩, ok, xa⟩ => ?_
    obtain ⟨v0, e0, r0⟩ := sr.get h0
    obtain rfl : v0 = V.ref f := by
      have z : Rep G (.raw f none []) v0 := r0
      unfold Rep at z; exact z
    refine ⟨e0, s.coh c' _ (s.le _ _ hcode), ?_⟩
    refine hact G H s _ _ _ _ ha (fun r p v' G' H' s2 rr => ok.nx _ p σ G' H' s2.le (s.trans s2) (sr.step s2)) (fun y hy cls d G' H' s2 xr => ?_)
    obtain ⟨hyk, hyv⟩ := hy
    obtain ⟨⟨C', ec, hC'⟩, _⟩ := id xr
    have hC := xk.mgk y.cls hyk
    obtain rfl : C' = He.ga X.K y.cls := Value.ref.inj (Option.some.inj (hC'.symm.trans hC))
    subst ec
    refine ⟨true, xk.exm y.cls hyk, fun _ a _ => ?_, fun z => by cases z⟩
    obtain ⟨dx, hdx⟩ : ∃ dx, ∀ b, d = some b → b = dx := by
      cases d with
      | none => exact ⟨0, fun b z => by cases z⟩
      | some b => exact ⟨b, fun b' z => (Option.some.inj z).symm⟩
    obtain ⟨rx, hd⟩ := exD_rep (a := a) xr hdx
    refine ⟨y, dx, G', _, rfl, hyk, hC, hd, ?_⟩
    refine ⟨G', _, _, noX, Step.refl s2.coh, ((sr.step s2).noOwn no).setVal i rx, hyv a dx, ⟨fun ρ' h σ' G2 H2 le s3 sr3 => ?_, fun r h v2 G2 H2 le s3 rr => ?_, fun ρ' h σ' G2 H2 le s3 sr3 => ?_, fun ρ' h σ' G2 H2 le s3 sr3 => ?_⟩, fun _ z => z.elim⟩
    · exact ok.nx _ h _ _ _ (s2.le.trans s3.le) ((s.trans s2).trans s3) ((SRep.back (jo := c.jo) (s.trans s2) sr3).unset i)
    · exact ok.rt _ h _ _ _ (s2.le.trans s3.le) ((s.trans s2).trans s3) (rr.back c.jo (s.trans s2))
    · exact ok.bk _ h _ _ _ (s2.le.trans s3.le) ((s.trans s2).trans s3) ((SRep.back (jo := c.jo) (s.trans s2) sr3).unset i)
    · exact ok.ct _ h _ _ _ (s2.le.trans s3.le) ((s.trans s2).trans s3) ((SRep.back (jo := c.jo) (s.trans s2) sr3).unset i)
  · exact pss_cons (ps_expr (hcall W pn xe pa pc tk) (hsw pn xe)) pss_nil
  · refine ⟨fun pins s σ H D I ⟨y, dx, G, C, ec, hyk, hC, hd, h⟩ => ?_⟩
    subst ec hd
    have e1 : C = He.ga X.K y.cls := Value.ref.inj (Option.some.inj (hC.symm.trans (xk.mgk _ hyk)))
    subst e1
    exact (hv y a dx oe pn G H ⟨hyk, hz, hfd⟩).run pins s σ H D I h
end

/-! ### the def that is handed an act -/
/-- what such a def is worth: its slots are f (the act) and nothing -/
def mAct (N : Nat) (b : WA → Addr → WS) (act : WA) : (R → Prop) → Prop := fun P => ∀ f, b act f { nx := fun _ => P (.val .non), rt := P, bk := fun _ => False, ct := fun _ => False } noX (some (.val (.raw f none [])) :: List.replicate (N - 1) none)
def TTw (J : JT) (mg : Str → Option Value) (q : Str) (m : WA → (R → Prop) → Prop) (c' : Addr) (tl : XK → Hp → VK → Prop) (H : Hp) (Q : VK) : Prop :=
  ∃ G P act, Coh J G H ∧ G c' = some (.code q) ∧ m act P ∧ (∀ r, P r → ∀ v G' H', Step J G H G' H' → RepR H G' H' v r → Q v H') ∧ ActOf J mg G H act tl
abbrev pcAct (J : JT) (jo : JOk J) (mg : Str → Option Value) (H : Hp) (G : Gh) : Pc := ⟨J, jo, mg, H, G, fun _ _ _ _ => False⟩
/-- `hcall` of such a def -/
def CallA (Y : Cx) (a q : Str) (f c' : Addr) (tl : XK → Hp → VK → Prop) : Prop := ∀ (W : WX) (pn : List (Addr × Obj)) (xe : Value → Shared → Prop) (p1 p2 : Pos), Takes (Y.tr pn xe) W → PE (Y.tr pn xe) (.Call (.Name a p1) [] [] p2) (fun σZ HZ Q => σZ[0]? = some (some (.ref f)) ∧ HZ c' = some (CodeO c' q) ∧ tl (fun cls d H' => W cls d σZ H') HZ Q)
theorem gives_w {X : Cx} {Ng : List Str} {x a q : Str} {sg : Scope} {g : Addr} {cdg : Value} {bg : List Stmt} {J : JT} {jo : JOk J} {b : WA → Addr → WS} (hn : 0 < Ng.length)
    (hb : ∀ (f c' : Addr) (s : Shared) (H : Hp) (G : Gh) (act : WA) (tl : XK → Hp → VK → Prop), Room 2 (X.A.deeper (envOfC x sg s.heap.objs.size g cdg)) → G c' = some (.code q) → ActOf J X.mg G H act tl →
      CallA (cxOf C8.CX0 X.prog X.w X.K X.mg X.base Ng x sg g cdg X.A X.stack s H C8.E0).nox a q f c' tl →
      PSs (cxOf C8.CX0 X.prog X.w X.K X.mg X.base Ng x sg g cdg X.A X.stack s H C8.E0).nox bg (tWS (pcAct J jo X.mg H G) (b act f))) :
    GivesA X Ng x sg g cdg bg a q (TTw J X.mg q (mAct Ng.length b)) := by
  intro f c' s H Q tl hr hc ⟨G, P, act, co, gc, hm, hp, ha⟩
  refine ⟨_, hb f c' s H G act tl hr gc ha hc, ?_⟩
  refine ⟨G, _, _, noX, Step.refl co, ?_, hm f, ⟨fun ρ h σ G' H' _ s' _ => hp _ h _ G' H' s' rr_non, fun r h v G' H' _ s' rr => hp _ h v G' H' s' rr, fun _ h => h.elim, fun _ h => h.elim⟩, fun _ z => z.elim⟩
  have rs : Reps G [D.raw f none []] [V.ref f] := .cons (by unfold Rep; rfl) .nil
  have := srep0 (H0 := H) (H := H) (N := Ng) rs
  exact this
section
variable {X : Cx} {c : Pc} {o : OP} {pos : Pos}
/-- x(lambda: e) -/
def wLam (m : WA → (R → Prop) → Prop) (fb : WE) : WE := fun ρ P _ => m (fun P' E' => fb ρ P' E') P
theorem pd_lam {x a : Str} {g cc P : Addr} {k : Nat} {pg : Arguments} {bg : List Stmt} {sg : Scope} {dV kV doc pm cdv ct oc : Value} {an od : Option Addr} {osl : Array (Option Value)} {Ng : List Str} {m : WA → (R → Prop) → Prop} {fb : WE}
    {params : Arguments} {body : Expr} {scope : Scope} {p lpos : Pos} (hJ : c.J = JO o) (hmg : c.mg = X.mg) (hg : Gl X x) (hm : X.mg x = some (.ref g)) (hk : PySem.W.keepIn X.K (.ref g) = true)
    (lk : X.K.lookup g = some ⟨oc, od, .func (PySem.W.fnOf x x pg bg sg dV kV doc pm an cdv ct), osl⟩) (hcg : PySem.W.codeIn X.K cdv x = true) (hb : Binds X.K (PySem.W.fnOf x x pg bg sg dV kV doc pm an cdv ct) [a] []) (Sg : FnScope Ng [a] sg) (hNg : Ng[0]? = some a) (hva : Vis sg a)
    (hG : GivesA X Ng x sg g cdv bg a (X.env.qual ++ "<lambda>") (TTw (JO o) X.mg (X.env.qual ++ "<lambda>") m)) (TB : ∀ base : Heap, X.K.In base → TabB base X.mg cc P) (hcode : X.env.code = .ref cc) (htab : (P, X.env.qual ++ "<lambda>") ∈ o.tabs) (hr : Room (k + 4) X.A) (L : LamS X.env.scope scope) (hdef : defaultsOf params X.env = ([], []))
    (hbind : ∀ (q : Str) (cl : List (Str × Addr)) (pm cv ctv : Value), bindArgs (PySem.W.kla_fn "<lambda>" q params body scope cl pm cv ctv) ⟨[], []⟩ = pure [])
    (hbody : ∀ (A : Around) (outer : List Env) (s : Shared) (H : Hp) (E : XK) (f c' : Addr), Room k (A.deeper (lamEnv X scope s.heap.objs.size f c')) → (∃ e1, A = X.A.deeper e1) → PE (lamCx X A outer s H E scope f c') body (tWE (c.wish fun cls d _ H' => E cls d H') fb))
    (hdb : (x == ("__debug__" : Str)) = false := by decide) (hd : (a == ("__debug__" : Str)) = false := by decide) (hcd : (a == ("__classdict__" : Str)) = false := by decide) :
    PE X (.Call (.Name x p) [.Lambda params body scope lpos] [] pos) (tWE c (wLam m fb)) := by
  obtain ⟨J, jo, mg, H0, G0, W0⟩ := c
  change J = JO o at hJ
  subst hJ
  change mg = X.mg at hmg
  subst hmg
  refine PE.imp (pe_lamcall3 (t := fun E => tWE (Pc.wish ⟨JO o, jo, X.mg, H0, G0, W0⟩ fun cls d _ H' => E cls d H') fb) hg hm hk lk hcg hb Sg hNg hva hG TB hcode hr L hdef hbind hbody hdb hd hcd) fun σ H Q ⟨G, ρ, Pp, E, co, sr, h, hp, hx⟩ => ?_
  have gP : G P = some (.inv 3 [.str (X.env.qual ++ "<lambda>")]) := co.st P _ ⟨⟨_, rfl, htab⟩, _, rfl, fun _ z => nomatch z⟩
  refine ⟨tab_of co gP, fun c' H1 new => ?_⟩
  obtain ⟨G1, st, gc⟩ := lam_step co gP new
  refine ⟨G1, Pp, _, st.coh, gc, h, fun r pr v G' H' s2 rr => hp r pr v G' H' (st.trans s2) (rr.back jo st), ?_⟩
  intro G2 H2 s2 P' E' Q' Ech ha hp' hx'
  exact ⟨G2, ρ, P', E', s2.coh, (sr.step st).step s2, ha, hp', fun y hy cls d G' H' s3 xr => hx' y hy cls d G' H' s3 xr⟩
end
end PL
end
section
set_option Elab.async false
set_option linter.all false
set_option maxRecDepth 100000
set_option autoImplicit false
/-! the law's start with code tables; the facts of tables -/
namespace PL
open PySem PySem.Spec L2
open PyProof.Rows hiding St
/-! ### facts of a def's code object and its table -/
def codeA (K : PySem.W.Frag) (p : Str × Option Str) : Addr := match K.lookup (He.fAd K p) with
  | some ⟨_, _, .func fd, _⟩ => (match fd.code with
    | .ref c => c
    | _ => 0)
  | _ => 0
def refA : Value → Addr
  | .ref a => a
  | _ => 0
def tabA (K : PySem.W.Frag) (p : Str × Option Str) : Addr := match K.lookup (codeA K p) with
  | some ⟨_, _, .fields vs, _⟩ => refA (vs.getD 11 .none)
  | _ => 0
def isRefB (K : PySem.W.Frag) (p : Str × Option Str) : Bool := match K.lookup (He.fAd K p) with
  | some ⟨_, _, .func fd, _⟩ => (match fd.code with
    | .ref _ => true
    | _ => false)
  | _ => false
def strV : Value → Bool
  | .str _ _ => true
  | _ => false
def intV : Value → Bool
  | .int _ _ => true
  | _ => false
def boolV : Value → Bool
  | .bool _ => true
  | _ => false
def codeHdB (K : PySem.W.Frag) (p : Str × Option Str) : Bool := match K.lookup (codeA K p) with
  | some ⟨cl, _, .fields vs, _⟩ => decide (cl = .type "code") && (decide (vs[11]? = some (.ref (tabA K p))) && (strV (vs.getD 18 .none) && (intV (vs.getD 7 .none) && (boolV (vs.getD 9 .none) && (intV (vs.getD 10 .none) && decide (codeA K p ≠ tabA K p))))))
  | _ => false
def bmB (K : PySem.W.Frag) (p : Str × Option Str) : Bool := He.eqO (PySem.W.nsIn K mainGlobals "__builtins__") (some (some (.ref (He.ga K "__builtins__")))) && (decide (He.ga K "__builtins__" ≠ builtinsNs) && (decide (He.ga K "__builtins__" ≠ mainGlobals) && (decide (He.ga K "__builtins__" ≠ tabA K p) &&
  (match K.lookup (He.ga K "__builtins__") with
  | some ⟨cl, d, .plain, _⟩ => decide (cl = .type "module") && decide (d = some builtinsNs)
  | _ => false))))
def tabB (p : Str × Option Str) (K : PySem.W.Frag) : Bool := isRefB K p && (codeHdB K p && (bmB K p && (decide (mainGlobals ≠ tabA K p) && decide ((K.lookup (tabA K p)).isNone = true))))
theorem strV_ok {v : Value} (h : strV v = true) : ∃ x t, v = .str x t := by cases v <;> first | exact ⟨_, _, rfl⟩ | cases h
theorem intV_ok {v : Value} (h : intV v = true) : ∃ x t, v = .int x t := by cases v <;> first | exact ⟨_, _, rfl⟩ | cases h
theorem boolV_ok {v : Value} (h : boolV v = true) : ∃ x, v = .bool x := by cases v <;> first | exact ⟨_, rfl⟩ | cases h
theorem codeHd_of {K : PySem.W.Frag} {p : Str × Option Str} (h : codeHdB K p = true) {base : Heap} (X : K.In base) : PySem.W.CodeHd base (codeA K p) (tabA K p) := by
  unfold codeHdB at h
  split at h
  · rename_i cl d vs sl lk
    simp only [Bool.and_eq_true, decide_eq_true_eq] at h
    obtain ⟨h1, h2, h3, h4, h5, h6, h7⟩ := h
    obtain ⟨f, t1, e1⟩ := strV_ok h3
    obtain ⟨a, t2, e2⟩ := intV_ok h4
    obtain ⟨b, e3⟩ := boolV_ok h5
    obtain ⟨c, t3, e4⟩ := intV_ok h6
    refine ⟨_, vs, f, t1, a, t2, b, c, t3, X _ _ lk, h1, rfl, h2, ?_, e1, e2, e3, e4, h7⟩
    rw [Array.getD_eq_getD_getElem?, h2]; rfl
  · cases h
theorem tabB_ok {K : PySem.W.Frag} {mg : Str → Option Value} {p : Str × Option Str} {h0 : Heap} (X0 : K.In h0) (G0 : h0.Ns mainGlobals mg) (h : tabB p K = true) : (∀ base : Heap, K.In base → LamX.TabB base mg (codeA K p) (tabA K p)) ∧ K.lookup (tabA K p) = none := by
  unfold tabB at h
  simp only [Bool.and_eq_true, decide_eq_true_eq] at h
  obtain ⟨_, h2, h3, h4, h5⟩ := h
  refine ⟨fun base X => ⟨codeHd_of h2 X, ?_, h4⟩, by simpa using h5⟩
  unfold bmB at h3
  simp only [Bool.and_eq_true, decide_eq_true_eq] at h3
  obtain ⟨b1, b2, b3, b4, b5⟩ := h3
  split at b5
  · rename_i cl d sl lk
    simp only [Bool.and_eq_true, decide_eq_true_eq] at b5
    exact ⟨He.ga K "__builtins__", _, PySem.W.mg_of X0 G0 (He.eqO_ok b1), b2, b3, b4, X _ _ lk, b5.1, b5.2, rfl⟩
  · cases b5
theorem code_of {K : PySem.W.Frag} {x qual : Str} {st : Stmt} {p : Str × Option Str} {fd : FuncData} (F : FnP K x qual st (He.fAd K p) fd) (h : tabB p K = true) : fd.code = .ref (codeA K p) := by
  obtain ⟨oc, od, dV, kV, doc, pm, an, cdv, ct, osl, rfl, lk, hcd, _, _⟩ := F.ex
  unfold tabB at h
  simp only [Bool.and_eq_true] at h
  have h1 := h.1
  unfold isRefB at h1
  unfold codeA
  rw [lk] at h1 ⊢
  dsimp only at h1 ⊢
  cases cdv with
  | ref c => rfl
  | _ => cases h1

/-! ### the start -/
/-- a law's call with tables -/
structure BeginT (P : Program) (w : World) (K : PySem.W.Frag) (mg : Str → Option Value) (s : Shared) (a : Addr) (ns : List Int) (ts : List Addr) (H : Hp) (base : Heap) : Prop where
  e0 : Env0 P w K mg base callerA [] s H
  kin : K.In base
  nsb : base.Ns mainGlobals mg
  sq : SqL K H a (ns.map V.int)
  tab : ∀ P ∈ ts, H P = some (.tbl #[])
  only : ∀ b, H b = none ∨ b ∈ ts ∨ ∃ o u, H b = some (.frz o u)
theorem begin_ofT {P : Program} {w : World} {K : PySem.W.Frag} {mg mb : Str → Option Value} {s : Shared} {a : Addr} {vs : List Value} {ns : List Int} {ts : List Addr} (KX : K.In s.heap) (hns : s.heap.Ns mainGlobals mg) (hb : s.heap.Ns builtinsNs mb) (hbb : ∀ x : Str, x ≠ "__name__" → mb x = bootBuiltins x) (hlim : s.heap.NoLimit) (hg : s.gens = #[])
    (hT : ∀ P ∈ ts, s.heap.get? P = some { cls := .none, data := .fields #[] }) (nT : ∀ P ∈ ts, K.lookup P = none)
    (ha : s.heap.get? a = some { cls := .type "list", data := .seq vs.toArray }) (hi : IntsAre vs ns) (hl : ns.length ≤ sizeLine) : ∃ H base, BeginT P w K mg s a ns ts H base := by
  have rel := vals_ints hi
  have aT : a ∉ ts := fun z => by
    have q := hT a z
    rw [ha] at q
    cases q
  have made : ∀ H : Hp, (∀ P ∈ ts, H P = some (.tbl #[])) → (∀ b u, H b = some u → (b ∈ ts ∧ u = .tbl #[]) ∨ (b = a ∧ K.lookup a = none ∧ u = .frz { cls := .type "list", data := .seq vs.toArray } (.lst (ns.map V.int)))) → SqL K H a (ns.map V.int) → BeginT P w K mg s a ns ts H (hidT s.heap H) := by
    intro H hH1 hH sq
    have keep : ∀ {b : Addr} {o : Obj}, s.heap.get? b = some o → (∀ xs n, o.data ≠ .seq xs n) → o.data ≠ .fields #[] → (hidT s.heap H).get? b = some o := fun {b o} e d d2 => by
      refine hidT_get e ?_
      cases q : H b with
      | none => rfl
      | some u =>
        rcases hH b u q with ⟨z, _⟩ | ⟨rfl, _, _⟩
        · rw [hT b z] at e; cases e
          exact absurd rfl d2
        · rw [ha] at e; cases e
          exact absurd rfl (d _ _)
    have nsK : ∀ {b : Addr} {m : Str → Option Value}, s.heap.Ns b m → (hidT s.heap H).Ns b m := fun {b m} ⟨o, es, ep, e, d, r⟩ => ⟨o, es, ep, keep e (fun xs n z => by rw [d] at z; cases z) (fun z => by rw [d] at z; cases z), d, r⟩
    have kb : K.In (hidT s.heap H) := fun b o e => by
      refine hidT_get (KX b o e) ?_
      cases q : H b with
      | none => rfl
      | some u =>
        rcases hH b u q with ⟨z, _⟩ | ⟨rfl, z, _⟩
        · rw [nT b z] at e; cases e
        · rw [z] at e; cases e
    have hok : HOk P w H s.heap := fun b u q => by
      rcases hH b u q with ⟨z, rfl⟩ | ⟨rfl, _, rfl⟩
      · exact hT b z
      · exact ⟨ha, by rw [List.length_map]; exact hl, vs, _, rel, ha⟩
    refine ⟨⟨rfl, ⟨kb, nsK hns, ⟨mb, nsK hb, hbb⟩, ?_⟩, fun b o e => of_hidT e, Nat.le_of_eq (hidT_size _ _), trivial, fun b z => (nomatch z), hok, .of_eq hg⟩, kb, nsK hns, sq, hH1, fun b => ?_⟩
    · obtain ⟨mc, h1, h2⟩ := hlim; exact ⟨mc, nsK h1, h2⟩
    · cases q : H b with
      | none => exact .inl rfl
      | some u =>
        rcases hH b u q with ⟨z, _⟩ | ⟨_, _, rfl⟩
        · exact .inr (.inl z)
        · exact .inr (.inr ⟨_, _, rfl⟩)
  cases hk : K.lookup a with
  | none =>
    refine ⟨_, _, made (fun b => if b ∈ ts then some (.tbl #[]) else if b = a then some (.frz { cls := .type "list", data := .seq vs.toArray } (.lst (ns.map V.int))) else none) (fun P hP => if_pos hP) (fun b u q => ?_) (.inl (.inr ⟨_, (if_neg aT).trans (if_pos rfl)⟩))⟩
    by_cases e : b ∈ ts
    · rw [if_pos e] at q; cases q; exact .inl ⟨e, rfl⟩
    · rw [if_neg e] at q
      by_cases e2 : b = a
      · rw [if_pos e2] at q; cases q; exact .inr ⟨e2, hk, rfl⟩
      · rw [if_neg e2] at q; cases q
  | some ob =>
    have e := KX a ob hk
    rw [ha] at e; cases e
    refine ⟨_, _, made (fun b => if b ∈ ts then some (.tbl #[]) else none) (fun P hP => if_pos hP) (fun b u q => ?_) (.inr ⟨_, vs.toArray, _, hk, rfl, rfl, rfl, by rw [List.size_toArray, hi.length]; exact hl, by simpa using rel⟩)⟩
    by_cases e : b ∈ ts
    · rw [if_pos e] at q; cases q; exact .inl ⟨e, rfl⟩
    · rw [if_neg e] at q; cases q
/-- the ghost heap that a law begins with -/
def G0T (tabs : List (Addr × Str)) : Gh := fun b => (tabs.lookup b).map fun q => .inv 3 [.str q]
theorem lookup_mem {tabs : List (Addr × Str)} {b : Addr} {q : Str} (h : tabs.lookup b = some q) : (b, q) ∈ tabs := by
  induction tabs with
  | nil => cases h
  | cons t tabs ih =>
    obtain ⟨b0, q0⟩ := t
    by_cases e : b = b0
    · subst e
      simp [List.lookup] at h
      subst h; exact List.mem_cons_self
    · have z : (b == b0) = false := by simpa using e
      simp only [List.lookup, z] at h
      exact List.mem_cons_of_mem _ (ih h)
theorem lookup_of {tabs : List (Addr × Str)} (nd : (tabs.map (·.1)).Nodup) {b : Addr} {q : Str} (h : (b, q) ∈ tabs) : tabs.lookup b = some q := by
  induction tabs with
  | nil => cases h
  | cons t tabs ih =>
    obtain ⟨b0, q0⟩ := t
    rw [List.map_cons] at nd
    have n1 := List.nodup_cons.mp nd
    rcases List.mem_cons.mp h with e | e
    · cases e; simp [List.lookup]
    · have ne : b ≠ b0 := fun z => n1.1 (List.mem_map.mpr ⟨(b, q), e, z⟩)
      have : (b == b0) = false := by simpa using ne
      simp only [List.lookup, this]
      exact ih n1.2 e
theorem coh0 {o : OP} {H : Hp} (nd : (o.tabs.map (·.1)).Nodup) (h : ∀ p ∈ o.tabs, H p.1 = some (.tbl #[])) : Coh (JO o) (G0T o.tabs) H := by
  refine ⟨fun b g e => ?_, fun P ds hs => ?_⟩
  · unfold G0T at e
    cases q : o.tabs.lookup b with
    | none => rw [q] at e; cases e
    | some x =>
      rw [q] at e; cases e
      refine ⟨x, #[], rfl, h (b, x) (lookup_mem q), trivial, fun pos cv hc => ?_⟩
      have z : codeAmong pos [] = some cv := hc
      simp [codeAmong] at z
  · obtain ⟨⟨q, rfl, hq⟩, _⟩ := (show (∃ q, ds = [.str q] ∧ (P, q) ∈ o.tabs) ∧ _ from hs)
    unfold G0T
    rw [lookup_of nd hq]; rfl
theorem law_runT {P : Program} {w : World} {K : PySem.W.Frag} {mg : Str → Option Value} {s : Shared} {a : Addr} {ns : List Int} {o : OP} {k : Nat} {fa : Addr} {fd : FuncData} {H : Hp} {base : Heap} (B : BeginT P w K mg s a ns (o.tabs.map (·.1)) H base) (nd : (o.tabs.map (·.1)).Nodup) (hr : Room k callerA) (F : FnG pG P w K mg base (L2.CX P w) k fa fd ["script"] (spLaw (JO o) K)) (hbind : BindsTo s fd ⟨[.ref a], []⟩ [("script", .ref a)])
    (hT : ∀ P ∈ o.tabs.map (·.1), s.heap.get? P = some { cls := .none, data := .fields #[] }) (hC : ∀ P ∈ o.tabs.map (·.1), ∃ c, PySem.W.CodeHd s.heap c P) :
    codeAny (model P w) callerA (.call (.ref fa) ⟨[.ref a], []⟩) (fun r s' => r = .ok (.ret (.bool true)) ∧ PySem.OldK s.heap s'.heap ∧ s'.os = s.os ∧ AllBare s'.gens) s := by
  have start : spLaw (JO o) K [V.ref a] H (fun v _ => v = .bl true) (fun _ _ _ => False) := ⟨G0T o.tabs, a, ns, rfl, coh0 nd (fun p hp => B.tab _ (List.mem_map.mpr ⟨p, hp, rfl⟩)), B.sq, fun _ => rfl⟩
  refine codeAny_mono (F.run callerA [] s H ⟨[.ref a], []⟩ [.ref a] [.ref a] _ _ hr rfl B.e0 hbind (.cons rfl .nil) start) fun r s' h => ?_
  match r, h with
  | .error e, h => obtain ⟨_, _, _, _, _, _, _, _, _, _, _, _, z⟩ := h; exact z.elim
  | .ok .next, h => exact False.elim h
  | .ok .brk, h => exact False.elim h
  | .ok .cont, h => exact False.elim h
  | .ok (.ret u), h =>
    obtain ⟨v, H', os, bare, un, hok', rv, hv⟩ := h
    change v = .bl true at hv
    subst hv
    obtain rfl : u = Value.bool true := rv
    have key : ∀ b ob, b ∉ o.tabs.map (·.1) → s.heap.get? b = some ob → s'.heap.get? b = some ob := fun b ob nb e => by
      rcases B.only b with q | q | ⟨o2, u, q⟩
      · exact un.keep b ob e q (fun z => nomatch z) (fun z => nomatch z)
      · exact absurd q nb
      · obtain ⟨e1, _⟩ := B.e0.hok b _ q
        obtain ⟨e2, _⟩ := hok' b _ (un.frzs b o2 _ q)
        rw [e] at e1; cases e1
        exact e2
    have grown : ∀ P ∈ o.tabs.map (·.1), ∃ more : Array Value, s'.heap.get? P = some { cls := .none, data := .fields more } := fun P hP => by
      obtain ⟨more, z⟩ := un.tbls P #[] (B.tab P hP)
      exact ⟨_, hok' P _ z⟩
    refine ⟨rfl, ⟨fun b ob e => ?_, fun b ob e => ?_⟩, os, bare⟩
    · by_cases hb : b ∈ o.tabs.map (·.1)
      · obtain ⟨more, hm⟩ := grown b hb
        obtain ⟨c, hc⟩ := hC b hb
        rw [hT b hb] at e
        cases e
        exact .inr (.inl ⟨(hc.tab (hT b hb)).isCodeTable, rfl, #[], more, rfl, by rw [Array.empty_append]; exact hm⟩)
      · exact .inl (key b ob hb e)
    · by_cases hb : b ∈ o.tabs.map (·.1)
      · obtain ⟨more, hm⟩ := grown b hb
        exact ⟨_, hm⟩
      · exact ⟨ob, key b ob hb e⟩
/-- a law over a head by facts, with tables -/
theorem walk_lawT {l : PySem.W.OpenLaw} {n k : Nat} {q : Program} {loose : List Str} {XP : (Str → Option Value) → Heap → Prop} {YP : World → Heap → Prop} {d : DefRec}
    (hn : l.most = some n) (hn2 : n ≤ sizeLine) (hdf : d.params.defaults = []) (hr : Room k callerA)
    (F : ∀ (w : World) (mg : Str → Option Value) (fa : Addr) (h : Heap), YP w h → h.Ns mainGlobals mg → mg d.name = some (.ref fa) →
      ∃ (K : PySem.W.Frag) (fd : FuncData) (o : OP), (o.tabs.map (·.1)).Nodup ∧ (∀ P ∈ o.tabs.map (·.1), h.get? P = some { cls := .none, data := .fields #[] } ∧ K.lookup P = none ∧ ∃ c, PySem.W.CodeHd h c P) ∧ K.In h ∧ (∀ (s : Shared) (u : Value), BindsTo s fd ⟨[u], []⟩ [("script", u)]) ∧
        ∀ base : Heap, K.In base → base.Ns mainGlobals mg → FnG pG l.prog w K mg base (L2.CX l.prog w) k fa fd ["script"] (spLaw (JO o) K)) :
    PySem.W.WalkO q loose XP YP l.row.toRowW d [] (fun f vs => PySem.call f vs) := by
  refine Att.attach_call hn hdf fun w s₀ s₁ mg mb fa o pm cd doc a vs ns G Y ho hd hcd hmg hobj hints hlen hg => ?_
  obtain ⟨K, fd, op, nd, hT, KX, hb, hF⟩ := F w mg fa _ Y G.T.g hmg
  obtain ⟨H, base, B⟩ := begin_ofT (P := l.prog) (w := w) KX G.T.g G.T.b G.T.builtins G.T.nolimit hg (fun P hP => (hT P hP).1) (fun P hP => (hT P hP).2.1) hobj hints (Nat.le_trans hlen hn2)
  exact law_runT B nd hr (hF base B.kin B.nsb) (hb s₁ (.ref a)) (fun P hP => (hT P hP).1) (fun P hP => (hT P hP).2.2)
end PL
end
section
set_option Elab.async false
set_option linter.all false
set_option maxRecDepth 100000
set_option autoImplicit false
/-! a def with a lambda in it; the lambda call by the facts; a hook with tables -/
namespace PL
open PySem PySem.Spec L2
open PyProof.Rows hiding St
section
variable {p : Around → Prop} {P : Program} {w : World} {K : PySem.W.Frag} {mg : Str → Option Value} {base : Heap} {J : JT} {jo : JOk J}
/-- THE RULE for a def whose code object matters -/
theorem def_okL {x qual : Str} {st : Stmt} {pth : Str × Option Str} {fd : FuncData} {N ps : List Str} {k : Nat} {body : WS} (F : FnP K x qual st (He.fAd K pth) fd) (ht : fd.code = .ref (codeA K pth)) (S : FnScope N ps (defScope st)) (kp : Keeps p)
    (hb : ∀ (cdv : Value) (A : Around) (outer : List Env) (s : Shared) (H : Hp) (E : XK) (G : Gh), Room k (A.deeper (envOfC qual (defScope st) s.heap.objs.size (He.fAd K pth) cdv)) → p (A.deeper (envOfC qual (defScope st) s.heap.objs.size (He.fAd K pth) cdv)) → cdv = .ref (codeA K pth) →
      PSs (cxOf (L2.CX P w) P w K mg base N qual (defScope st) (He.fAd K pth) cdv A outer s H E) (defBody st) (tWS (pcOf J jo mg H G E) body)) : FnG p P w K mg base (L2.CX P w) (k + 1) (He.fAd K pth) fd ps (spD J mg ps.length (mOf N.length body)) := by
  obtain ⟨oc, od, dV, kV, doc, pm, an, cdv, ct, osl, rfl, lk, hcd, _, _⟩ := F.ex
  refine ⟨fun vs H Q E h => spD_len vs H Q E h, fun A outer s H args us vs Q E hr hp e0 hbd r h => ?_⟩
  refine LamX.run_ofS lk hcd S hr e0 hbd r (spD_len _ _ _ _ h) fun hr' => ?_
  obtain ⟨G, ds, PP, EX, co, rs, hl, hm, hq, hx⟩ := h
  refine ⟨_, hb cdv A outer s H E G hr' (kp _ _ hp) ht, ?_⟩
  exact ⟨G, rho0 N.length ds, _, EX, Step.refl co, srep0 rs, hm, ⟨fun ρ h σ G' H' _ s' _ => hq _ h _ G' H' s' rr_non, fun r h v G' H' _ s' rr => hq _ h v G' H' s' rr, fun _ h => h.elim, fun _ h => h.elim⟩, fun y hy cls d σ G' H' s' xr => hx y hy cls d G' H' s' xr⟩
end
section
variable {X : Cx} {c : Pc} {o : OP} {pos : Pos}
/-- x(lambda: e), by the facts -/
theorem pd_lamF {x a : Str} {st : Stmt} {g : Addr} {fd : FuncData} {pth : Str × Option Str} {k : Nat} {Ng : List Str} {m : WA → (R → Prop) → Prop} {fb : WE} {params : Arguments} {body : Expr} {scope : Scope} {pp lpos : Pos} (hJ : c.J = JO o) (hmg : c.mg = X.mg) (hm : X.mg x = some (.ref g))
    (F : FnP X.K x x st g fd) (hb : Binds X.K fd [a] []) (Sg : FnScope Ng [a] (defScope st)) (hG : ∀ cdv, GivesA X Ng x (defScope st) g cdv (defBody st) a (X.env.qual ++ "<lambda>") (TTw (JO o) X.mg (X.env.qual ++ "<lambda>") m))
    (TB : ∀ base : Heap, X.K.In base → LamX.TabB base X.mg (codeA X.K pth) (tabA X.K pth)) (hcode : X.env.code = .ref (codeA X.K pth)) (htab : (tabA X.K pth, X.env.qual ++ "<lambda>") ∈ o.tabs) (hr : Room (k + 4) X.A) (L : LamX.LamS X.env.scope scope)
    (hbody : ∀ (A : Around) (outer : List Env) (s : Shared) (H : Hp) (E : XK) (f c' : Addr), Room k (A.deeper (LamX.lamEnv X scope s.heap.objs.size f c')) → (∃ e1, A = X.A.deeper e1) → PE (LamX.lamCx X A outer s H E scope f c') body (tWE (c.wish fun cls d _ H' => E cls d H') fb))
    (hg : Gl X x := by rfl) (hNg : Ng[0]? = some a := by rfl) (hva : Vis (defScope st) a := by first | exact Or.inl rfl | exact Or.inr (Or.inl rfl) | exact Or.inr (Or.inr rfl)) (hdef : defaultsOf params X.env = ([], []) := by rfl)
    (hbind : ∀ (q : Str) (cl : List (Str × Addr)) (pm cv ctv : Value), bindArgs (PySem.W.kla_fn "<lambda>" q params body scope cl pm cv ctv) ⟨[], []⟩ = pure [] := by intros; rfl)
    (hdb : (x == ("__debug__" : Str)) = false := by decide) (hd : (a == ("__debug__" : Str)) = false := by decide) (hcd : (a == ("__classdict__" : Str)) = false := by decide) :
    PE X (.Call (.Name x pp) [.Lambda params body scope lpos] [] pos) (tWE c (wLam m fb)) := by
  obtain ⟨oc, od, dV, kV, doc, pm, an, cdv, ct, osl, rfl, lk, hcc, _, _⟩ := F.ex
  exact pd_lam hJ hmg hg hm F.kp lk hcc hb Sg hNg hva (hG cdv) TB hcode htab hr L hdef hbind hbody hdb hd hcd
end

/-! ### a hook with tables -/
def emptyB (o : Option Obj) : Bool := match o with
  | some ⟨.none, none, .fields vs, sl⟩ => vs.isEmpty && sl.isEmpty
  | _ => false
def noTab (g : Addr → Option Obj) (as : List Addr) : List Addr := as.filter fun a => !emptyB (g a)
theorem empty_ok {o : Option Obj} (h : emptyB o = true) : o = some { cls := .none, data := .fields #[] } := by
  unfold emptyB at h
  split at h
  · rename_i vs sl
    simp only [Bool.and_eq_true, Array.isEmpty_iff] at h
    rw [h.1, h.2]
  · cases h
abbrev AlY : Type := AlX × Bool
abbrev Pth : Type := Str × Option Str
abbrev frY (g : Addr → Option Obj) (n : Nat) : PySem.W.Frag := He.frG g (noTab g (cStatics :: He.asD g n))
def obsYG (n : Nat) (fa : List He.Fa) (fn : List He.DefD) (xs : List XcD) (xa : List (PySem.W.Frag → Bool)) (ts : List Pth) (g : Addr → Option Obj) : AlY := (obsX fa fn xs xa (frY g n), ts.all fun p => emptyB (g (tabA (frY g n) p)))
def valY (fn : List He.DefD) (xs : List XcD) : AlY := (valX fn xs, true)
def hookY (n : Nat) (fa : List He.Fa) (fn : List He.DefD) (xs : List XcD) (xa : List (PySem.W.Frag → Bool)) (ts : List Pth) : PySem.W.Hook where
  α := AlY
  obs := fun s => obsYG n fa fn xs xa ts s.heap.get?
  val := fun _ => valY fn xs
  says := fun _ h => ∃ K : PySem.W.Frag, K.In h ∧ SaysX fa fn xs xa K ∧ ∀ p ∈ ts, h.get? (tabA K p) = some { cls := .none, data := .fields #[] }
  of := fun _ _ e => ⟨_, He.frG_in, congrArg (fun z : AlY => z.1) e, fun p hp => empty_ok (List.all_eq_true.mp (congrArg (fun z : AlY => z.2) e) p hp)⟩
  keeps := fun _ _ _ ⟨K, hK, c, t⟩ k => ⟨K, PySem.W.Frag.In.keeps hK k, c, fun p hp => k _ _ (t p hp)⟩
theorem obsYG_eq {n : Nat} {fa : List He.Fa} {fn : List He.DefD} {xs : List XcD} {xa : List (PySem.W.Frag → Bool)} {ts : List Pth} {g : Addr → Option Obj} {s : Shared} (h : ∀ a, g a = s.heap.get? a) : obsYG n fa fn xs xa ts g = (hookY n fa fn xs xa ts).obs s := by
  have e : g = s.heap.get? := funext h
  rw [e] <;> rfl
def nodupB (ts : List Pth) (K : PySem.W.Frag) : Bool := decide ((ts.map (tabA K)).Nodup)
end PL
end
section
set_option Elab.async false
set_option linter.all false
set_option maxRecDepth 100000
set_option autoImplicit false
/-! a law whose own body has lambdas -/
namespace PL
open PySem PySem.Spec L2
open PyProof.Rows hiding St
section
variable {p : Around → Prop} {P : Program} {w : World} {K : PySem.W.Frag} {mg : Str → Option Value} {base : Heap} {o : OP}
theorem law_okL {x qual : Str} {st : Stmt} {pth : Str × Option Str} {fd : FuncData} {N : List Str} {k i : Nat} {s1 : Stmt} {ss : List Stmt} {b : WS} (F : FnP K x qual st (He.fAd K pth) fd) (ht : fd.code = .ref (codeA K pth)) (S : FnScope N ["script"] (defScope st)) (kp : Keeps p) (hN : 0 < N.length) (hb : defBody st = s1 :: ss)
    (h1 : ∀ (cdv : Value) (A : Around) (outer : List Env) (s : Shared) (H : Hp) (E : XK) (G : Gh), Room k (A.deeper (envOfC qual (defScope st) s.heap.objs.size (He.fAd K pth) cdv)) → p (A.deeper (envOfC qual (defScope st) s.heap.objs.size (He.fAd K pth) cdv)) →
      PS (cxOf (L2.CX P w) P w K mg base N qual (defScope st) (He.fAd K pth) cdv A outer s H E) s1 (tAsg (tCallS (spScr (JO o) K dHand) (fun σ cls d H' => E cls d H') (tCons (tVar 0) tNil)) (gName i)))
    (h2 : ∀ (cdv : Value) (A : Around) (outer : List Env) (s : Shared) (H : Hp) (E : XK) (G : Gh), Room k (A.deeper (envOfC qual (defScope st) s.heap.objs.size (He.fAd K pth) cdv)) → p (A.deeper (envOfC qual (defScope st) s.heap.objs.size (He.fAd K pth) cdv)) → cdv = .ref (codeA K pth) →
      PSs (cxOf (L2.CX P w) P w K mg base N qual (defScope st) (He.fAd K pth) cdv A outer s H E) ss (tWS (pcOf (JO o) (joOk o) mg H G E) b))
    (sem : b { nx := fun _ => False, rt := fun r => r = .val (.bl true), bk := fun _ => False, ct := fun _ => False } noX ((List.replicate N.length none).set i (some (.val dHand)))) : FnG p P w K mg base (L2.CX P w) (k + 1) (He.fAd K pth) fd ["script"] (spLaw (JO o) K) := by
  have hlen : ∀ vs H Q E, spLaw (JO o) K vs H Q E → vs.length = (["script"] : List Str).length := fun vs H Q E ⟨G, a, ns, e, _⟩ => by rw [e]; rfl
  obtain ⟨oc, od, dV, kV, doc, pm, an, cdv, ct, osl, rfl, lk, hcd, _, _⟩ := F.ex
  refine ⟨hlen, fun A outer s H args us vs Q E hr hp e0 hbd r h => ?_⟩
  refine LamX.run_ofS lk hcd S hr e0 hbd r (hlen _ _ _ _ h) fun hr' => ?_
  obtain ⟨G, a, ns, rfl, co, sq, hq⟩ := h
  rw [hb]
  refine ⟨_, pss_cons (h1 cdv A outer s H E G hr' (kp _ _ hp)) (h2 cdv A outer s H E G hr' (kp _ _ hp) ht), ?_⟩
  have sr : SRep H G H (L2.start N [.ref a]) (List.replicate N.length none) := by
    refine ⟨by unfold L2.start; simp; omega, fun j r e => ?_, fun j k' r r' p e _ _ _ _ _ => ?_⟩
    · rw [List.getElem?_replicate] at e; split at e <;> cases e
    · rw [List.getElem?_replicate] at e; split at e <;> cases e
  refine ⟨V.ref a, rfl, G, a, ns, rfl, co, sq, fun v G' H' s' rd => ?_⟩
  exact ⟨G', _, _, noX, s', (sr.step s').setVal i rd, sem, ⟨fun _ h => h.elim, fun r h v G2 H2 _ s2 rr => by
    subst h
    rw [Rep.bl_ (show Rep G2 (.bl true) v from rr)]; exact hq H2, fun _ h => h.elim, fun _ h => h.elim⟩, fun _ h => h.elim⟩
end
end PL
namespace PL
open PySem PySem.Spec L2
open PyProof.Rows hiding St
def tabsB (ts : List Pth) (K : PySem.W.Frag) : Bool := ts.all fun p => tabB p K
theorem tabs_at {ts : List Pth} {K : PySem.W.Frag} (e : tabsB ts K = true) {p : Pth} (hp : p ∈ ts) : tabB p K = true := List.all_eq_true.mp e p hp
theorem tabs_all {ts : List Pth} {K : PySem.W.Frag} {h : Heap} {mg : Str → Option Value} (X : K.In h) (G : h.Ns mainGlobals mg) (e : tabsB ts K = true) (ht : ∀ p ∈ ts, h.get? (tabA K p) = some { cls := .none, data := .fields #[] }) :
    ∀ P ∈ ts.map (tabA K), h.get? P = some { cls := .none, data := .fields #[] } ∧ K.lookup P = none ∧ ∃ c, PySem.W.CodeHd h c P := fun P hP => by
  obtain ⟨p, hp, rfl⟩ := List.mem_map.mp hP
  have t := tabs_at e hp
  refine ⟨ht p hp, (tabB_ok X G t).2, codeA K p, ?_⟩
  unfold tabB at t
  simp only [Bool.and_eq_true] at t
  exact codeHd_of t.2.1 X
end PL
end
section
set_option Elab.async false
set_option linter.all false
set_option maxRecDepth 100000
set_option autoImplicit false
/-! list.count, list.index of a list of bools -/
namespace PL
open PySem PySem.Spec L2
open PyProof.Rows hiding St
section
variable {X : Cx}
theorem countP_eqU {x : V} : ∀ {xs : List V} {us : List Value}, Vals xs us → xs.all flatV = true → us.countP (eqU x) = xs.countP fun y => eqV y x
  | _, _, .nil, _ => rfl
  | y :: xs, u :: us, .cons r t, f => by
    rw [List.all_cons, Bool.and_eq_true] at f
    rw [List.countP_cons, List.countP_cons, eqU_of r f.1, countP_eqU t f.2]
def rCountF (K : PySem.W.Frag) : V → List V → Hp → VK → Prop := fun x xs H Q => ∃ (a : Addr) (ys : List V) (y : V), x = V.ref a ∧ xs = [y] ∧ SqL K H a ys ∧ flatV y = true ∧ ys.all flatV = true ∧ Q (.int (ys.countP fun z => eqV z y : Nat)) H
theorem mt_countF : MtR X "list.count" (rCountF X.K) := by
  intro pins s σ H x xs v us Q I rx rxs h
  obtain ⟨a, ys, y, rfl, rfl, hs, fy, fys, q⟩ := h
  cases rx
  obtain ⟨u, rfl, ru⟩ := rxs.one
  obtain ⟨its, rv, ⟨⟨cls, dd, data, sl⟩, n, ho, hc, hdn, hd⟩, hlen⟩ := I.list hs
  simp only at hc hd
  subst hc hd
  refine call_meets PySem.F.slot_list_count ⟨_, ho, rfl⟩ PySem.F.entry_list_count (PySem.F.args_list_count_2 _ _)
    (SeqAt.list_countAt a its.toArray n dd sl u (eqU y)) ⟨ho, fun u' hu' => mem_eqAt ru fy rv fys u' (by simpa using hu'), ?_⟩
  have ec : its.toArray.toList.countP (eqU y) = ys.countP fun z => eqV z y := countP_eqU rv fys
  refine ⟨.int (ys.countP fun z => eqV z y : Nat), H, I.tok _, ⟨s.toks, ?_⟩, q⟩
  show Value.int ((its.toArray.toList.countP (eqU y) : Nat) : Int) s.toks = Value.int ((ys.countP fun z => eqV z y : Nat) : Int) s.toks
  rw [ec]
end
section
variable {X : Cx} {c : Pc} {fa fb : WE}
theorem reps_bl {G : Gh} (bs : List Bool) : ∀ {vs : List V}, Reps G (bs.map D.bl) vs → vs = bs.map V.bl := by
  induction bs with
  | nil => intro vs h; rw [List.map_nil] at h; unfold Reps at h; rw [h]; rfl
  | cons b bs ih =>
    intro vs h
    rw [List.map_cons] at h
    obtain ⟨v, us, rfl, r, t⟩ := Reps.uncons h
    rw [ih t, List.map_cons]
    unfold Rep at r
    rw [r]
theorem flat_bl (bs : List Bool) : (bs.map V.bl).all flatV = true := by
  rw [List.all_eq_true]; intro x hx; obtain ⟨b, _, rfl⟩ := List.mem_map.mp hx; rfl
theorem countP_bl (bs : List Bool) (b : Bool) : (bs.map V.bl).countP (fun z => eqV z (.bl b)) = bs.count b := by
  rw [List.countP_map]; rfl
/-- a method of a list, of one thing -/
def wLm (o : OpW) (f g : WE) : WE := fun ρ P E => f ρ (fun r1 => (∃ ds, r1.toD = .lst ds) ∧ g ρ (fun r2 => o r1.toD r2.toD P) E) E
def lcountW : OpW := fun d y P => ∃ (bs : List Bool) (b : Bool), d = .lst (bs.map .bl) ∧ y = .bl b ∧ P (.val (.int (bs.count b : Nat)))
def lindexW : OpW := fun d y P => ∃ (bs : List Bool) (b : Bool), d = .lst (bs.map .bl) ∧ y = .bl b ∧ b ∈ bs ∧ P (.val (.int (bs.idxOf b : Nat)))
def wLcount : WE → WE → WE := wLm lcountW
def wLindex : WE → WE → WE := wLm lindexW
theorem ok_lcount : OpOk c (fun x y H Q => rCountF X.K x [y] H Q) lcountW := fun G H dx dy x y P Q co rx ry ⟨bs, b, e1, e2, p⟩ k => by
  subst e1 e2
  obtain ⟨a, us, rfl, h1, r1, _⟩ := rx.sqL co
  have e := reps_bl bs r1
  subst e
  have ey : y = .bl b := by unfold Rep at ry; exact ry
  subst ey
  refine ⟨a, _, _, rfl, rfl, .inl (.inl h1), rfl, flat_bl bs, ?_⟩
  rw [countP_bl]
  exact k _ p _ _ _ (Step.refl co) rr_int
theorem ok_lindex : OpOk c (fun x y H Q => rIndex X.K x [y] H Q) lindexW := fun G H dx dy x y P Q co rx ry ⟨bs, b, e1, e2, hb, p⟩ k => by
  subst e1 e2
  obtain ⟨a, us, rfl, h1, r1, _⟩ := rx.sqL co
  have e := reps_bl bs r1
  subst e
  have ey : y = .bl b := by unfold Rep at ry; exact ry
  subst ey
  have hl : bs.idxOf b < bs.length := List.idxOf_lt_length_iff.mpr hb
  refine ⟨a, bs.map V.bl, .bl b, bs.idxOf b, .bl b, rfl, rfl, .inl (.inl h1), rfl, flat_bl bs, ?_, ?_, fun m z hm hz => ?_, k _ p _ _ _ (Step.refl co) rr_int⟩
  · rw [List.getElem?_map, List.getElem?_eq_getElem hl, List.getElem_idxOf]; rfl
  · show (b == b) = true; exact beq_self_eq_true b
  · rw [List.getElem?_map, List.getElem?_eq_getElem (by omega)] at hz
    have hz := Option.some.inj hz
    subst hz
    show (bs[m] == b) = false
    have := List.not_of_lt_findIdx (p := (· == b)) (xs := bs) (i := m) hm
    simpa using this
theorem tBM_of {r : V → List V → Hp → VK → Prop} {o : OpW} (hg : OpOk c (fun x y H Q => r x [y] H Q) o) {σ : L2.St} {H : Hp} {Q : VK} (h : tWE c (wLm o fa fb) σ H Q) : tBM X.K "list" r (tWD c fa) (tCons (tWD c fb) tNil) σ H Q := by
  obtain ⟨G, ρ, P, E, co, sr, h, hp, hx⟩ := h
  refine opnd co sr hx h fun r1 ⟨⟨ds, ed⟩, p1⟩ x G1 H1 st1 rx co1 sr1 hx1 => ⟨?_, opnd co1 sr1 hx1 p1 fun r2 p2 y G2 H2 st2 ry co2 sr2 hx2 => ?_⟩
  · have rx2 := rx
    rw [ed] at rx2
    obtain ⟨a, us, rfl, h1, _⟩ := rx2.sqL co1
    exact .inl ⟨rfl, us, .inl (.inl h1)⟩
  · exact hg G2 H2 _ _ x y P Q co2 (Rep.mono st2.le _ _ rx) ry p2 fun r pr v G' H' st rr => hp r pr v G' H' ((st1.trans st2).trans st) (by
      cases r with
      | val d => exact rr
      | own ds => obtain ⟨p, vs, e, f, n, q⟩ := rr; exact ⟨p, vs, e, (st1.trans st2).dom c.jo f, n, q⟩
      | ownd t ds => cases t <;> (obtain ⟨p, vs, e, f, n, q⟩ := rr; exact ⟨p, vs, e, (st1.trans st2).dom c.jo f, n, q⟩))
variable {a b : Expr} {apos cpos : Pos}
theorem pd_lcount (ha : PE X a (tWE c fa)) (hb : PE X b (tWE c fb))
    (hbase : attributeBase a "count" X.env (eval a X.env) = eval a X.env := by rfl)
    (hfew : ((backTo cpos (starEach [b] X.env)).all (fun x => !x.1) && (backToKw cpos (keywordEach [] X.env)).all (fun x => x.1.isSome)
      && decide ([b].length + ([] : List Keyword).length + (if ([] : List Keyword).isEmpty then 0 else 1) < 30)) = true := by rfl)
    (hline : (apos.endLine == cpos.line) = true := by rfl) (hs : starEach [b] X.env = (false, eval b X.env) :: starEach [] X.env := by rfl) :
    PE X (.Call (.Attribute a "count" apos) [b] [] cpos) (tWE c (wLcount fa fb)) :=
  PE.imp (pe_bm PySem.F.plainAttrs_list PySem.F.slot_list_count PySem.F.type_list_count mt_countF (pdD ha) (pa_cons (pdD hb) pa_nil hs) hbase hfew hline hs) fun _ _ _ h => tBM_of ok_lcount h
theorem pd_lindex (ha : PE X a (tWE c fa)) (hb : PE X b (tWE c fb))
    (hbase : attributeBase a "index" X.env (eval a X.env) = eval a X.env := by rfl)
    (hfew : ((backTo cpos (starEach [b] X.env)).all (fun x => !x.1) && (backToKw cpos (keywordEach [] X.env)).all (fun x => x.1.isSome)
      && decide ([b].length + ([] : List Keyword).length + (if ([] : List Keyword).isEmpty then 0 else 1) < 30)) = true := by rfl)
    (hline : (apos.endLine == cpos.line) = true := by rfl) (hs : starEach [b] X.env = (false, eval b X.env) :: starEach [] X.env := by rfl) :
    PE X (.Call (.Attribute a "index" apos) [b] [] cpos) (tWE c (wLindex fa fb)) :=
  PE.imp (pe_bm PySem.F.plainAttrs_list PySem.F.slot_list_index PySem.F.type_list_index mt_index (pdD ha) (pa_cons (pdD hb) pa_nil hs) hbase hfew hline hs) fun _ _ _ h => tBM_of ok_lindex h
end
end PL
end
section

end
section
set_option Elab.async false
set_option linter.all false
set_option maxRecDepth 100000
set_option autoImplicit false
/-! stepping: one lemma per construct, to be applied backwards -/
namespace PL
open PySem PySem.Spec L2 PL.C
open PyProof.Rows hiding St
/-- arguments, told by what is wanted of all of them -/
def wA : List WE → Rho → (List D → Prop) → XP → Prop
  | [], _, K, _ => K []
  | f :: fs, ρ, K, E => f ρ (fun r => wA fs ρ (fun ds => K (r.toD :: ds)) E) E
theorem wA_args {ρ : Rho} {E : XP} : ∀ {fs : List WE} {acc : List D} {P : List D → Prop}, wA fs ρ (fun ds => P (acc ++ ds)) E = wArgs fs ρ acc P E
  | [], acc, P => by show P (acc ++ []) = P acc; rw [List.append_nil]
  | f :: fs, acc, P => by
    show f ρ (fun r => wA fs ρ (fun ds => P (acc ++ (r.toD :: ds))) E) E = f ρ (fun r => wArgs fs ρ (acc ++ [r.toD]) P E) E
    congr 1
    funext r
    rw [← wA_args (fs := fs) (acc := acc ++ [r.toD]) (P := P)]
    congr 1
    funext ds
    rw [List.append_assoc]; rfl
theorem wA_0 {ρ : Rho} {E : XP} {fs : List WE} {P : List D → Prop} (h : wA fs ρ P E) : wArgs fs ρ [] P E := by
  rw [← wA_args]; exact h
section
variable {ρ : Rho} {P : R → Prop} {E : XP} {k : WEnds} {f g h : WE} {t t' : WT} {u v : WS} {i j l : Nat} {d : D} {r : R}
/-- a branch, never looked into -/
def iteB (b : Bool) (A B : Prop) : Prop := if b = true then A else B
theorem i_item {gg : WG} {x : D} {K : Option D → Prop} (a : gg x ρ (fun ρ2 => t ρ2 (fun b => iteB b (f ρ2 (fun r => K (some r.toD)) noX) (K none)) noX)) : item gg t f ρ x K := a
theorem i_wA0 {K : List D → Prop} (a : K []) : wA [] ρ K E := a
theorem i_wA {fs : List WE} {K : List D → Prop} (a : f ρ (fun r => wA fs ρ (fun ds => K (r.toD :: ds)) E) E) : wA (f :: fs) ρ K E := a
theorem i_args {fs : List WE} {K : List D → Prop} (a : wA fs ρ K E) : wArgs fs ρ [] K E := wA_0 a
theorem i_call {m : MW} {fs : List WE} (a : wA fs ρ (fun ds => m ds P E) E) : wCall m fs ρ P E := wA_0 a
theorem i_callB {m : CallW} {fs : List WE} (a : wA fs ρ (fun ds => m ds P) E) : wCallB m fs ρ P E := wA_0 a
theorem i_tup {fs : List WE} (a : wA fs ρ (fun ds => P (.val (.tup ds))) E) : wTup fs ρ P E := wA_0 a
theorem i_lst {fs : List WE} (a : wA fs ρ (fun ds => P (.own ds)) E) : wLst fs ρ P E := wA_0 a
theorem i_family {F : D → D → Prop} {fs : List WE} (a : wA fs ρ (fun ds => ∃ p l, ds = [p, l] ∧ F p l ∧ P (.val (dFam p l))) E) : wFamily F fs ρ P E := wA_0 a
theorem i_fam2 {F : D → D → Prop} {Q : D → D → Prop} {p q : D} (a : F p q) (b : Q p q) : ∃ x l, [p, q] = [x, l] ∧ F x l ∧ Q x l := ⟨_, _, rfl, a, b⟩
theorem i_then (a : u { k with nx := fun ρ' => v k E ρ' } E ρ) : wThen u v k E ρ := a
theorem i_skip (a : k.nx ρ) : wSkip k E ρ := a
theorem i_brk (a : k.bk ρ) : wBrk k E ρ := a
theorem i_cnt (a : k.ct ρ) : wCnt k E ρ := a
theorem i_expr (a : f ρ (fun _ => k.nx ρ) E) : wExpr f k E ρ := a
theorem i_ret (a : f ρ k.rt E) : wRet f k E ρ := a
theorem i_retN (a : k.rt (.val .non)) : wRetN k E ρ := a
theorem i_retV (e : ρ[i]? = some (some r)) (a : k.rt r) : wRetV i k E ρ := ⟨r, e, a⟩
theorem i_set (a : f ρ (fun r => k.nx (ρ.set i (some (.val r.toD)))) E) : wSet i f k E ρ := a
theorem i_setO (a : f ρ (fun r => k.nx (ρ.set i (some r))) E) : wSetO i f k E ρ := a
theorem i_frz (e : ρ[i]? = some (some r)) (a : u k E (ρ.set i (some (.val r.toD)))) : wFrz i u k E ρ := ⟨r, e, a⟩
theorem i_ifS (a : t ρ (fun b => iteB b (u k E ρ) (v k E ρ)) E) : wIfS t u v k E ρ := a
theorem i_asg {gg : WG} (a : f ρ (fun r => gg r.toD ρ k.nx) E) : wAsg f gg k E ρ := a
theorem i_par (a : f ρ (fun r1 => g ρ (fun r2 => k.nx ((ρ.set i (some r1)).set j (some r2))) E) E) : wPar i j f g k E ρ := a
theorem i_par3 {fs : List WE} (a : wA fs ρ (fun ds => ∃ a b d, ds = [a, b, d] ∧ k.nx (((ρ.set i (some (.val a))).set j (some (.val b))).set l (some (.val d)))) E) : wPar3 i j l fs k E ρ := wA_0 a
theorem i_par3' {a b c : D} {Q : D → D → D → Prop} (h : Q a b c) : ∃ x y z, [a, b, c] = [x, y, z] ∧ Q x y z := ⟨_, _, _, rfl, h⟩
theorem i_app {ds : List D} (e : ρ[i]? = some (some (.own ds))) (a : f ρ (fun r => ds.length < sizeLine ∧ k.nx (ρ.set i (some (.own (ds ++ [r.toD]))))) E) : wApp i f k E ρ := ⟨ds, e, a⟩
theorem i_ext {ds : List D} (e : ρ[i]? = some (some (.own ds))) (a : f ρ (fun r => ∃ es, r.toD = .lst es ∧ ds.length + es.length ≤ sizeLine ∧ k.nx (ρ.set i (some (.own (ds ++ es))))) E) : wExt i f k E ρ := ⟨ds, e, a⟩
theorem i_raise0 {x : Str} (a : E ⟨x, []⟩) : wRaise0 x k E ρ := a
theorem i_raise1 {x n : Str} (a : f ρ (fun r => ((∃ i, r.toD = .int i) ∨ ∃ s, r.toD = .str s) ∧ E ⟨x, [(n, r.toD)]⟩) E) : wRaise1 x n f k E ρ := a
theorem i_var (e : ρ[i]? = some (some (.val d))) (a : P (.val d)) : wVar i ρ P E := ⟨d, e, a⟩
theorem i_c (a : P (.val d)) : wC d ρ P E := a
theorem i_bin {o : OpW} (a : f ρ (fun r1 => g ρ (fun r2 => o r1.toD r2.toD P) E) E) : wBin o f g ρ P E := a
theorem i_neg (a : f ρ (fun r => ∃ i, r.toD = .int i ∧ P (.val (.int (-i)))) E) : wNeg f ρ P E := a
theorem i_and (a : f ρ (fun r => ∃ b, r.toD = .bl b ∧ iteB b (g ρ P E) (P (.val (.bl false)))) E) : wAnd f g ρ P E := a
theorem i_or (a : f ρ (fun r => ∃ b, r.toD = .bl b ∧ iteB b (P (.val (.bl true))) (g ρ P E)) E) : wOr f g ρ P E := a
theorem i_not (a : f ρ (fun r => ∃ i, r.toD = .bl i ∧ P (.val (.bl (!i)))) E) : wNot f ρ P E := a
theorem i_tst {Q : Bool → Prop} (a : f ρ (fun r => ∃ b, r.toD = .bl b ∧ Q b) E) : wTst f ρ Q E := a
theorem i_notT {Q : Bool → Prop} (a : t ρ (fun b => Q (!b)) E) : wNotT t ρ Q E := a
theorem i_andT {Q : Bool → Prop} (a : t ρ (fun b => iteB b (t' ρ Q E) (Q false)) E) : wAndT t t' ρ Q E := a
theorem i_orT {Q : Bool → Prop} (a : t ρ (fun b => iteB b (Q true) (t' ρ Q E)) E) : wOrT t t' ρ Q E := a
theorem i_yes {Q : Bool → Prop} (a : Q true) : wYes ρ Q E := a
theorem i_if (a : t ρ (fun b => iteB b (f ρ P E) (g ρ P E)) E) : wIf t f g ρ P E := a
theorem i_gName {Q : Rho → Prop} (a : Q (ρ.set i (some (.val d)))) : wgName i d ρ Q := a
theorem i_gTup {is : List Nat} {ds : List D} {Q : Rho → Prop} (e : ds.length = is.length) (a : Q (setAll is ds ρ)) : wgTup is (.tup ds) ρ Q := ⟨ds, rfl, e, a⟩
theorem i_val (a : f ρ (fun r => P (.val r.toD)) E) : wVal f ρ P E := a
theorem i_isi {T : String} (a : f ρ (fun r => ∃ b, isiD T r.toD = some b ∧ P (.val (.bl b))) E) : wIsi T f ρ P E := a
theorem i_chain {o o' : OpW} (a : f ρ (fun r1 => g ρ (fun r2 => o r1.toD r2.toD (fun r => ∃ k, r = .val (.bl k) ∧ iteB k (h ρ (fun r3 => o' r2.toD r3.toD P) E) (P (.val (.bl false))))) E) E) : wChain o o' f g h ρ P E := a
theorem i_slice {lo hi : Option WE} (a : f ρ (fun r => wPart lo ρ (fun l => wPart hi ρ (fun h => sliceW r.toD l h P) E) E) E) : wSlice f lo hi ρ P E := a
theorem i_part0 {Q : Option Int → Prop} (a : Q none) : wPart none ρ Q E := a
theorem i_part {Q : Option Int → Prop} (a : f ρ (fun r => ∃ i, r.toD = .int i ∧ Q (some i)) E) : wPart (some f) ρ Q E := a
theorem i_points (a : f ρ (fun r => ∃ p l, r.toD = dFam p l ∧ P (.val p)) E) : w_points f ρ P E := a
theorem i_lots (a : f ρ (fun r => ∃ p l, r.toD = dFam p l ∧ P (.val l)) E) : w_lots f ρ P E := a
theorem i_fam {Q : D → D → Prop} {p l : D} (a : Q p l) : ∃ x y, dFam p l = dFam x y ∧ Q x y := ⟨_, _, rfl, a⟩

theorem i_meth0 {m : MW} (a : f ρ (fun r => ∃ p l, r.toD = dFam p l ∧ m [dFam p l] P E) E) : wMeth0 m f ρ P E := a

theorem i_newD {b : Bool} (a : P (.ownd b [])) : wNewD b ρ P E := a
def revK (d : D) (P : R → Prop) : Prop := ∃ xs, (d = .lst xs ∧ P (.own xs.reverse)) ∨ (d = .tup xs ∧ P (.val (.tup xs.reverse)))
theorem i_rev (a : f ρ (fun r => revK r.toD P) E) : wRev f ρ P E := a
theorem i_revL {xs : List D} (a : P (.own xs.reverse)) : revK (D.lst xs) P := ⟨_, .inl ⟨rfl, a⟩⟩
theorem i_revT {xs : List D} (a : P (.val (.tup xs.reverse))) : revK (D.tup xs) P := ⟨_, .inr ⟨rfl, a⟩⟩
theorem i_revLot {q : List Int} (a : P (.val (dLot q.reverse))) : revK (dLot q) P := ⟨_, .inr ⟨rfl, by rw [← List.map_reverse]; exact a⟩⟩
theorem i_disp1 (a : f ρ (fun rk => g ρ (fun rv => ∃ k, D.key? rk.toD = some k ∧ P (.ownd false [(rk.toD, rv.toD)])) E) E) : wDisp1 f g ρ P E := a
theorem i_bor (e : ρ[i]? = some (some r)) (o : r.isOwn = true) (a : f (ρ.set i (some (.val r.toD))) (fun r => r.solid = true ∧ P r) (fun x => x.fs = [] ∧ E x)) : wBor i f ρ P E := ⟨r, e, o, a⟩
theorem i_borT {Q : Bool → Prop} (e : ρ[i]? = some (some r)) (o : r.isOwn = true) (a : t (ρ.set i (some (.val r.toD))) Q (fun x => x.fs = [] ∧ E x)) : wBorT i t ρ Q E := ⟨r, e, o, a⟩
def seqK (d : D) (Q : List D → Prop) : Prop := match d with | .lst xs => Q xs | .tup xs => Q xs | _ => False
theorem i_seq {Q : List D → Prop} (a : f ρ (fun r => seqK r.toD Q) E) : wSeq f ρ Q E := a
theorem i_zip {Q : List D → Prop} (a : wA [f, g] ρ (fun ds => zipP ds Q) E) : wZip f g ρ Q E := wA_0 a
theorem i_rng1 {Q : List D → Prop} (a : f ρ (fun r => ∃ j : Int, [r.toD] = [.int j] ∧ -16777216 ≤ j ∧ j ≤ 16777216 ∧ Q (rangeD 0 j.toNat)) E) : wRange1 f ρ Q E := a
theorem i_rng2 {Q : List D → Prop} (a : f ρ (fun r => g ρ (fun r' => ∃ i j : Int, [r.toD, r'.toD] = [.int i, .int j] ∧ -16777216 ≤ i ∧ i ≤ 16777216 ∧ -16777216 ≤ j ∧ j ≤ 16777216 ∧ j - i ≤ 16777216 ∧ Q (rangeD i (j - i).toNat)) E) E) : wRange2 f g ρ Q E := a
theorem i_rngI {j : Int} {Q : Int → Prop} (a : -16777216 ≤ j) (b : j ≤ 16777216) (c : Q j) : ∃ i : Int, [D.int j] = [.int i] ∧ -16777216 ≤ i ∧ i ≤ 16777216 ∧ Q i := ⟨j, rfl, a, b, c⟩
theorem i_rngI2 {i j : Int} {Q : Int → Int → Prop} (a : -16777216 ≤ i) (b : i ≤ 16777216) (c : -16777216 ≤ j) (d : j ≤ 16777216) (e : j - i ≤ 16777216) (q : Q i j) : ∃ x y : Int, [D.int i, D.int j] = [.int x, .int y] ∧ -16777216 ≤ x ∧ x ≤ 16777216 ∧ -16777216 ≤ y ∧ y ≤ 16777216 ∧ y - x ≤ 16777216 ∧ Q x y := ⟨i, j, rfl, a, b, c, d, e, q⟩
theorem i_for {fi : WI} {gg : WG} (a : fi ρ (fun ds => wForGo gg u k E ds ρ) E) : wFor fi gg u k E ρ := a
theorem i_lc {vs : List Nat} {fi : WI} {gg : WG} (a : fi ρ (fun ds => wLcGo gg t f (wipeR ρ vs) ds [] P) E) : wLc vs fi gg t f ρ P E := a
theorem i_sortSet (a : f ρ (fun r => SetD r.toD fun ds => P (.own (ds.mergeSort (PySem.W.dataLe false toP)))) E) : wSortSet f ρ P E := a
theorem i_lenSet (a : f ρ (fun r => SetD r.toD fun ds => P (.val (.int ds.length))) E) : wLenSet f ρ P E := a
theorem g_var (a : wVar i ρ P E) : wVar i ρ P E := a
theorem g_retV (a : wRetV i k E ρ) : wRetV i k E ρ := a
theorem g_frz (a : wFrz i u k E ρ) : wFrz i u k E ρ := a
theorem g_app (a : wApp i f k E ρ) : wApp i f k E ρ := a
theorem g_ext (a : wExt i f k E ρ) : wExt i f k E ρ := a
theorem g_bor (a : wBor i f ρ P E) : wBor i f ρ P E := a
theorem g_borT {Q : Bool → Prop} (a : wBorT i t ρ Q E) : wBorT i t ρ Q E := a
theorem g_for {fi : WI} {gg : WG} (a : wFor fi gg u k E ρ) : wFor fi gg u k E ρ := a
theorem g_while (a : wWhile t u k E ρ) : wWhile t u k E ρ := a
theorem g_ix {a b : D} (h : ixW a b P) : ixW a b P := h
theorem g_ex {α : Type} {p : α → Prop} (h : ∃ x, p x) : ∃ x, p x := h
/-! values -/
theorem i_bl {b : Bool} {Q : Bool → Prop} (a : Q b) : ∃ b', D.bl b = .bl b' ∧ Q b' := ⟨b, rfl, a⟩
theorem i_int {n : Int} {Q : Int → Prop} (a : Q n) : ∃ n', D.int n = .int n' ∧ Q n' := ⟨n, rfl, a⟩
theorem i_vbl {b : Bool} {Q : Bool → Prop} (a : Q b) : ∃ b', R.val (.bl b) = .val (.bl b') ∧ Q b' := ⟨b, rfl, a⟩
theorem i_somb {b : Bool} {Q : Bool → Prop} {o : Option Bool} (e : o = some b) (a : Q b) : ∃ b', o = some b' ∧ Q b' := ⟨b, e, a⟩
variable {xs ys : List D} {α : Type} {a b : Int}
theorem j_add (q : P (.val (.int (a + b)))) : addW (.int a) (.int b) P := q
theorem j_addL (q : xs.length + ys.length ≤ sizeLine) (w : P (.own (xs ++ ys))) : addW (.lst xs) (.lst ys) P := ⟨q, w⟩
theorem j_addT (q : xs.length + ys.length ≤ sizeLine) (w : P (.val (.tup (xs ++ ys)))) : addW (.tup xs) (.tup ys) P := ⟨q, w⟩
theorem j_sub (q : P (.val (.int (a - b)))) : intOp0 (fun i j => i - j) (.int a) (.int b) P := ⟨a, b, rfl, rfl, q⟩
theorem j_num {gg : Int → Int → Bool} {o : OpW} (q : P (.val (.bl (gg a b)))) : numOp gg o (.int a) (.int b) P := q
theorem j_lenLm {f : α → D} {L : List α} (q : P (.val (.int L.length))) : lenW [.lst (L.map f)] P := by rw [v_lenL, List.length_map]; exact q
theorem j_lenTm {f : α → D} {L : List α} (q : P (.val (.int L.length))) : lenW [.tup (L.map f)] P := by rw [v_lenT, List.length_map]; exact q
theorem j_lenLot {L : List Int} (q : P (.val (.int L.length))) : lenW [dLot L] P := j_lenTm q
theorem j_lenLots {L : List (List Int)} (q : P (.val (.int L.length))) : lenW [dLots L] P := j_lenTm q
theorem j_lenL (q : P (.val (.int xs.length))) : lenW [.lst xs] P := q
theorem j_lenT (q : P (.val (.int xs.length))) : lenW [.tup xs] P := q
theorem j_lenD {t : Bool} {kvs : List (D × D)} (q : P (.val (.int kvs.length))) : lenW [.dct t kvs] P := q
theorem j_listL (q : P (.own xs)) : listB [.lst xs] P := .inl q
theorem j_listT (q : P (.own xs)) : listB [.tup xs] P := .inl q
theorem j_listLot {L : List Int} (q : P (.own (L.map .int))) : listB [dLot L] P := .inl q
theorem j_listLots {L : List (List Int)} (q : P (.own (L.map dLot))) : listB [dLots L] P := .inl q
theorem j_listD {t : Bool} {kvs : List (D × D)} (q : P (.own (kvs.map (·.1)))) : listB [.dct t kvs] P := .inr ⟨t, kvs, rfl, q⟩
theorem j_tupleLot {L : List Int} (q : P (.val (dLot L))) : tupleW [.lst (L.map .int)] P := q
theorem j_tupleLots {L : List (List Int)} (q : P (.val (dLots L))) : tupleW [.lst (L.map dLot)] P := q
theorem j_tupleL (q : P (.val (.tup xs))) : tupleW [.lst xs] P := q
theorem j_tupleT (q : P (.val (.tup xs))) : tupleW [.tup xs] P := q
theorem j_intI (q : P (.val (.int a))) : intW [.int a] P := q
theorem j_seqLst {Q : List D → Prop} (q : Q xs) : seqK (D.lst xs) Q := q
theorem j_seqTup {Q : List D → Prop} (q : Q xs) : seqK (D.tup xs) Q := q
theorem j_seqLot {L : List Int} {Q : List D → Prop} (q : Q (L.map .int)) : seqK (dLot L) Q := q
theorem j_seqLots {L : List (List Int)} {Q : List D → Prop} (q : Q (L.map dLot)) : seqK (dLots L) Q := q
theorem j_sliceT {lo hi : Option Int} (q : P (.val (.tup (cutD xs lo hi)))) : sliceW (.tup xs) lo hi P := q
theorem j_sliceL {lo hi : Option Int} (q : P (.own (cutD xs lo hi))) : sliceW (.lst xs) lo hi P := q
theorem cutD_map {β : Type} {f : α → β} {L : List α} {lo hi : Option Int} : cutD (L.map f) lo hi = (cutD L lo hi).map f := by
  unfold cutD; rw [List.length_map, List.map_take, List.map_drop]
theorem j_sliceLm {f : α → D} {L : List α} {lo hi : Option Int} (q : P (.own ((cutD L lo hi).map f))) : sliceW (.lst (L.map f)) lo hi P := by
  rw [v_sliceL, cutD_map]; exact q
theorem j_sliceLot {L : List Int} {lo hi : Option Int} (q : P (.val (dLot (cutD L lo hi)))) : sliceW (dLot L) lo hi P := by
  unfold dLot; rw [v_sliceT, cutD_map]; exact q
theorem j_sliceLots {L : List (List Int)} {lo hi : Option Int} (q : P (.val (dLots (cutD L lo hi)))) : sliceW (dLots L) lo hi P := by
  unfold dLots; rw [v_sliceT, cutD_map]; exact q
theorem j_inInts {L : List Int} (q : P (.val (.bl (decide (a ∈ L))))) : wInB false (.int a) (dLot L) P := v_inInts q
theorem j_notInInts {L : List Int} (q : P (.val (.bl (decide (a ∉ L))))) : wInB true (.int a) (dLot L) P :=
  .inl ⟨pl_int _, all_pl pl_int _, by rw [dp_int]; decide, by rw [any_eqv eqv_int]; simpa using q⟩
theorem j_inIntsL {L : List Int} (q : P (.val (.bl (decide (a ∈ L))))) : wInB false (.int a) (.lst (L.map .int)) P :=
  .inl ⟨pl_int _, all_pl pl_int _, by rw [dp_int]; decide, by rw [any_eqv eqv_int]; simpa using q⟩
theorem j_notInIntsL {L : List Int} (q : P (.val (.bl (decide (a ∉ L))))) : wInB true (.int a) (.lst (L.map .int)) P :=
  .inl ⟨pl_int _, all_pl pl_int _, by rw [dp_int]; decide, by rw [any_eqv eqv_int]; simpa using q⟩
theorem j_ixT {i : Int} {d : D} (e : L2.atI xs i = some d) (q : P (.val d)) : ixW (.tup xs) (.int i) P := ⟨d, e, q⟩
theorem j_ixL {i : Int} {d : D} (e : L2.atI xs i = some d) (q : P (.val d)) : ixW (.lst xs) (.int i) P := ⟨d, e, q⟩
theorem j_mulLst {i : Int} (h1 : -(2 ^ 63) ≤ i) (h2 : i < 2 ^ 63) (h3 : xs.length * i.toNat ≤ sizeLine) (q : P (.own (List.replicate i.toNat xs).flatten)) : mulW (.lst xs) (.int i) P := ⟨h1, h2, h3, q⟩

theorem j_disp {k : D} {Q : Prop} {key : Key} (e : D.key? k = some key) (q : Q) : ∃ kk, D.key? k = some kk ∧ Q := ⟨key, e, q⟩
theorem j_ix0 {β : Type} {f : β → D} {x : β} {r : List β} (q : P (.val (f x))) : ixW (.lst ((x :: r).map f)) (.int 0) P := v_ix (i := 0) rfl q
theorem j_ix0T {β : Type} {f : β → D} {x : β} {r : List β} (q : P (.val (f x))) : ixW (.tup ((x :: r).map f)) (.int 0) P := v_ixT (i := 0) rfl q
theorem j_isT : isiD "tuple" (.tup xs) = some true := kit_tt
theorem j_isTL : isiD "tuple" (.lst xs) = some false := kit_lt
theorem j_isII : isiD "int" (.int a) = some true := kit_ii
theorem j_isBI : isiD "bool" (.int a) = some false := kit_ib
theorem j_isTLot {L : List Int} : isiD "tuple" (dLot L) = some true := kit_tt
theorem j_isTLots {L : List (List Int)} : isiD "tuple" (dLots L) = some true := kit_tt
end
/-! tests of comprehensions, branches -/
theorem bT {b : Bool} {A B : Prop} (h : b = true) (a : A) : iteB b A B := by subst h; exact a
theorem bF {b : Bool} {A B : Prop} (h : b = false) (a : B) : iteB b A B := by subst h; exact a
theorem bB {b : Bool} {A B : Prop} (a : b = true → A) (c : b = false → B) : iteB b A B := by
  cases b with
  | true => exact a rfl
  | false => exact c rfl
theorem bD {p : Prop} [Decidable p] {A B : Prop} (a : p → A) (c : ¬ p → B) : iteB (decide p) A B := bB (fun h => a (of_decide_eq_true h)) fun h => c (of_decide_eq_false h)
theorem bDT {p : Prop} [Decidable p] {A B : Prop} (h : p) (a : A) : iteB (decide p) A B := bT (decide_eq_true h) a
theorem bDF {p : Prop} [Decidable p] {A B : Prop} (h : ¬ p) (a : B) : iteB (decide p) A B := bF (decide_eq_false h) a
/-- two branches with one outcome -/
theorem b_all {b : Bool} {f g : WE} {ρ : Rho} {P : R → Prop} {E : XP} (S : R → Prop) (a : ∀ P' : R → Prop, (∀ r, S r → P' r) → iteB b (f ρ P' E) (g ρ P' E)) (h : ∀ r, S r → P r) : iteB b (f ρ P E) (g ρ P E) := a P h
theorem b_allS {b : Bool} {u v : WS} {ρ : Rho} {k : WEnds} {E : XP} (S : Rho → Prop) (a : ∀ N : Rho → Prop, (∀ r, S r → N r) → iteB b (u { k with nx := N } E ρ) (v { k with nx := N } E ρ)) (h : ∀ r, S r → k.nx r) : iteB b (u k E ρ) (v k E ρ) := a k.nx h
/-- a worth with a known outcome -/
theorem w_all {f : WE} {ρ : Rho} {P : R → Prop} {E : XP} (S : R → Prop) (a : ∀ P' : R → Prop, (∀ r, S r → P' r) → f ρ P' E) (h : ∀ r, S r → P r) : f ρ P E := a P h
theorem b_keep {b c : Bool} {x : D} {K : Option D → Prop} {A : Prop} (hK : K (if c = true then some x else none)) (e : b = c) (a : K (some x) → A) : iteB b A (K none) := by
  subst e
  cases b with
  | true => exact a hK
  | false => exact hK
theorem b_keepN {b c : Bool} {x : D} {K : Option D → Prop} {A : Prop} (hK : K (if c = true then some x else none)) (e : b = !c) (a : K (some x) → A) : iteB b (K none) A := by
  subst e
  cases c with
  | true => exact a hK
  | false => exact hK
end PL
end
section
set_option Elab.async false
set_option linter.all false
set_option maxRecDepth 100000
set_option autoImplicit false
/-! loops that change some slots alone -/
namespace PL
open PySem PySem.Spec L2 PL.C
open PyProof.Rows hiding St
def setF : List Nat → (Nat → Option R) → Rho → Rho
  | [], _, ρ => ρ
  | i :: is, f, ρ => setF is f (ρ.set i (f i))
/-- two slot rows that differ in sl alone -/
def HV (sl : List Nat) (ρ ρ' : Rho) : Prop := ρ'.length = ρ.length ∧ ∀ j, j ∉ sl → ρ'[j]? = ρ[j]?
theorem HV.refl {sl : List Nat} {ρ : Rho} : HV sl ρ ρ := ⟨rfl, fun _ _ => rfl⟩
theorem HV.set {sl : List Nat} {ρ ρ' : Rho} {i : Nat} {v : Option R} (h : HV sl ρ ρ') (hi : i ∈ sl) : HV sl ρ (ρ'.set i v) :=
  ⟨by rw [List.length_set]; exact h.1, fun j hj => by rw [List.getElem?_set_ne (by rintro rfl; exact hj hi)]; exact h.2 j hj⟩
theorem HV.trans {sl sl' : List Nat} {ρ ρ1 ρ2 : Rho} (h : HV sl ρ ρ1) (h' : HV sl' ρ1 ρ2) (s : ∀ i ∈ sl', i ∈ sl) : HV sl ρ ρ2 :=
  ⟨h'.1.trans h.1, fun j hj => (h'.2 j fun z => hj (s j z)).trans (h.2 j hj)⟩
theorem setF_len {f : Nat → Option R} : ∀ {sl : List Nat} {ρ : Rho}, (setF sl f ρ).length = ρ.length
  | [], _ => rfl
  | i :: is, ρ => by unfold setF; rw [setF_len, List.length_set]
theorem setF_out {f : Nat → Option R} {j : Nat} : ∀ {sl : List Nat} {ρ : Rho}, j ∉ sl → (setF sl f ρ)[j]? = ρ[j]?
  | [], _, _ => rfl
  | i :: is, ρ, h => by
    unfold setF
    rw [setF_out fun z => h (List.mem_cons_of_mem _ z), List.getElem?_set_ne (by rintro rfl; exact h (List.mem_cons_self ..))]
theorem setF_in {f : Nat → Option R} {j : Nat} : ∀ {sl : List Nat} {ρ : Rho}, j ∈ sl → j < ρ.length → (setF sl f ρ)[j]? = some (f j)
  | i :: is, ρ, h, l => by
    unfold setF
    by_cases hj : j ∈ is
    · exact setF_in hj (by rw [List.length_set]; exact l)
    · have e : j = i := by rcases List.mem_cons.mp h with e | e; exact e; exact absurd e hj
      rw [setF_out hj, e, List.getElem?_set_self (by rw [← e]; exact l)]
theorem HV.setF {sl sl' : List Nat} {f : Nat → Option R} {ρ ρ' : Rho} (h : HV sl ρ ρ') (s : ∀ i ∈ sl', i ∈ sl) : HV sl ρ (setF sl' f ρ') :=
  ⟨setF_len.trans h.1, fun j hj => (setF_out fun z => hj (s j z)).trans (h.2 j hj)⟩
theorem HV.set' {sl : List Nat} {ρ ρ' : Rho} {i : Nat} {v : Option R} (hi : i ∈ sl) (h : HV sl ρ ρ') : HV sl ρ (ρ'.set i v) := h.set hi
theorem HV.setF' {sl sl' : List Nat} {f : Nat → Option R} {ρ ρ' : Rho} (s : ∀ i ∈ sl', i ∈ sl) (h : HV sl ρ ρ') : HV sl ρ (PL.setF sl' f ρ') := h.setF s
theorem HV.ex {sl : List Nat} {ρ ρ' : Rho} (h : HV sl ρ ρ') : ρ' = PL.setF sl (fun i => ρ'.getD i none) ρ := by
  refine List.ext_getElem? fun j => ?_
  by_cases hj : j ∈ sl
  · by_cases hl : j < ρ.length
    · rw [setF_in hj hl, List.getD_eq_getElem?_getD]
      have : j < ρ'.length := by rw [h.1]; exact hl
      rw [List.getElem?_eq_getElem this]; rfl
    · rw [List.getElem?_eq_none (by rw [h.1]; omega), List.getElem?_eq_none (by rw [setF_len]; omega)]
  · rw [setF_out hj]; exact h.2 j hj
section
variable {α : Type} {fi : WI} {g : WG} {u : WS} {k : WEnds} {E : XP} {ρ : Rho}
/-- a loop: what it changes in sl is not told -/
theorem for_havoc (enc : α → D) (l : List α) (sl : List Nat) (hi : ∀ Q, Q (l.map enc) → fi ρ Q E)
    (hs : ∀ y ∈ l, ∀ f, ∀ N : Rho → Prop, (∀ ρ', HV sl ρ ρ' → N ρ') → g (enc y) (setF sl f ρ) (fun ρ2 => u { k with nx := N, ct := N, bk := k.nx } E ρ2)) (he : ∀ f, k.nx (setF sl f ρ)) : wFor fi g u k E ρ := by
  refine for_enc enc l (fun _ ρ' => HV sl ρ ρ') hi HV.refl (fun y pre rest ρ1 el ef N hN => ?_) (fun ρ' e => by rw [e.ex]; exact he _)
  rw [ef.ex]
  exact hs y (by rw [el]; simp) _ N hN
/-- a loop whose turns keep what I says of the rest and of the slots -/
theorem for_inv (enc : α → D) (l : List α) (sl : List Nat) (I : List α → Rho → Prop) (h0 : I l ρ) (hi : ∀ Q, Q (l.map enc) → fi ρ Q E)
    (hs : ∀ y pre rest, l = pre ++ y :: rest → ∀ f, I (y :: rest) (setF sl f ρ) → ∀ N : Rho → Prop, (∀ ρ', HV sl ρ ρ' → I rest ρ' → N ρ') → g (enc y) (setF sl f ρ) (fun ρ2 => u { k with nx := N, ct := N, bk := k.nx } E ρ2)) (he : ∀ f, I [] (setF sl f ρ) → k.nx (setF sl f ρ)) : wFor fi g u k E ρ := by
  refine for_enc enc l (fun r ρ' => HV sl ρ ρ' ∧ I r ρ') hi ⟨HV.refl, h0⟩ (fun y pre rest ρ1 el ⟨ef, hI⟩ N hN => ?_) (fun ρ' ⟨e, hI⟩ => by rw [e.ex] at hI ⊢; exact he _ hI)
  rw [ef.ex] at hI ⊢
  exact hs y pre rest el _ hI N fun ρ' e hf => hN ρ' ⟨e, hf⟩
end
namespace C
variable {P : R → Prop} {E : XP}
theorem toP_lots (A : List (List Int)) : toP (dLots A) = .tuple (A.map fun q => toP (dLot q)) := by
  unfold dLots
  rw [toP, toPs_map, List.map_map]; rfl
theorem eqv_lots (A B : List (List Int)) : PyData.eqv (toP (dLots A)) (toP (dLots B)) = decide (A = B) := by
  rw [toP_lots, toP_lots, PyData.eqv]
  induction A generalizing B with
  | nil => cases B <;> simp [PyData.eqvAll]
  | cons a A ih =>
    cases B with
    | nil => simp [PyData.eqvAll]
    | cons b B =>
      rw [List.map_cons, List.map_cons, PyData.eqvAll, ih B, eqv_lot]
      by_cases h : a = b <;> by_cases h2 : A = B <;> simp [h, h2]
theorem pl_lots (A : List (List Int)) : pl (dLots A) = true := by
  unfold pl
  rw [toP_lots, PyData.plain]
  induction A with
  | nil => simp [PyData.plainAll]
  | cons a A ih =>
    have h1 := pl_lot a
    unfold pl at h1
    rw [List.map_cons, PyData.plainAll, h1, ih]; rfl
theorem dp_lots (A : List (List Int)) : dp (dLots A) ≤ 2 := by
  unfold dp
  rw [toP_lots, PyData.depth]
  have : PyData.depthAll (A.map fun q => toP (dLot q)) ≤ 1 := by
    induction A with
    | nil => simp [PyData.depthAll]
    | cons a A ih =>
      have h1 := dp_lot a
      unfold dp at h1
      rw [List.map_cons, PyData.depthAll, h1]
      exact Nat.max_le.mpr ⟨Nat.le_refl _, ih⟩
  omega
theorem v_neLots {A B : List (List Int)} (h : P (.val (.bl (decide (A ≠ B))))) : neW (dLots A) (dLots B) P := ⟨pl_lots A, pl_lots B, Nat.le_trans (Nat.min_le_left _ _) (Nat.le_trans (dp_lots A) (by decide)), by rw [eqv_lots]; simpa using h⟩
theorem v_neBl {a b : Bool} (h : P (.val (.bl (a != b)))) : neW (.bl a) (.bl b) P := ⟨rfl, rfl, by unfold dp; rw [toP, toP]; cases a <;> cases b <;> decide, by
  rw [toP, toP]
  cases a <;> cases b <;> exact h⟩
theorem goodG_lots {m : Nat} {A : List (List Int)} (hA : ∀ q ∈ A, LOk m q) (hm : m ≤ 9) (hl : A.length ≤ 512) : GoodG 2 100000 (dLots A) := by
  have g : GoodG 2 (512 * ((9 * 18 + 4) + 2) + 4) (dLots A) := by
    unfold dLots
    refine goodG_tup (m := 1) (w := 9 * 18 + 4) (fun x hx => ?_) (by rw [List.length_map]; exact hl)
    obtain ⟨q, hq, rfl⟩ := List.mem_map.mp hx
    have hq' := hA q hq
    refine goodG_lot (n := 9) (fun y hy => ?_) (Nat.le_trans (lok_len hq') hm)
    obtain ⟨a, b⟩ := hq'.1 y hy
    omega
  exact ⟨g.ok, g.dp, Nat.le_trans g.wt (by decide)⟩
theorem v_eqLots {A B : List (List Int)} (h : P (.val (.bl (decide (A = B))))) : eqW (dLots A) (dLots B) P := ⟨pl_lots A, pl_lots B, Nat.le_trans (Nat.min_le_left _ _) (Nat.le_trans (dp_lots A) (by decide)), by rw [eqv_lots]; exact h⟩
theorem v_eqBl {a b : Bool} (h : P (.val (.bl (a == b)))) : eqW (.bl a) (.bl b) P := ⟨rfl, rfl, by unfold dp; rw [toP, toP]; cases a <;> cases b <;> decide, by
  rw [toP, toP]
  cases a <;> cases b <;> exact h⟩
/-- equal data -/
theorem v_neRefl {d : D} (a : pl d = true) (b : dp d ≤ 60) (h : P (.val (.bl false))) : neW d d P := ⟨a, a, by rw [Nat.min_self]; exact b, by rw [PySem.SeqAt.eqv_refl_plain _ a]; exact h⟩
theorem v_eqRefl {d : D} (a : pl d = true) (b : dp d ≤ 60) (h : P (.val (.bl true))) : eqW d d P := ⟨a, a, by rw [Nat.min_self]; exact b, by rw [PySem.SeqAt.eqv_refl_plain _ a]; exact h⟩
/-- a comprehension of draws -/
theorem lcGo_draws {g : WG} {fe : WE} {ρ : Rho} (C : Int → Prop) : ∀ (ds : List D) (acc : List Int) (P : R → Prop), (∀ x ∈ ds, ∀ K : Option D → Prop, (∀ k, C k → K (some (.int k))) → item g wYes fe ρ x K) → (∀ i ∈ acc, C i) →
    (∀ ks : List Int, ks.length = acc.length + ds.length → (∀ k ∈ ks, C k) → P (.own (ks.map .int))) → wLcGo g wYes fe ρ ds (acc.map .int) P
  | [], acc, P, _, ha, h => h acc rfl ha
  | x :: ds, acc, P, hx, ha, h => by
    unfold wLcGo
    refine (show item g wYes fe ρ x (fun o => match o with | some d => wLcGo g wYes fe ρ ds (acc.map .int ++ [d]) P | none => wLcGo g wYes fe ρ ds (acc.map .int) P) from hx x (List.mem_cons_self ..) _ fun k ck => ?_)
    show wLcGo g wYes fe ρ ds (acc.map .int ++ [.int k]) P
    have e : acc.map D.int ++ [.int k] = (acc ++ [k]).map .int := by rw [List.map_append]; rfl
    rw [e]
    refine lcGo_draws C ds (acc ++ [k]) P (fun y hy => hx y (List.mem_cons_of_mem _ hy)) (fun i hi => ?_) fun ks lk ck => h ks (by rw [lk]; simp; omega) ck
    rcases List.mem_append.mp hi with hi | hi
    · exact ha i hi
    · rw [List.mem_singleton.mp hi]; exact ck
theorem lc_draws {vs : List Nat} {fi : WI} {g : WG} {fe : WE} {ρ : Rho} (C : Int → Prop) (ds : List D) (hi : ∀ Q, Q ds → fi ρ Q E) (hx : ∀ x ∈ ds, ∀ K : Option D → Prop, (∀ k, C k → K (some (.int k))) → item g wYes fe (wipeR ρ vs) x K)
    (hp : ∀ ks : List Int, ks.length = ds.length → (∀ k ∈ ks, C k) → P (.own (ks.map .int))) : wLc vs fi g wYes fe ρ P E :=
  hi _ (lcGo_draws C ds [] P hx (fun _ h => nomatch h) fun ks lk ck => hp ks (by simpa using lk) ck)
/-! the points below n -/
def ran (n : Nat) : List Int := (List.range n).map Int.ofNat
theorem mem_ran {n : Nat} {x : Int} : x ∈ ran n ↔ 0 ≤ x ∧ x < n := by
  unfold ran
  rw [List.mem_map]
  constructor
  · rintro ⟨k, hk, rfl⟩
    have := List.mem_range.mp hk
    exact ⟨Int.natCast_nonneg k, by show (k : Int) < n; omega⟩
  · rintro ⟨h0, h1⟩
    obtain ⟨k, rfl⟩ := Int.eq_ofNat_of_zero_le h0
    exact ⟨k, List.mem_range.mpr (by omega), rfl⟩
theorem ran_asc (n : Nat) : (ran n).Pairwise (· < ·) := by
  unfold ran
  rw [List.pairwise_map]
  exact (List.pairwise_lt_range (n := n)).imp fun h => by show (_ : Int) < _; exact Int.ofNat_lt.mpr h
theorem rangeD_ran (n : Nat) : rangeD 0 n = (ran n).map D.int := by
  unfold rangeD ran
  rw [List.map_map]
  exact List.map_congr_left fun k _ => by show D.int (0 + (k : Int)) = D.int (k : Int); rw [Int.zero_add]
theorem ran_len (n : Nat) : (ran n).length = n := by unfold ran; rw [List.length_map, List.length_range]
theorem lok_ran_filter (n : Nat) (p : Int → Bool) : LOk n ((ran n).filter p) := ⟨fun x hx => mem_ran.mp ((List.mem_filter.mp hx).1), (ran_asc n).filter _⟩
section
variable {fi : WI} {g : WG} {ft : WT} {fe : WE} {ρ : Rho} {vs : List Nat}
theorem lc_someR (n : Nat) (hi : ∀ Q, Q (rangeD 0 n) → fi ρ Q E) (hx : ∀ i : Int, 0 ≤ i → i < n → ∀ K : Option D → Prop, K none → K (some (.int i)) → item g ft fe (wipeR ρ vs) (.int i) K) (hp : ∀ q, LOk n q → P (.own (q.map .int))) : wLc vs fi g ft fe ρ P E := by
  refine lc_some D.int (ran n) (fun _ => True) (fun Q hQ => hi Q (by rw [rangeD_ran]; exact hQ)) (fun i hi K k0 k1 => hx i (mem_ran.mp hi).1 (mem_ran.mp hi).2 K k0 (k1 trivial)) fun S hS _ => hp S ?_
  exact ⟨fun x hx => mem_ran.mp (hS.subset hx), (ran_asc n).sublist hS⟩
theorem lc_filterR (n : Nat) (p : Int → Bool) (h : Int → D) (hi : ∀ Q, Q (rangeD 0 n) → fi ρ Q E) (hx : ∀ i : Int, 0 ≤ i → i < n → ∀ K : Option D → Prop, K (if p i = true then some (h i) else none) → item g ft fe (wipeR ρ vs) (.int i) K) (hp : P (.own (((ran n).filter p).map h))) : wLc vs fi g ft fe ρ P E :=
  lc_enc D.int (ran n) p h (fun Q hQ => hi Q (by rw [rangeD_ran]; exact hQ)) (fun i hi K hK => hx i (mem_ran.mp hi).1 (mem_ran.mp hi).2 K hK) hp
theorem lc_mapR (n : Nat) (h : Int → D) (hi : ∀ Q, Q (rangeD 0 n) → fi ρ Q E) (hx : ∀ i : Int, 0 ≤ i → i < n → ∀ K : Option D → Prop, K (some (h i)) → item g ft fe (wipeR ρ vs) (.int i) K) (hp : P (.own ((ran n).map h))) : wLc vs fi g ft fe ρ P E :=
  lc_encm D.int (ran n) h (fun Q hQ => hi Q (by rw [rangeD_ran]; exact hQ)) (fun i hi K hK => hx i (mem_ran.mp hi).1 (mem_ran.mp hi).2 K hK) hp
end
theorem i_lam {m : WA → (R → Prop) → Prop} {fb : WE} {ρ : Rho} (h : m (fun P' E' => fb ρ P' E') P) : wLam m fb ρ P E := h
theorem j_isBl {a b : Bool} (h : P (.val (.bl (a == b)))) : isBlW false (.bl a) (.bl b) P := ⟨a, b, rfl, rfl, by simpa using h⟩
theorem j_isNotBl {a b : Bool} (h : P (.val (.bl (a != b)))) : isBlW true (.bl a) (.bl b) P := ⟨a, b, rfl, rfl, by
  have : (a != b) = xor true (a == b) := by cases a <;> cases b <;> rfl
  rw [← this]; exact h⟩
/-- two texts shown, of equal data -/
theorem j_reprS {d : D} {m w : Nat} (g : GoodG m w d) (hm : m ≤ 60) (hw : w ≤ 1000000) (h : P (.val (.str (shownD d)))) : reprW [d] P := v_reprG g hm hw h
end C
abbrev encI (k : Nat) : D := .int (0 + (k : Int))
theorem rangeD_enc (n : Nat) : rangeD 0 n = (List.range n).map encI := rfl
end PL
end
section
set_option Elab.async false
set_option linter.all false
set_option maxRecDepth 100000
set_option maxHeartbeats 0
namespace K77
open PySem PySem.Spec L2 PL
open PyProof.Rows hiding St
abbrev vNames : List Str := ["there"]
def validF (x : Str) (ds : List D) (d : D) : Prop := ∃ n L, ds = [.int n, dLots L] ∧ x = "there" ∧ d = thereD L
theorem v_named {x : Str} {ds : List D} {d : D} (h : validF x ds d) : x ∈ vNames := by
  obtain ⟨n, L, _, rfl, _⟩ := h; simp [vNames]
abbrev knX : List Str := ["NoLot", "NoSwitches", "TooMany"]
abbrev ownX : List Str := ["NoLot", "NoSwitches", "TooMany"]
abbrev fldX : List Str := ["most"]
def isaT (y z : Str) : Bool := decide ((y, z) ∈ ([("NoLot", "NoLot"), ("NoSwitches", "NoSwitches"), ("TooMany", "TooMany")] : List (Str × Str)))
def b_hand1 : WE := (wCallB absW [(wCallB intW [(wVar 2)])])
def b_hand2 : WE := (wBor 1 (wBin addW (wC (.int 83)) (wBin mulW (wC (.int 5)) (wCallB lenW [(wVar 1)]))))
abbrev m_is_integer : MW := PL.C.m_is_integer
abbrev m_is_within : MW := PL.C.m_is_within
abbrev m_is_tuple : MW := PL.C.m_is_tuple
abbrev m_is_lot : MW := PL.C.m_is_lot
abbrev m_is_count : MW := PL.C.m_is_count
abbrev m_is_lot_of : MW := PL.C.m_is_lot_of
abbrev m_are_lots : MW := PL.C.m_are_lots
def b_init1 : WT := (wNotT (wTst (wCall PL.C.m_is_count [(wVar 1)])))
def b_init2 : WT := (wNotT (wTst (wCall PL.C.m_are_lots [(wVar 1), (wVar 2)])))
def b_Family_there : WS :=
  (wCacheRet validF "there" 0 (wCallB dictPW [(wLc [1, 2] (wSeq (w_lots (wVar 0))) (wgName 2) wYes (wTup [(wVar 2), (wC (.bl true))]))]))
def m_Family_there : MW := mOf 3 b_Family_there
def b_check_count : WS :=
  (wIfS (wNotT (wTst (wCall PL.C.m_is_count [(wVar 0)]))) wNever wSkip)
def m_check_count : MW := mOf 1 b_check_count
abbrev m_made : MW := PL.C.m_made
abbrev m_lot_of : MW := PL.C.m_lot_of
abbrev m_lots_of : MW := PL.C.m_lots_of
abbrev m_common_of : MW := PL.C.m_common_of
def b_check_lot : WS :=
  (wIfS (wNotT (wTst (wCall PL.C.m_is_lot_of [(w_points (wVar 0)), (wVar 1)]))) (wRaise0 "NoLot") wSkip)
def m_check_lot : MW := mOf 2 b_check_lot
def b_all_of : WS :=
  (wThen (wExpr (wCall m_check_count [(wVar 0)]))
  (wRet (wCall PL.C.m_made [(wVar 0), (wCall PL.C.m_lots_of [(wVar 0)])])))
def m_all_of : MW := mOf 1 b_all_of
def b_sum_lots : WS :=
  (wThen (wSet 2 (wLc [3, 4] (wSeq (wVar 0)) (wgName 4) (wTst (wBin (wInB true) (wVar 4) (wVar 1))) (wVar 4)))
  (wRet (wCallB tupleW [(wCallB sortW [(wBin addW (wVar 2) (wLc [3, 4] (wSeq (wVar 1)) (wgName 4) (wTst (wBin (wInB true) (wVar 4) (wVar 0))) (wVar 4)))])])))
def m_sum_lots : MW := mOf 5 b_sum_lots
def b_are_numbers : WS :=
  (wRet (wAnd (wIsi "tuple" (wVar 1)) (wCallB allW [(wLc [2, 3] (wSeq (wVar 1)) (wgName 3) wYes (wCall PL.C.m_is_within [(wVar 3), (wC (.int 0)), (wBin subW (wCallB lenW [(w_lots (wVar 0))]) (wC (.int 1)))]))])))
def m_are_numbers : MW := mOf 4 b_are_numbers
def b_behind : WS :=
  (wThen (wFor (wSeq (wVar 1)) (wgName 3)
  (wSet 2 (wCall m_sum_lots [(wVar 2), (wBin ixW (w_lots (wVar 0)) (wVar 3))])))
  (wRet (wVar 2)))
def m_behind : MW := mOf 4 b_behind
def b_pressed : WS :=
  (wThen (wIfS (wNotT (wTst (wCall m_are_numbers [(wVar 0), (wVar 1)]))) (wRaise0 "NoSwitches") wSkip)
  (wThen (wExpr (wCall m_check_lot [(wVar 0), (wVar 2)]))
  (wRet (wCall m_behind [(wVar 0), (wVar 1), (wVar 2)]))))
def m_pressed : MW := mOf 3 b_pressed
def b_check_few : WS :=
  (wIfS (wTst (wBin wGt (wCallB lenW [(w_lots (wVar 0))]) (wC (.int 12)))) (wRaise1 "TooMany" "most" (wC (.int 12))) wSkip)
def m_check_few : MW := mOf 1 b_check_few
def b_all_presses : WS :=
  (wThen (wSet 1 (wLst [(wTup [])]))
  (wThen (wFor (wRange1 (wCallB lenW [(w_lots (wVar 0))])) (wgName 2)
  (wSet 1 (wBin addW (wVar 1) (wLc [3, 4] (wSeq (wVar 1)) (wgName 4) wYes (wBin addW (wVar 4) (wTup [(wVar 2)]))))))
  (wRet (wLc [3, 5, 4] (wSeq (wCallB sortW [(wLc [3, 4] (wSeq (wVar 1)) (wgName 4) wYes (wTup [(wCallB lenW [(wVar 4)]), (wVar 4)]))])) (wgTup [5, 4]) wYes (wVar 4)))))
def m_all_presses : MW := mOf 6 b_all_presses
def b_is_check : WS :=
  (wThen (wIfS (wNotT (wTst (wCallB allW [(wLc [3, 4] (wSeq (w_lots (wVar 0))) (wgName 4) wYes (wBin eqW (wBin modW (wCallB lenW [(wCall PL.C.m_common_of [(wVar 2), (wVar 4)])]) (wC (.int 2))) (wC (.int 0))))]))) (wRet (wC (.bl false))) wSkip)
  (wRet (wBin eqW (wBin modW (wCallB lenW [(wCall PL.C.m_common_of [(wVar 2), (wVar 1)])]) (wC (.int 2))) (wC (.int 1)))))
def m_is_check : MW := mOf 5 b_is_check
def b_lit : WS :=
  (wThen (wExpr (wCall m_check_lot [(wVar 0), (wVar 1)]))
  (wThen (wExpr (wCall m_check_few [(wVar 0)]))
  (wThen (wSet 2 (wLc [3, 4] (wSeq (wCall m_all_presses [(wVar 0)])) (wgName 4) (wTst (wBin eqW (wCall m_behind [(wVar 0), (wVar 4), (wTup [])]) (wVar 1))) (wVar 4)))
  (wThen (wIfS (wTst (wBin wGt (wCallB lenW [(wVar 2)]) (wC (.int 0)))) (wRet (wTup [(wC (.str "press")), (wBin ixW (wVar 2) (wC (.int 0)))])) wSkip)
  (wRet (wTup [(wC (.str "check")), (wCallB minB [(wLc [3, 5] (wSeq (wCall PL.C.m_lots_of [(w_points (wVar 0))])) (wgName 5) (wTst (wCall m_is_check [(wVar 0), (wVar 1), (wVar 5)])) (wVar 5))])]))))))
def m_lit : MW := mOf 6 b_lit
def b_is_lit : WS :=
  (wThen (wExpr (wCall m_check_lot [(wVar 0), (wVar 1)]))
  (wThen (wIfS (wOrT (wNotT (wTst (wCall PL.C.m_is_tuple [(wVar 2), (wC (.int 2)), (wC (.int 2))]))) (wNotT (wTst (wIsi "str" (wBin ixW (wVar 2) (wC (.int 0))))))) (wRet (wC (.bl false))) wSkip)
  (wThen (wIfS (wTst (wBin eqW (wBin ixW (wVar 2) (wC (.int 0))) (wC (.str "check")))) (wRet (wAnd (wCall PL.C.m_is_lot_of [(w_points (wVar 0)), (wBin ixW (wVar 2) (wC (.int 1)))]) (wCall m_is_check [(wVar 0), (wVar 1), (wBin ixW (wVar 2) (wC (.int 1)))]))) wSkip)
  (wThen (wIfS (wOrT (wTst (wBin neW (wBin ixW (wVar 2) (wC (.int 0))) (wC (.str "press")))) (wNotT (wTst (wCall m_are_numbers [(wVar 0), (wBin ixW (wVar 2) (wC (.int 1)))])))) (wRet (wC (.bl false))) wSkip)
  (wThen (wIfS (wNotT (wTst (wCallB allW [(wLc [3, 4, 5] (wZip (wBin ixW (wVar 2) (wC (.int 1))) (wSlice (wBin ixW (wVar 2) (wC (.int 1))) (some (wC (.int 1))) none)) (wgTup [4, 5]) wYes (wBin wLt (wVar 4) (wVar 5)))]))) (wRet (wC (.bl false))) wSkip)
  (wRet (wBin eqW (wCall m_behind [(wVar 0), (wBin ixW (wVar 2) (wC (.int 1))), (wTup [])]) (wVar 1))))))))
def m_is_lit : MW := mOf 6 b_is_lit
abbrev m__law_draw : MW := PL.C.m__law_draw
abbrev m__law_some : MW := PL.C.m__law_some
def b__law_is_int : WS :=
  (wThen (wIfS (wNotT (wTst (wIsi "int" (wVar 0)))) (wRet (wC (.bl false))) wSkip)
  (wThen (wIfS (wTst (wIsi "bool" (wVar 0))) (wRet (wC (.bl false))) wSkip)
  (wRet (wChain wLe wLe (wVar 1) (wVar 0) (wVar 2)))))
def m__law_is_int : MW := mOf 3 b__law_is_int
abbrev m__law_all : MW := PL.C.m__law_lots
abbrev m__law_in : MW := PL.C.m__law_in
def b__law_family : WS :=
  (wThen (wAsg (wTup [(wCall PL.C.m__law_lots [(wVar 1)]), (wCall PL.C.m__law_draw [(wVar 0), (wC (.int 7))]), (wBin addW (wC (.int 2)) (wCall PL.C.m__law_draw [(wVar 0), (wC (.int 3))]))]) (wgTup [2, 3, 4]))
  (wThen (wSet 5 (wLc [8, 9] (wSeq (wVar 2)) (wgName 9) (wTst (wBin eqW (wCall PL.C.m__law_draw [(wVar 0), (wVar 4)]) (wC (.int 0)))) (wVar 9)))
  (wThen (wIfS (wTst (wBin eqW (wVar 3) (wC (.int 0)))) (wThen (wSet 6 (wCall PL.C.m__law_draw [(wVar 0), (wBin addW (wVar 1) (wC (.int 1)))]))
  (wRet (wCallB tupleW [(wLc [8, 9] (wSeq (wVar 2)) (wgName 9) (wAndT (wTst (wBin eqW (wCallB lenW [(wVar 9)]) (wVar 6))) (wTst (wBin wGt (wCall PL.C.m__law_draw [(wVar 0), (wC (.int 3))]) (wC (.int 0))))) (wVar 9))]))) wSkip)
  (wThen (wIfS (wTst (wBin eqW (wVar 3) (wC (.int 1)))) (wThen (wSet 7 (wSlice (wVar 5) none (some (wC (.int 3)))))
  (wRet (wCallB tupleW [(wLc [8, 9] (wSeq (wVar 2)) (wgName 9) (wTst (wCallB anyW [(wLc [8, 10] (wSeq (wVar 7)) (wgName 10) wYes (wCall PL.C.m__law_in [(wVar 9), (wVar 10)]))])) (wVar 9))]))) wSkip)
  (wThen (wIfS (wTst (wBin eqW (wVar 3) (wC (.int 2)))) (wThen (wSet 7 (wSlice (wVar 5) none (some (wC (.int 3)))))
  (wRet (wCallB tupleW [(wLc [8, 9] (wSeq (wVar 2)) (wgName 9) (wTst (wCallB anyW [(wLc [8, 10] (wSeq (wVar 7)) (wgName 10) wYes (wCall PL.C.m__law_in [(wVar 10), (wVar 9)]))])) (wVar 9))]))) wSkip)
  (wRet (wIf (wTst (wBin eqW (wVar 3) (wC (.int 3)))) (wCallB tupleW [(wSlice (wVar 5) none (some (wCall PL.C.m__law_draw [(wVar 0), (wC (.int 7))])))]) (wCallB tupleW [(wVar 5)]))))))))
def m__law_family : MW := mOf 11 b__law_family
def b__law_deep : WS :=
  (wThen (wSet 1 (wCall PL.C.m__law_some [(wVar 0), (wLst [(wC .non), (wC (.int 0)), (wC (.str "a"))])]))
  (wThen (wFor (wRange1 (wBin addW (wC (.int 18)) (wCall PL.C.m__law_draw [(wVar 0), (wC (.int 18))]))) (wgName 2)
  (wSet 1 (wCall PL.C.m__law_some [(wVar 0), (wLst [(wTup [(wVar 1)]), (wLst [(wVar 1)]), (wDisp1 (wC (.int 0)) (wVar 1))])])))
  (wRet (wVar 1))))
def m__law_deep : MW := mOf 3 b__law_deep
def b__law_lit : WS :=
  (wThen (wSet 2 (wLst []))
  (wThen (wFor (wSeq (wVar 1)) (wgName 3)
  (wSet 2 (wBin addW (wLc [4, 5] (wSeq (wVar 2)) (wgName 5) (wTst (wBin (wInB true) (wVar 5) (wBin ixW (wVar 0) (wVar 3)))) (wVar 5)) (wLc [4, 5] (wSeq (wBin ixW (wVar 0) (wVar 3))) (wgName 5) (wTst (wBin (wInB true) (wVar 5) (wVar 2))) (wVar 5)))))
  (wRet (wCallB tupleW [(wCallB sortW [(wVar 2)])]))))
def m__law_lit : MW := mOf 6 b__law_lit
def b__law_word (act : WA) (f : Addr) : WS :=
  (wThen (wSet 1 (wC (.str "let")))
  (wThen (wTryA knX 2 f act (fun xy xa xd => (wThen (wSetO 3 (wLst []))
  (wThen (wExt 3 (wLst [(wIsX 2 (exD xy xa xd) (isaT xy.cls "NoLot")), (wIsX 2 (exD xy xa xd) (isaT xy.cls "NoSwitches"))]))
  (wThen (wExt 3 (wLst [(wIsX 2 (exD xy xa xd) (isaT xy.cls "TooMany"))]))
  (wThen (wSet 1 (wC (.str "other")))
  (wThen (wIfS (wBorT 3 (wAndT (wTst (wBin eqW (wLcount (wVar 3) (wC (.bl true))) (wC (.int 1)))) (wTst (wIsX 2 (exD xy xa xd) true)))) (wSet 1 (wBor 3 (wBin ixW (wLst [(wC (.str "lot")), (wC (.str "switches")), (wC (.str "many"))]) (wLindex (wVar 3) (wC (.bl true)))))) wSkip)
  (wSet 1 (wIf (wTst (wBin eqW (wVar 1) (wC (.str "many")))) (wTup [(wVar 1), (wXf 2 (exD xy xa xd) xy "most")]) (wVar 1))))))))))
  (wRet (wVar 1))))
def m__law_word : WA → (R → Prop) → Prop := mAct 4 b__law_word
def b__law_is_odd : WS :=
  (wRet (wBin eqW (wBin modW (wCallB intW [(wCallB lenW [(wLc [2, 3] (wSeq (wVar 0)) (wgName 3) (wTst (wBin (wInB false) (wVar 3) (wVar 1))) (wC (.int 1)))])]) (wC (.int 2))) (wC (.int 1))))
def m__law_is_odd : MW := mOf 4 b__law_is_odd
def b__law_checks : WS :=
  (wThen (wSet 3 (wLc [4, 5] (wSeq (wCall PL.C.m__law_lots [(wVar 0)])) (wgName 5) (wTst (wCall m__law_is_odd [(wVar 5), (wVar 2)])) (wVar 5)))
  (wRet (wLc [4, 5] (wSeq (wVar 3)) (wgName 5) (wNotT (wTst (wCallB anyW [(wLc [4, 6] (wSeq (wVar 1)) (wgName 6) wYes (wCall m__law_is_odd [(wVar 5), (wVar 6)]))]))) (wVar 5))))
def m__law_checks : MW := mOf 7 b__law_checks
def b__law_is_rising : WS :=
  (wThen (wIfS (wNotT (wTst (wIsi "tuple" (wVar 0)))) (wRet (wC (.bl false))) wSkip)
  (wThen (wIfS (wNotT (wTst (wCallB allW [(wLc [2, 3] (wSeq (wVar 0)) (wgName 3) wYes (wCall m__law_is_int [(wVar 3), (wC (.int 0)), (wBin subW (wVar 1) (wC (.int 1)))]))]))) (wRet (wC (.bl false))) wSkip)
  (wRet (wCallB allW [(wLc [2, 3, 4] (wZip (wVar 0) (wSlice (wVar 0) (some (wC (.int 1))) none)) (wgTup [3, 4]) wYes (wBin wLt (wVar 3) (wVar 4)))]))))
def m__law_is_rising : MW := mOf 5 b__law_is_rising
def b__law_is_told : WS :=
  (wThen (wIfS (wNotT (wTst (wIsi "tuple" (wVar 3)))) (wRet (wC (.bl false))) wSkip)
  (wThen (wIfS (wTst (wBin neW (wCallB lenW [(wVar 3)]) (wC (.int 2)))) (wRet (wC (.bl false))) wSkip)
  (wThen (wIfS (wNotT (wTst (wIsi "str" (wBin ixW (wVar 3) (wC (.int 0)))))) (wRet (wC (.bl false))) wSkip)
  (wThen (wIfS (wTst (wBin eqW (wBin ixW (wVar 3) (wC (.int 0))) (wC (.str "press")))) (wThen (wIfS (wNotT (wTst (wCall m__law_is_rising [(wBin ixW (wVar 3) (wC (.int 1))), (wCallB lenW [(wVar 1)])]))) (wRet (wC (.bl false))) wSkip)
  (wRet (wBin eqW (wCall m__law_lit [(wVar 1), (wBin ixW (wVar 3) (wC (.int 1)))]) (wVar 2)))) wSkip)
  (wThen (wIfS (wNotT (wTst (wBin eqW (wBin ixW (wVar 3) (wC (.int 0))) (wC (.str "check"))))) (wRet (wC (.bl false))) wSkip)
  (wThen (wIfS (wNotT (wTst (wCall m__law_is_rising [(wBin ixW (wVar 3) (wC (.int 1))), (wVar 0)]))) (wRet (wC (.bl false))) wSkip)
  (wRet (wBin (wInB false) (wBin ixW (wVar 3) (wC (.int 1))) (wCall m__law_checks [(wVar 0), (wVar 1), (wVar 2)])))))))))
def m__law_is_told : MW := mOf 4 b__law_is_told
def b__law_bent : WS :=
  (wThen (wSet 4 (wBin mulW (wLst [(wTup [(wC (.str "press")), (wCall PL.C.m__law_some [(wVar 0), (wCall PL.C.m__law_lots [(wCallB lenW [(wVar 2)])])])]), (wTup [(wC (.str "check")), (wCall PL.C.m__law_some [(wVar 0), (wCall PL.C.m__law_lots [(wVar 1)])])])]) (wC (.int 3))))
  (wThen (wSet 4 (wBin addW (wVar 4) (wLst [(wTup [(wC (.str "press")), (wBin ixW (wVar 3) (wC (.int 1)))]), (wTup [(wC (.str "check")), (wBin ixW (wVar 3) (wC (.int 1)))]), (wTup [(wC (.str "press")), (wRev (wBin ixW (wVar 3) (wC (.int 1))))]), (wTup [(wC (.str "check")), (wCallB listB [(wBin ixW (wVar 3) (wC (.int 1)))])]), (wRev (wVar 3)), (wCallB listB [(wVar 3)]), (wSlice (wVar 3) none (some (wC (.int 1))))])))
  (wRet (wCall PL.C.m__law_some [(wVar 0), (wBin addW (wVar 4) (wLst [(wBin addW (wVar 3) (wTup [(wC (.int 0))])), (wTup [(wC (.str "Press")), (wBin ixW (wVar 3) (wC (.int 1)))]), (wTup [(wBin ixW (wVar 3) (wC (.int 0))), (wBin addW (wBin ixW (wVar 3) (wC (.int 1))) (wTup [(wC (.bl true))]))]), (wTup [(wBin ixW (wVar 3) (wC (.int 0))), (wTup [(wC (.int 99))])]), (wTup [(wBin ixW (wVar 3) (wC (.int 0))), (wC .non)]), (wC .non), (wTup []), (wNewD true), (wCall m__law_deep [(wVar 0)])]))]))))
def m__law_bent : MW := mOf 5 b__law_bent
def b_law_f1 : WS :=
  (wThen (wSet 17 (wCall m__law_bent [(wVar 1), (wVar 4), (wVar 5), (wVar 14)]))
  (wIfS (wTst (wBin neW (wCallB reprW [(wCall m_is_lit [(wVar 6), (wVar 11), (wVar 17)])]) (wCallB reprW [(wCall m__law_is_told [(wVar 4), (wVar 5), (wVar 11), (wVar 17)])]))) (wRet (wC (.bl false))) wSkip))
def b_law_f2 : WS :=
  (wThen (wSet 12 (wCallB sortW [(wLc [21, 24] (wSeq (wCall PL.C.m__law_lots [(wCallB lenW [(wVar 5)])])) (wgName 24) (wTst (wBin eqW (wCall m__law_lit [(wVar 5), (wVar 24)]) (wVar 11))) (wTup [(wCallB lenW [(wVar 24)]), (wVar 24)]))]))
  (wThen (wPar 13 14 (wVal (wCall m__law_checks [(wVar 4), (wVar 5), (wVar 11)])) (wVal (wCall m_lit [(wVar 6), (wVar 11)])))
  (wThen (wIfS (wTst (wBin eqW (wBin wGt (wCallB lenW [(wVar 12)]) (wC (.int 0))) (wBin wGt (wCallB lenW [(wVar 13)]) (wC (.int 0))))) (wRet (wC (.bl false))) wSkip)
  (wThen (wSet 15 (wIf (wTst (wBin wGt (wCallB lenW [(wVar 12)]) (wC (.int 0)))) (wTup [(wC (.str "press")), (wBin ixW (wBin ixW (wVar 12) (wC (.int 0))) (wC (.int 1)))]) (wTup [(wC (.str "check")), (wBin ixW (wVar 13) (wC (.int 0)))])))
  (wThen (wIfS (wTst (wBin neW (wCallB reprW [(wVar 14)]) (wCallB reprW [(wVar 15)]))) (wRet (wC (.bl false))) wSkip)
  (wThen (wIfS (wTst (wBin (isBlW true) (wCall m_is_lit [(wVar 6), (wVar 11), (wVar 14)]) (wC (.bl true)))) (wRet (wC (.bl false))) wSkip)
  (wFor (wRange1 (wC (.int 4))) (wgName 16)
  b_law_f1)))))))
def b_law_f3 : WS :=
  (wThen (wSet 4 (wBin addW (wC (.int 1)) (wCall PL.C.m__law_draw [(wVar 1), (wC (.int 5))])))
  (wThen (wSet 5 (wSlice (wCall m__law_family [(wVar 1), (wVar 4)]) none (some (wC (.int 7)))))
  (wThen (wSet 6 (wFamily FamOk [(wVar 4), (wVar 5)]))
  (wThen (wSet 7 (wCallB tupleW [(wLc [21, 22] (wRange1 (wVar 4)) (wgName 22) (wTst (wBin eqW (wCall PL.C.m__law_draw [(wVar 1), (wC (.int 2))]) (wC (.int 0)))) (wVar 22))]))
  (wThen (wSet 8 (wIf (wTst (wBin wGt (wCallB lenW [(wVar 5)]) (wC (.int 0)))) (wCallB tupleW [(wLc [21, 23] (wRange1 (wCall PL.C.m__law_draw [(wVar 1), (wC (.int 6))])) (wgName 23) wYes (wCall PL.C.m__law_draw [(wVar 1), (wCallB lenW [(wVar 5)])]))]) (wTup [])))
  (wThen (wSet 9 (wCall m__law_lit [(wVar 5), (wVar 8)]))
  (wThen (wSet 10 (wCallB tupleW [(wLc [21, 22] (wRange1 (wVar 4)) (wgName 22) (wTst (wBin neW (wBin (wInB false) (wVar 22) (wVar 7)) (wBin (wInB false) (wVar 22) (wVar 9)))) (wVar 22))]))
  (wThen (wIfS (wTst (wBin neW (wCallB reprW [(wCall m_pressed [(wVar 6), (wVar 8), (wVar 7)])]) (wCallB reprW [(wVar 10)]))) (wRet (wC (.bl false))) wSkip)
  (wFor (wSeq (wTup [(wVar 7), (wVar 9)])) (wgName 11)
  b_law_f2)))))))))
def b_law : WS :=
  (wThen (wIfS (wTst (wBin neW (wCall m_lit [(wFamily FamOk [(wC (.int 2)), (wTup [(wTup [(wC (.int 0)), (wC (.int 1))])])]), (wTup [(wC (.int 0))])]) (wTup [(wC (.str "check")), (wTup [(wC (.int 0)), (wC (.int 1))])]))) (wRet (wC (.bl false))) wSkip)
  (wThen (wIfS (wTst (wBin neW (wCall m_lit [(wFamily FamOk [(wC (.int 2)), (wTup [(wTup [(wC (.int 0))]), (wTup [(wC (.int 0)), (wC (.int 1))])])]), (wTup [(wC (.int 1))])]) (wTup [(wC (.str "press")), (wTup [(wC (.int 0)), (wC (.int 1))])]))) (wRet (wC (.bl false))) wSkip)
  (wThen (wSet 19 (wCall PL.C.m__law_some [(wVar 1), (wLst [(wC .non), (wTup [(wC (.int 2))]), (wTup [(wNeg (wC (.int 1)))]), (wTup [(wC (.bl true))]), (wLst [(wC (.int 0))]), (wC (.int 0)), (wC (.str "0")), (wTup [(wC .non)]), (wNewD true), (wCall m__law_deep [(wVar 1)])])]))
  (wThen (wSet 18 (wCall PL.C.m__law_some [(wVar 1), (wLst [(wC .non), (wTup [(wC (.int 4))]), (wTup [(wC (.int 1)), (wC (.int 0))]), (wTup [(wC (.int 0)), (wC (.int 0))]), (wTup [(wC (.bl true))]), (wLst [(wC (.int 0))]), (wC (.int 0)), (wC (.str "0")), (wNewD true), (wCall m__law_deep [(wVar 1)])])]))
  (wThen (wSet 20 (wFamily FamOk [(wC (.int 2)), (wTup [(wTup [(wC (.int 0))]), (wTup [(wC (.int 0)), (wC (.int 1))])])]))
  (wThen (wSet 2 (wLst [(wLam m__law_word (wCall m_pressed [(wVar 20), (wVar 19), (wVar 18)])), (wLam m__law_word (wCall m_pressed [(wVar 20), (wTup [(wC (.int 0)), (wC (.int 0))]), (wVar 18)])), (wLam m__law_word (wCall m_lit [(wVar 20), (wVar 18)]))]))
  (wThen (wSet 2 (wBin addW (wVar 2) (wLst [(wLam m__law_word (wCall m_lit [(wCall m_all_of [(wC (.int 4))]), (wVar 18)])), (wLam m__law_word (wCall m_lit [(wCall m_all_of [(wC (.int 4))]), (wTup [(wC (.int 0))])])), (wLam m__law_word (wCall m_is_lit [(wVar 20), (wVar 18), (wC .non)]))])))
  (wThen (wIfS (wTst (wBin neW (wVar 2) (wLst [(wC (.str "switches")), (wC (.str "lot")), (wC (.str "lot")), (wC (.str "lot")), (wTup [(wC (.str "many")), (wC (.int 12))]), (wC (.str "lot"))]))) (wRet (wC (.bl false))) wSkip)
  (wThen (wFor (wRange1 (wC (.int 4))) (wgName 3)
  b_law_f3)
  (wRet (wC (.bl true))))))))))))
end K77
end
section
set_option Elab.async false
set_option linter.all false
set_option maxRecDepth 100000
set_option autoImplicit false
/-! k77: the plain law: sums of members mod 2 -/
namespace K77
open PySem PySem.Spec L2 PL PL.C
/-! ### parity -/
def xf {α : Type} (l : List α) (f : α → Bool) : Bool := l.foldr (fun i b => f i != b) false
theorem xf_nil {α : Type} (f : α → Bool) : xf [] f = false := rfl
theorem xf_cons {α : Type} (i : α) (l : List α) (f : α → Bool) : xf (i :: l) f = (f i != xf l f) := rfl
theorem xf_app {α : Type} (f : α → Bool) : ∀ l m : List α, xf (l ++ m) f = (xf l f != xf m f)
  | [], m => by simp [xf_nil]
  | i :: l, m => by rw [List.cons_append, xf_cons, xf_cons, xf_app f l m]; cases f i <;> cases xf l f <;> cases xf m f <;> rfl
theorem xf_xor {α : Type} (f g : α → Bool) : ∀ l : List α, xf l (fun i => f i != g i) = (xf l f != xf l g)
  | [] => rfl
  | i :: l => by rw [xf_cons, xf_cons, xf_cons, xf_xor f g l]; cases f i <;> cases g i <;> cases xf l f <;> cases xf l g <;> rfl
theorem xf_congr {α : Type} {f g : α → Bool} : ∀ {l : List α}, (∀ i ∈ l, f i = g i) → xf l f = xf l g
  | [], _ => rfl
  | i :: l, h => by rw [xf_cons, xf_cons, h i List.mem_cons_self, xf_congr fun j hj => h j (List.mem_cons_of_mem _ hj)]
theorem xf_filter {α : Type} (q f : α → Bool) : ∀ l : List α, xf (l.filter q) f = xf l (fun i => q i && f i)
  | [] => rfl
  | i :: l => by
    rw [List.filter_cons, xf_cons]
    cases e : q i with
    | true => simp only [if_true, xf_cons, Bool.true_and]; rw [xf_filter q f l]
    | false => simp only [Bool.false_eq_true, if_false, Bool.false_and]; rw [xf_filter q f l]; simp
theorem xf_len {α : Type} (q : α → Bool) : ∀ l : List α, xf l q = decide ((l.filter q).length % 2 = 1)
  | [] => rfl
  | i :: l => by
    rw [xf_cons, List.filter_cons, xf_len q l]
    cases e : q i with
    | true =>
      simp only [if_true, List.length_cons]
      by_cases h : (l.filter q).length % 2 = 1
      · have : ¬ ((l.filter q).length + 1) % 2 = 1 := by omega
        simp [h, this]
      · have : ((l.filter q).length + 1) % 2 = 1 := by omega
        simp [h, this]
    | false => simp
/-! ### lots over n points -/
def ran (n : Nat) : List Int := (List.range n).map Int.ofNat
theorem mem_ran {n : Nat} {x : Int} : x ∈ ran n ↔ 0 ≤ x ∧ x < n := by
  unfold ran
  rw [List.mem_map]
  constructor
  · rintro ⟨a, ha, rfl⟩
    have := List.mem_range.mp ha
    constructor
    · exact Int.natCast_nonneg a
    · show (a : Int) < n; omega
  · rintro ⟨h1, h2⟩
    obtain ⟨m, rfl⟩ := Int.eq_ofNat_of_zero_le h1
    exact ⟨m, List.mem_range.mpr (by omega), rfl⟩
theorem ran_asc (n : Nat) : (ran n).Pairwise (· < ·) := by
  unfold ran
  rw [List.pairwise_map]
  exact List.pairwise_lt_range.imp fun {a b} h => by show (a : Int) < b; omega
theorem lok_filter (n : Nat) (p : Int → Bool) : LOk n ((ran n).filter p) :=
  ⟨fun x hx => mem_ran.mp (List.mem_filter.mp hx).1, (ran_asc n).filter p⟩
theorem lok_ext {n : Int} {a b : List Int} (ha : LOk n a) (hb : LOk n b) (h : ∀ x, 0 ≤ x → x < n → (x ∈ a ↔ x ∈ b)) : a = b :=
  asc_ext_int ha.2 hb.2 fun x => ⟨fun hx => (h x (ha.1 x hx).1 (ha.1 x hx).2).mp hx, fun hx => (h x (hb.1 x hx).1 (hb.1 x hx).2).mpr hx⟩
theorem lok_self {n : Nat} {a : List Int} (ha : LOk n a) : (ran n).filter (fun x => decide (x ∈ a)) = a :=
  lok_ext (lok_filter n _) ha fun x h1 h2 => by rw [List.mem_filter, mem_ran]; simp [h1, h2]
theorem lok_nil (n : Int) : LOk n [] := ⟨fun x hx => (by cases hx), List.Pairwise.nil⟩
/-- the sum mod 2 -/
def sd (n : Nat) (a b : List Int) : List Int := (ran n).filter fun x => decide (x ∈ a) != decide (x ∈ b)
theorem lok_sd {n : Nat} {a b : List Int} : LOk n (sd n a b) := lok_filter n _
theorem mem_sd {n : Nat} {a b : List Int} {x : Int} : x ∈ sd n a b ↔ (0 ≤ x ∧ x < n) ∧ (decide (x ∈ a) != decide (x ∈ b)) = true := by
  unfold sd; rw [List.mem_filter, mem_ran]
theorem dec_sd {n : Nat} {a b : List Int} {x : Int} (h1 : 0 ≤ x) (h2 : x < n) : decide (x ∈ sd n a b) = (decide (x ∈ a) != decide (x ∈ b)) := by
  rw [Bool.eq_iff_iff, decide_eq_true_eq, mem_sd]; simp [h1, h2]
theorem sd_nil {n : Nat} {a : List Int} (ha : LOk n a) : sd n [] a = a := lok_ext lok_sd ha fun x h1 h2 => by rw [mem_sd]; simp [h1, h2]
theorem sd_self {n : Nat} (a : List Int) : sd n a a = [] := lok_ext lok_sd (lok_nil n) fun x h1 h2 => by rw [mem_sd]; simp
theorem sd_assoc {n : Nat} (a b c : List Int) : sd n (sd n a b) c = sd n a (sd n b c) := lok_ext lok_sd lok_sd fun x h1 h2 => by
  rw [← decide_eq_true_iff (p := x ∈ sd n (sd n a b) c), ← decide_eq_true_iff (p := x ∈ sd n a (sd n b c)), dec_sd h1 h2, dec_sd h1 h2, dec_sd h1 h2, dec_sd h1 h2]
  cases decide (x ∈ a) <;> cases decide (x ∈ b) <;> cases decide (x ∈ c) <;> simp
theorem sd_comm {n : Nat} (a b : List Int) : sd n a b = sd n b a := lok_ext lok_sd lok_sd fun x h1 h2 => by
  rw [← decide_eq_true_iff (p := x ∈ sd n a b), ← decide_eq_true_iff (p := x ∈ sd n b a), dec_sd h1 h2, dec_sd h1 h2]
  cases decide (x ∈ a) <;> cases decide (x ∈ b) <;> simp
theorem sd_back {n : Nat} {a : List Int} (ha : LOk n a) (b : List Int) : sd n (sd n a b) b = a := by rw [sd_assoc, sd_self, sd_comm, sd_nil ha]
/-- the sum of the members with these numbers -/
def sumL (n : Nat) (L : List (List Int)) (s : List Int) : List Int := s.foldl (fun acc i => sd n acc (L.getD i.toNat [])) []
theorem sumL_nil (n : Nat) (L : List (List Int)) : sumL n L [] = [] := rfl
theorem sumL_snoc (n : Nat) (L : List (List Int)) (s : List Int) (i : Int) : sumL n L (s ++ [i]) = sd n (sumL n L s) (L.getD i.toNat []) := by unfold sumL; rw [List.foldl_append]; rfl
theorem lok_sumL (n : Nat) (L : List (List Int)) (s : List Int) : LOk n (sumL n L s) := by
  rcases List.eq_nil_or_concat s with rfl | ⟨t, i, rfl⟩
  · exact lok_nil n
  · rw [List.concat_eq_append, sumL_snoc]; exact lok_sd
/-- the sum on top of v -/
def sumF (n : Nat) (L : List (List Int)) (v s : List Int) : List Int := s.foldl (fun acc i => sd n acc (L.getD i.toNat [])) v
theorem sumF_snoc (n : Nat) (L : List (List Int)) (v s : List Int) (i : Int) : sumF n L v (s ++ [i]) = sd n (sumF n L v s) (L.getD i.toNat []) := by unfold sumF; rw [List.foldl_append]; rfl
theorem lok_sumF {n : Nat} (L : List (List Int)) {v : List Int} (hv : LOk n v) (s : List Int) : LOk n (sumF n L v s) := by
  unfold sumF
  induction s generalizing v with
  | nil => exact hv
  | cons i s ih => exact ih lok_sd
theorem mem_fold_sd {n : Nat} {L : List (List Int)} {x : Int} (h1 : 0 ≤ x) (h2 : x < n) : ∀ (s acc : List Int), decide (x ∈ s.foldl (fun acc i => sd n acc (L.getD i.toNat [])) acc) = (decide (x ∈ acc) != xf s (fun i => decide (x ∈ L.getD i.toNat [])))
  | [], acc => by simp [xf_nil]
  | i :: s, acc => by
    rw [List.foldl_cons, mem_fold_sd h1 h2 s, dec_sd h1 h2, xf_cons]
    cases decide (x ∈ acc) <;> cases decide (x ∈ L.getD i.toNat []) <;> cases xf s (fun i => decide (x ∈ L.getD i.toNat [])) <;> rfl
theorem mem_sumL {n : Nat} {L : List (List Int)} {s : List Int} {x : Int} (h1 : 0 ≤ x) (h2 : x < n) : decide (x ∈ sumL n L s) = xf s (fun i => decide (x ∈ L.getD i.toNat [])) := by
  unfold sumL; rw [mem_fold_sd h1 h2]; simp
/-- sums add up -/
theorem mem_sumF {n : Nat} {L : List (List Int)} {v s : List Int} {x : Int} (h1 : 0 ≤ x) (h2 : x < n) : decide (x ∈ sumF n L v s) = (decide (x ∈ v) != decide (x ∈ sumL n L s)) := by
  rw [mem_sumL h1 h2]; exact mem_fold_sd h1 h2 s v
theorem sumF_sd {n : Nat} {L : List (List Int)} {v s : List Int} (hv : LOk n v) : sumF n L v s = sd n v (sumL n L s) :=
  lok_ext (lok_sumF L hv s) lok_sd fun x h1 h2 => by
    have a := mem_sumF (n := n) (L := L) (v := v) (s := s) h1 h2
    rw [← dec_sd h1 h2] at a
    exact decide_eq_decide.mp a
theorem sumL_sd {n m : Nat} {L : List (List Int)} {s t : List Int} (hs : LOk m s) (ht : LOk m t) : sumL n L (sd m s t) = sd n (sumL n L s) (sumL n L t) := by
  refine lok_ext (lok_sumL n L _) lok_sd fun x h1 h2 => ?_
  rw [← decide_eq_true_iff (p := x ∈ sumL n L (sd m s t)), ← decide_eq_true_iff (p := x ∈ sd n _ _), dec_sd h1 h2, mem_sumL h1 h2, mem_sumL h1 h2, mem_sumL h1 h2]
  have key : ∀ u : List Int, LOk m u → xf u (fun i => decide (x ∈ L.getD i.toNat [])) = xf (ran m) (fun i => decide (i ∈ u) && decide (x ∈ L.getD i.toNat [])) := fun u hu => by
    rw [← xf_filter, lok_self hu]
  rw [key _ lok_sd, key s hs, key t ht, ← xf_xor]
  rw [xf_congr fun i hi => ?_]
  obtain ⟨a, b⟩ := mem_ran.mp hi
  rw [dec_sd a b]
  cases decide (i ∈ s) <;> cases decide (i ∈ t) <;> cases decide (x ∈ L.getD i.toNat []) <;> rfl
/-! ### all sums -/
def V (n : Nat) (L : List (List Int)) : List (List Int) := (lotsU L.length).map (sumL n L)
theorem mem_V {n : Nat} {L : List (List Int)} {v : List Int} : v ∈ V n L ↔ ∃ s, LOk L.length s ∧ sumL n L s = v := by
  unfold V; rw [List.mem_map]
  exact ⟨fun ⟨s, h, e⟩ => ⟨s, (mem_lotsU _ s).mp h, e⟩, fun ⟨s, h, e⟩ => ⟨s, (mem_lotsU _ s).mpr h, e⟩⟩
theorem lok_V {n : Nat} {L : List (List Int)} {v : List Int} (h : v ∈ V n L) : LOk n v := by
  obtain ⟨s, _, rfl⟩ := mem_V.mp h; exact lok_sumL n L s
theorem sumL_pre {n : Nat} {L : List (List Int)} {q : List Int} {s : List Int} (hs : LOk L.length s) : sumL n (L ++ [q]) s = sumL n L s := by
  unfold sumL
  have key : ∀ (s acc : List Int), (∀ x ∈ s, 0 ≤ x ∧ x < (L.length : Int)) → s.foldl (fun acc i => sd n acc ((L ++ [q]).getD i.toNat [])) acc = s.foldl (fun acc i => sd n acc (L.getD i.toNat [])) acc := by
    intro s
    induction s with
    | nil => intro acc _; rfl
    | cons i s ih =>
      intro acc h
      rw [List.foldl_cons, List.foldl_cons, ih _ fun x hx => h x (List.mem_cons_of_mem _ hx)]
      obtain ⟨a, b⟩ := h i List.mem_cons_self
      have : i.toNat < L.length := by omega
      rw [List.getD_eq_getElem?_getD, List.getD_eq_getElem?_getD, List.getElem?_append_left this]
  exact key s [] hs.1
theorem V_snoc (n : Nat) (L : List (List Int)) (q : List Int) : V n (L ++ [q]) = V n L ++ (V n L).map (fun v => sd n v q) := by
  unfold V
  have e : lotsU (L ++ [q]).length = lotsU L.length ++ (lotsU L.length).map (· ++ [(L.length : Int)]) := by
    rw [List.length_append]; rfl
  rw [e, List.map_append, List.map_map, List.map_map]
  congr 1
  · exact List.map_congr_left fun s hs => sumL_pre ((mem_lotsU _ s).mp hs)
  · refine List.map_congr_left fun s hs => ?_
    show sumL n (L ++ [q]) (s ++ [(L.length : Int)]) = sd n (sumL n L s) q
    rw [sumL_snoc, sumL_pre ((mem_lotsU _ s).mp hs)]
    congr 1
    rw [List.getD_eq_getElem?_getD]
    simp
theorem V_nil (n : Nat) : V n [] = [[]] := rfl
/-! ### a check, where there is no sum -/
def dot (n : Nat) (c a : List Int) : Bool := xf (ran n) (fun x => decide (x ∈ c) && decide (x ∈ a))
theorem dot_sdR (n : Nat) (c a b : List Int) : dot n c (sd n a b) = (dot n c a != dot n c b) := by
  unfold dot
  rw [← xf_xor]
  refine xf_congr fun x hx => ?_
  obtain ⟨h1, h2⟩ := mem_ran.mp hx
  rw [dec_sd h1 h2]
  cases decide (x ∈ c) <;> cases decide (x ∈ a) <;> cases decide (x ∈ b) <;> rfl
theorem dot_comm (n : Nat) (a b : List Int) : dot n a b = dot n b a := xf_congr fun x _ => Bool.and_comm _ _
theorem dot_sdL (n : Nat) (c a b : List Int) : dot n (sd n a b) c = (dot n a c != dot n b c) := by rw [dot_comm, dot_sdR, dot_comm, dot_comm n c b]
theorem dot_len {n : Nat} {c a : List Int} (hc : LOk n c) : decide ((c.filter fun x => decide (x ∈ a)).length % 2 = 1) = dot n c a := by
  rw [← xf_len]
  unfold dot
  rw [← xf_filter, lok_self hc]
theorem dual (n : Nat) : ∀ (k : Nat) (L : List (List Int)), L.length = k → ∀ v, LOk n v → v ∈ V n L ∨ ∃ c, LOk n c ∧ (∀ q ∈ L, dot n c q = false) ∧ dot n c v = true := by
  intro k
  induction k with
  | zero =>
    intro L hL v hv
    obtain rfl := List.length_eq_zero_iff.mp hL
    rw [V_nil]
    cases v with
    | nil => exact .inl (by simp)
    | cons x v =>
      refine .inr ⟨[x], ⟨fun y hy => ?_, by simp⟩, fun q hq => (by cases hq), ?_⟩
      · rw [List.mem_singleton.mp hy]; exact hv.1 x List.mem_cons_self
      · have h1 : LOk n [x] := ⟨fun y hy => by rw [List.mem_singleton.mp hy]; exact hv.1 x List.mem_cons_self, by simp⟩
        rw [← dot_len h1]; simp
  | succ k ih =>
    intro L hL v hv
    rcases List.eq_nil_or_concat L with rfl | ⟨M, q, rfl⟩
    · cases hL
    · rw [List.concat_eq_append] at hL ⊢
      have hM : M.length = k := by simpa using hL
      rw [V_snoc]
      rcases ih M hM v hv with h | ⟨c, c1, c2, c3⟩
      · exact .inl (List.mem_append_left _ h)
      · cases hq : dot n c q with
        | false =>
          refine .inr ⟨c, c1, fun r hr => ?_, c3⟩
          rcases List.mem_append.mp hr with h | h
          · exact c2 r h
          · rw [List.mem_singleton.mp h]; exact hq
        | true =>
          rcases ih M hM (sd n v q) lok_sd with h | ⟨d, d1, d2, d3⟩
          · exact .inl (List.mem_append_right _ (List.mem_map.mpr ⟨_, h, sd_back hv q⟩))
          · rw [dot_sdR] at d3
            cases hd : dot n d q with
            | false =>
              refine .inr ⟨d, d1, fun r hr => ?_, by rw [hd] at d3; simpa using d3⟩
              rcases List.mem_append.mp hr with h | h
              · exact d2 r h
              · rw [List.mem_singleton.mp h]; exact hd
            | true =>
              refine .inr ⟨sd n c d, lok_sd, fun r hr => ?_, ?_⟩
              · rw [dot_sdL]
                rcases List.mem_append.mp hr with h | h
                · rw [c2 r h, d2 r h]; rfl
                · rw [List.mem_singleton.mp h, hq, hd]; rfl
              · rw [dot_sdL, c3]
                rw [hd] at d3
                have : dot n d v = false := by simpa using d3
                rw [this]; rfl
/-- a check tells against every sum -/
theorem dot_sum {n : Nat} {L : List (List Int)} {c : List Int} (h : ∀ q ∈ L, dot n c q = false) {v : List Int} (hv : v ∈ V n L) : dot n c v = false := by
  obtain ⟨s, _, rfl⟩ := mem_V.mp hv
  have key : ∀ (s acc : List Int), dot n c acc = false → dot n c (s.foldl (fun acc i => sd n acc (L.getD i.toNat [])) acc) = false := by
    intro s
    induction s with
    | nil => intro acc h; exact h
    | cons i s ih =>
      intro acc ha
      rw [List.foldl_cons]
      refine ih _ ?_
      rw [dot_sdR, ha]
      by_cases hi : i.toNat < L.length
      · have := h (L.getD i.toNat []) (by rw [List.getD_eq_getElem?_getD, List.getElem?_eq_getElem hi]; exact List.getElem_mem hi)
        rw [this]; rfl
      · rw [List.getD_eq_getElem?_getD, List.getElem?_eq_none (by omega)]
        have : dot n c [] = false := by unfold dot; rw [xf_congr (g := fun _ => false) fun x _ => by simp]; clear ha h ih hi; induction ran n with
          | nil => rfl
          | cons a l ih => rw [xf_cons, ih]; rfl
        show (false != dot n c []) = false
        rw [this]; rfl
  exact key s [] (by unfold dot; rw [xf_congr (g := fun _ => false) fun x _ => by simp]; induction ran n with
    | nil => rfl
    | cons a l ih => rw [xf_cons, ih]; rfl)
end K77
end
section
set_option Elab.async false
set_option linter.all false
set_option maxRecDepth 100000
set_option maxHeartbeats 400000
set_option autoImplicit false
/-! k77: the small defs -/
namespace K77
open PySem PySem.Spec L2 PL PL.C
open PyProof.Rows hiding St
variable {P : R → Prop} {E : XP}
theorem v_gtInt {i j : Int} (h : P (.val (.bl (decide (j < i))))) : wGt (.int i) (.int j) P := h
def bitsF : Nat → Nat → Int → List Int
  | 0, _, _ => []
  | f + 1, k, p => if k = 0 then [] else (if k % 2 = 1 then [p] else []) ++ bitsF f (k / 2) (p + 1)
def lotN (k : Nat) : List Int := bitsF 7 k 0
theorem bitsF_zero : ∀ (f : Nat) (p : Int), bitsF f 0 p = []
  | 0, _ => rfl
  | f + 1, p => by rw [bitsF, if_pos rfl]
theorem sp_lot_of (k : Nat) (hk : k < 2 ^ 7) (h : P (.val (dLot (lotN k)))) : PL.C.m_lot_of [.int k] P E := by
  unfold PL.C.m_lot_of PL.C.b_lot_of
  rw [u_mOf, u_then, u_par]
  simp only [u_lst, u_args0, u_val, u_c]
  rw [u_then]
  refine while_ind (fun f ρ => ∃ (j : Nat) (p : Int) (acc : List Int), j < 2 ^ f ∧ acc.length + f ≤ 7 ∧ acc ++ bitsF f j p = lotN k ∧ ρ = [some (.val (.int (j : Int))), some (.own (acc.map D.int)), some (.val (.int p))]) 7 ⟨k, 0, [], hk, by decide, rfl, rfl⟩
    (fun f ρ ⟨j, p, acc, hj, hl, he, eρ⟩ N hN => ?_)
  subst eρ
  simp only [u_tst, u_bin, u_var, u_c]
  refine ⟨_, rfl, v_gtInt ⟨_, rfl, ?_⟩⟩
  by_cases h0 : j = 0
  · refine ifF (by simp [h0]) ?_
    subst h0
    rw [bitsF_zero, List.append_nil] at he
    rw [u_frz]
    refine ⟨_, rfl, ?_⟩
    rw [u_ret, u_callB]
    simp only [u_args, u_args0, u_var]
    refine ⟨_, rfl, ?_⟩
    show tupleW [.lst (acc.map D.int)] _
    rw [v_tupleL, he]
    exact h
  · refine ifT (by simp; omega) ?_
    obtain ⟨f', rfl⟩ : ∃ f', f = f' + 1 := by
      cases f with
      | zero => exfalso; simp at hj; omega
      | succ f => exact ⟨f, rfl⟩
    rw [bitsF, if_neg h0] at he
    have hp : j / 2 < 2 ^ f' := by rw [Nat.pow_succ] at hj; omega
    have par : ∀ (acc' : List Int) (k' : WEnds), acc'.length + f' ≤ 7 → acc' ++ bitsF f' (j / 2) (p + 1) = lotN k → k'.nx = N →
        wPar 0 2 (wVal (wBin fdivW (wVar 0) (wC (.int 2)))) (wVal (wBin addW (wVar 2) (wC (.int 1)))) k' E [some (.val (.int (j : Int))), some (.own (acc'.map D.int)), some (.val (.int p))] := fun acc' k' hl' he' hk' => by
      rw [u_par]
      simp only [u_val, u_bin, u_var, u_c]
      refine ⟨_, rfl, v_fdiv (by decide) (by decide) ?_⟩
      refine ⟨_, rfl, ?_⟩
      show addW (.int p) (.int 1) _
      rw [PL.v_add, hk']
      exact hN f' _ (by omega) ⟨j / 2, p + 1, acc', hp, hl', he', rfl⟩
    rw [u_then, u_ifS]
    simp only [u_tst, u_bin, u_var, u_c]
    refine ⟨_, rfl, v_mod (by decide) (v_eqInt ⟨_, rfl, ?_⟩)⟩
    by_cases ho : j % 2 = 1
    · refine ifT (decide_eq_true (by omega)) ?_
      rw [u_app]
      refine ⟨_, rfl, ?_⟩
      simp only [u_var]
      refine ⟨_, rfl, by rw [List.length_map, sizeLine_eq]; omega, ?_⟩
      have e : acc.map D.int ++ [(R.val (D.int p)).toD] = (acc ++ [p]).map D.int := by simp
      rw [e]
      refine par (acc ++ [p]) _ (by rw [List.length_append]; simp; omega) ?_ rfl
      rw [if_pos ho] at he
      rw [← he, List.append_assoc]
    · refine ifF (decide_eq_false (by omega)) ?_
      rw [u_skip]
      refine par acc _ (by omega) ?_ rfl
      rw [if_neg ho, List.nil_append] at he
      exact he
def lotsN (n : Nat) : List (List Int) := (List.range (2 ^ n)).map lotN
theorem sp_lots_of (n : Nat) (hn : n ≤ 7) (h : P (.own ((lotsN n).map dLot))) : PL.C.m_lots_of [.int n] P E := by
  unfold PL.C.m_lots_of PL.C.b_lots_of
  rw [u_mOf, u_ret]
  have hp : 2 ^ n ≤ 2 ^ 7 := Nat.pow_le_pow_right (by omega) hn
  refine lc_encm (fun k : Nat => D.int (k : Int)) (List.range (2 ^ n)) (fun k => dLot (lotN k)) (fun Q hQ => ?_) (fun k hk K hK => ?_) ?_
  · rw [u_rng1]
    simp only [u_args, u_args0, u_bin, u_c, u_var]
    refine ⟨_, rfl, 1, n, rfl, rfl, ⟨by omega, by omega, by decide⟩, ?_⟩
    have e : (1 : Int) * 2 ^ (n : Int).toNat = ((2 ^ n : Nat) : Int) := by rw [Int.one_mul, Int.toNat_natCast]; simp
    have hz1 : (0 : Int) ≤ ((2 ^ n : Nat) : Int) := Int.natCast_nonneg _
    have hz2 : ((2 ^ n : Nat) : Int) ≤ 128 := Int.ofNat_le.mpr hp
    refine ⟨((2 ^ n : Nat) : Int), ?_, Int.le_trans (by decide) hz1, Int.le_trans hz2 (by decide), ?_⟩
    · show [D.int ((1 : Int) * 2 ^ (n : Int).toNat)] = _
      rw [e]
    rw [Int.toNat_natCast]
    have e2 : rangeD 0 (2 ^ n) = (List.range (2 ^ n)).map (fun k : Nat => D.int (k : Int)) := by
      simp [rangeD]
    rw [e2]; exact hQ
  · unfold item
    simp only [u_gName, u_yes, if_true, u_call, u_args, u_args0, u_var]
    refine ⟨_, rfl, sp_lot_of k (by have := List.mem_range.mp hk; omega) hK⟩
  · have e : (List.range (2 ^ n)).map (fun k => dLot (lotN k)) = (lotsN n).map dLot := by unfold lotsN; rw [List.map_map]; rfl
    rw [e]; exact h
theorem lotsN_ok : ∀ n ≤ 7, (lotsN n).Perm (lotsU n) := by decide +kernel
theorem mem_lotsN {n : Nat} (hn : n ≤ 7) {q : List Int} : q ∈ lotsN n ↔ LOk n q := by rw [(lotsN_ok n hn).mem_iff]; exact mem_lotsU n q
theorem sp_common (a b : List Int) (h : P (.val (dLot (a.filter fun x => decide (x ∈ b))))) : PL.C.m_common_of [dLot a, dLot b] P E := by
  unfold PL.C.m_common_of PL.C.b_common_of
  rw [u_mOf, u_ret, u_callB]
  simp only [u_args, u_args0]
  refine lc_enc D.int a (fun x => decide (x ∈ b)) D.int (fun Q hQ => ?_) (fun x hx K hK => ?_) ?_
  · simp only [u_seqL, u_var]; exact ⟨_, rfl, hQ⟩
  · unfold item
    simp only [u_gName, u_tst, u_bin, u_var]
    refine ⟨_, rfl, _, rfl, v_inInts ⟨_, rfl, ?_⟩⟩
    by_cases hb : x ∈ b
    · refine ifT (decide_eq_true hb) ?_
      rw [if_pos (decide_eq_true hb)] at hK
      exact ⟨_, rfl, hK⟩
    · refine ifF (decide_eq_false hb) ?_
      rw [if_neg (by simpa using hb)] at hK
      exact hK
  · exact h
end K77
end
section
set_option Elab.async false
set_option linter.all false
set_option maxRecDepth 100000
set_option maxHeartbeats 400000
set_option autoImplicit false
/-! k77: sums, presses, checks -/
namespace K77
open PySem PySem.Spec L2 PL PL.C
open PyProof.Rows hiding St
variable {P : R → Prop} {E : XP}
theorem v_notInInts {a : List Int} {i : Int} (h : P (.val (.bl (decide (i ∉ a))))) : wInB true (.int i) (dLot a) P :=
  .inl ⟨pl_int i, all_pl pl_int a, by rw [dp_int]; decide, by rw [any_eqv eqv_int]; simpa using h⟩
/-- two parts that differ, put in order -/
theorem parts_sd {n : Nat} {a b c : List Int} (ha : LOk n a) (hb : LOk n b) (pc : c.Perm (a.filter (fun x => decide (x ∉ b)) ++ b.filter (fun x => decide (x ∉ a)))) (pw : c.Pairwise (· ≤ ·)) : c = sd n a b := by
  refine sorted_int pc pw ?_ lok_sd.2 fun x => ?_
  · refine List.nodup_append.mpr ⟨?_, ?_, fun x hx y hy e => ?_⟩
    · exact (ha.2.filter _).imp fun h => Int.ne_of_lt h
    · exact (hb.2.filter _).imp fun h => Int.ne_of_lt h
    · subst e
      have h1 := (List.mem_filter.mp hx).1
      have h2 := (List.mem_filter.mp hy).2
      simp [h1] at h2
  · rw [mem_sd, List.mem_append, List.mem_filter, List.mem_filter]
    constructor
    · rintro ⟨_, h⟩
      by_cases h1 : x ∈ a <;> by_cases h2 : x ∈ b <;> simp_all
    · rintro (⟨h1, h2⟩ | ⟨h1, h2⟩)
      · exact ⟨ha.1 x h1, by simp at h2; simp [h1, h2]⟩
      · exact ⟨hb.1 x h1, by simp at h2; simp [h1, h2]⟩
theorem sp_sum_lots {n : Nat} (hn : n ≤ 1000) {a b : List Int} (ha : LOk n a) (hb : LOk n b) (h : P (.val (dLot (sd n a b)))) : m_sum_lots [dLot a, dLot b] P E := by
  unfold m_sum_lots b_sum_lots
  rw [u_mOf, u_then, u_set]
  refine lc_enc D.int a (fun x => decide (x ∉ b)) D.int (fun Q hQ => ?_) (fun x hx K hK => ?_) ?_
  · simp only [u_seqL, u_var]; exact ⟨_, rfl, hQ⟩
  · unfold item
    simp only [u_gName, u_tst, u_bin, u_var]
    refine ⟨_, rfl, _, rfl, v_notInInts ⟨_, rfl, ?_⟩⟩
    by_cases hb : x ∈ b
    · refine ifF (by simp [hb]) ?_
      rw [if_neg (by simpa using hb)] at hK
      exact hK
    · refine ifT (by simp [hb]) ?_
      rw [if_pos (by simpa using hb)] at hK
      exact ⟨_, rfl, hK⟩
  · dsimp only
    rw [u_ret, u_callB]
    simp only [u_args, u_args0, u_callB, u_bin, u_var]
    refine ⟨_, rfl, ?_⟩
    refine lc_enc D.int b (fun x => decide (x ∉ a)) D.int (fun Q hQ => ?_) (fun x hx K hK => ?_) ?_
    · simp only [u_seqL, u_var]; exact ⟨_, rfl, hQ⟩
    · unfold item
      simp only [u_gName, u_tst, u_bin, u_var]
      refine ⟨_, rfl, _, rfl, v_notInInts ⟨_, rfl, ?_⟩⟩
      by_cases hb : x ∈ a
      · refine ifF (by simp [hb]) ?_
        rw [if_neg (by simpa using hb)] at hK
        exact hK
      · refine ifT (by simp [hb]) ?_
        rw [if_pos (by simpa using hb)] at hK
        exact ⟨_, rfl, hK⟩
    · show addW (.lst ((a.filter fun x => decide (x ∉ b)).map D.int)) (.lst ((b.filter fun x => decide (x ∉ a)).map D.int)) _
      rw [v_addL]
      have l1 := lok_len ha
      have l2 := lok_len hb
      have l3 := List.length_filter_le (fun x => decide (x ∉ b)) a
      have l4 := List.length_filter_le (fun x => decide (x ∉ a)) b
      refine ⟨by rw [List.length_map, List.length_map, sizeLine_eq]; omega, ?_⟩
      rw [← List.map_append]
      refine v_sortInts fun ms pm pw => ?_
      show tupleW [.lst (ms.map D.int)] _
      rw [v_tupleL]
      rw [parts_sd ha hb pm pw]
      exact h
theorem getL_lok {n : Nat} {L : List (List Int)} (hL : ∀ q ∈ L, LOk n q) (i : Nat) : LOk n (L.getD i []) := by
  rw [List.getD_eq_getElem?_getD]
  by_cases hi : i < L.length
  · rw [List.getElem?_eq_getElem hi]; exact hL _ (List.getElem_mem hi)
  · rw [List.getElem?_eq_none (by omega)]; exact lok_nil n
theorem ix_lots {L : List (List Int)} {i : Int} (h0 : 0 ≤ i) (h1 : i < L.length) (h : P (.val (dLot (L.getD i.toNat [])))) : ixW (dLots L) (.int i) P := by
  obtain ⟨m, rfl⟩ := Int.eq_ofNat_of_zero_le h0
  have hm : m < L.length := by omega
  refine v_ixT (xs := L.map dLot) (i := m) (d := dLot (L.getD m [])) ?_ h
  rw [List.getElem?_map, List.getD_eq_getElem?_getD, List.getElem?_eq_getElem hm]; rfl
theorem ix_lotsL {L : List (List Int)} {i : Int} (h0 : 0 ≤ i) (h1 : i < L.length) (h : P (.val (dLot (L.getD i.toNat [])))) : ixW (.lst (L.map dLot)) (.int i) P := by
  obtain ⟨m, rfl⟩ := Int.eq_ofNat_of_zero_le h0
  have hm : m < L.length := by omega
  refine v_ix (xs := L.map dLot) (i := m) (d := dLot (L.getD m [])) ?_ h
  rw [List.getElem?_map, List.getD_eq_getElem?_getD, List.getElem?_eq_getElem hm]; rfl
theorem sumL_step {n : Nat} {L : List (List Int)} {pre : List Int} {i : Int} : sumL n L (pre ++ [i]) = sd n (sumL n L pre) (L.getD i.toNat []) := sumL_snoc n L pre i
theorem sp_behindG {n : Nat} (hn : n ≤ 1000) {L : List (List Int)} (hL : ∀ q ∈ L, LOk n q) {s : List Int} (hs : ∀ i ∈ s, 0 ≤ i ∧ i < L.length) {v : List Int} (hv : LOk n v) (h : P (.val (dLot (sumF n L v s)))) : m_behind [dFam (.int n) (dLots L), dLot s, dLot v] P E := by
  unfold m_behind b_behind
  rw [u_mOf, u_then]
  refine for_enc D.int s (fun rest ρ => ∃ pre x3, s = pre ++ rest ∧ ρ = [some (.val (dFam (.int n) (dLots L))), some (.val (dLot s)), some (.val (dLot (sumF n L v pre))), x3]) (fun Q hQ => by simp only [u_seqL, u_var]; exact ⟨_, rfl, hQ⟩) ⟨[], none, rfl, rfl⟩
    (fun i p0 rest ρ e ⟨pre, x3, ep, eρ⟩ N hN => ?_) (fun ρ ⟨pre, x3, ep, eρ⟩ => ?_)
  · subst eρ
    rw [u_gName, u_set, u_call]
    simp only [u_args, u_args0, u_bin, u_lots, u_var]
    refine ⟨_, rfl, _, rfl, _, _, rfl, ?_⟩
    refine ⟨_, rfl, ?_⟩
    have hi : i ∈ s := by rw [ep]; simp
    refine ix_lots (hs i hi).1 (hs i hi).2 ?_
    refine sp_sum_lots hn (lok_sumF L hv pre) (getL_lok hL _) ?_
    rw [← sumF_snoc]
    exact hN _ ⟨pre ++ [i], some (.val (.int i)), by rw [ep]; simp, rfl⟩
  · subst eρ
    have : pre = s := by rw [ep]; simp
    subst this
    dsimp only
    rw [u_ret]
    simp only [u_var]
    exact ⟨_, rfl, h⟩
theorem sp_behind {n : Nat} (hn : n ≤ 1000) {L : List (List Int)} (hL : ∀ q ∈ L, LOk n q) {s : List Int} (hs : ∀ i ∈ s, 0 ≤ i ∧ i < L.length) (h : P (.val (dLot (sumL n L s)))) : m_behind [dFam (.int n) (dLots L), dLot s, dLot []] P E :=
  sp_behindG hn hL hs (lok_nil n) h
/-- the presses, by size -/
theorem sp_all_presses {n : Nat} {L : List (List Int)} (hm : L.length ≤ 9) (h : ∀ M : List (List Int), M.Perm (lotsU L.length) → M.Pairwise (fun a b => szLt b a = false) → P (.own (M.map dLot))) : m_all_presses [dFam (.int n) (dLots L)] P E := by
  unfold m_all_presses b_all_presses
  rw [u_mOf, u_then, u_set]
  simp only [u_lst, u_tup, u_args, u_args0]
  rw [u_then]
  refine for_enc (fun k : Nat => D.int (k : Int)) (List.range L.length) (fun rest ρ => ∃ k x2 x3 x4 x5, rest = (List.range L.length).drop k ∧ k ≤ L.length ∧ ρ = [some (.val (dFam (.int n) (dLots L))), some (.val (.lst ((lotsU k).map dLot))), x2, x3, x4, x5]) (fun Q hQ => ?_) ⟨0, none, none, none, none, by simp, Nat.zero_le _, rfl⟩
    (fun i p0 rest ρ e ⟨k, x2, x3, x4, x5, ek, hk, eρ⟩ N hN => ?_) (fun ρ ⟨k, x2, x3, x4, x5, ek, hk, eρ⟩ => ?_)
  · rw [u_rng1]
    simp only [u_args, u_args0, u_callB, u_lots, u_var]
    refine ⟨_, rfl, _, _, rfl, ?_⟩
    show lenW [.tup (L.map dLot)] _
    rw [v_lenT, List.length_map]
    refine ⟨(L.length : Int), rfl, by omega, by omega, ?_⟩
    rw [Int.toNat_natCast]
    have e2 : rangeD 0 L.length = (List.range L.length).map (fun k : Nat => D.int (k : Int)) := by simp [rangeD]
    rw [e2]; exact hQ
  · subst eρ
    have hkl : k < L.length := by
      rcases Nat.lt_or_ge k L.length with h | h
      · exact h
      · rw [List.drop_eq_nil_of_le (by simpa using h)] at ek; cases ek
    have hi : i = k ∧ rest = (List.range L.length).drop (k + 1) := by
      rw [List.drop_eq_getElem_cons (by simpa using hkl)] at ek
      have := List.cons.inj ek
      exact ⟨by rw [this.1]; simp, this.2⟩
    obtain ⟨rfl, er⟩ := hi
    have hp : 2 ^ i ≤ 2 ^ 9 := Nat.pow_le_pow_right (by omega) (by omega)
    have hll := lotsU_len i
    rw [u_gName, u_set, u_bin]
    simp only [u_var]
    refine ⟨_, rfl, ?_⟩
    refine lc_encm dLot (lotsU i) (fun q => dLot (q ++ [(i : Int)])) (fun Q hQ => ?_) (fun q hq K hK => ?_) ?_
    · simp only [u_seqL, u_var]; exact ⟨_, rfl, hQ⟩
    · unfold item
      simp only [u_gName, u_yes, if_true, u_bin, u_var, u_tup, u_args, u_args0]
      refine ⟨_, rfl, _, rfl, ?_⟩
      have := lok_len ((mem_lotsU i q).mp hq)
      exact dLot_app q i (by omega) hK
    · show addW (.lst ((lotsU i).map dLot)) (.lst ((lotsU i).map fun q => dLot (q ++ [(i : Int)]))) _
      rw [v_addL]
      refine ⟨by rw [List.length_map, List.length_map, hll, sizeLine_eq]; omega, ?_⟩
      have e : (lotsU i).map dLot ++ (lotsU i).map (fun q => dLot (q ++ [(i : Int)])) = (lotsU (i + 1)).map dLot := by
        rw [lotsU, List.map_append, List.map_map]; rfl
      rw [e]
      exact hN _ ⟨i + 1, some (.val (.int i)), x3, x4, x5, er, by omega, rfl⟩
  · subst eρ
    have hk2 : k = L.length := by
      rcases Nat.lt_or_ge k L.length with h | h
      · have := congrArg List.length ek
        simp at this; omega
      · omega
    subst hk2
    have hp : 2 ^ L.length ≤ 2 ^ 9 := Nat.pow_le_pow_right (by omega) hm
    have hll := lotsU_len L.length
    dsimp only
    rw [u_ret]
    change wSeq (wCallB sortW [wLc [3, 4] (wSeq (wVar 1)) (wgName 4) wYes (wTup [wCallB lenW [wVar 4], wVar 4])]) _ (fun ds => wLcGo (wgTup [5, 4]) wYes (wVar 4) (wipeR _ [3, 5, 4]) ds [] P) E
    simp only [u_seqL, u_callB, u_args, u_args0]
    refine lc_encm dLot (lotsU L.length) dSz (fun Q hQ => ?_) (fun q hq K hK => ?_) ?_
    · simp only [u_seqL, u_var]; exact ⟨_, rfl, hQ⟩
    · unfold item
      simp only [u_gName, u_yes, if_true, u_tup, u_args, u_args0, u_callB, u_var]
      refine ⟨_, rfl, ?_⟩
      show lenW [.tup (q.map D.int)] _
      rw [v_lenT, List.length_map]
      exact ⟨_, rfl, hK⟩
    · refine v_sortSz fun M pm pw => ?_
      show wLc [3, 5, 4] (fun _ Q _ => Q (M.map dSz)) (wgTup [5, 4]) wYes (wVar 4) _ P E
      refine lc_encm dSz M dLot (fun Q hQ => hQ) (fun q hq K hK => ?_) (h M pm pw)
      unfold item
      rw [u_gTup]
      refine ⟨_, rfl, rfl, ?_⟩
      simp only [u_setAll, u_setAll0, u_yes, if_true, u_var]
      exact ⟨_, rfl, hK⟩
end K77
end
section
set_option Elab.async false
set_option linter.all false
set_option maxRecDepth 100000
set_option maxHeartbeats 400000
set_option autoImplicit false
/-! k77: lit -/
namespace K77
open PySem PySem.Spec L2 PL PL.C
open PyProof.Rows hiding St
variable {P : R → Prop} {E : XP}
theorem v_notInIntsL {a : List Int} {i : Int} (h : P (.val (.bl (decide (i ∉ a))))) : wInB true (.int i) (.lst (a.map D.int)) P :=
  .inl ⟨pl_int i, all_pl pl_int a, by rw [dp_int]; decide, by rw [any_eqv eqv_int]; simpa using h⟩
theorem sp_law_lit {n : Nat} (hn : n ≤ 1000) {L : List (List Int)} (hL : ∀ q ∈ L, LOk n q) {s : List Int} (hs : ∀ i ∈ s, 0 ≤ i ∧ i < L.length) (h : P (.val (dLot (sumL n L s)))) : m__law_lit [dLots L, dLot s] P E := by
  unfold m__law_lit b__law_lit
  rw [u_mOf, u_then, u_set]
  simp only [u_lst, u_args0]
  rw [u_then]
  refine for_enc D.int s (fun rest ρ => ∃ pre acc x3 x4 x5, s = pre ++ rest ∧ acc.Nodup ∧ (∀ x, x ∈ acc ↔ x ∈ sumL n L pre) ∧ ρ = [some (.val (dLots L)), some (.val (dLot s)), some (.val (.lst (acc.map D.int))), x3, x4, x5]) (fun Q hQ => by simp only [u_seqL, u_var]; exact ⟨_, rfl, hQ⟩) ⟨[], [], none, none, none, rfl, List.nodup_nil, fun x => Iff.rfl, rfl⟩
    (fun i p0 rest ρ e ⟨pre, acc, x3, x4, x5, ep, nd, hm, eρ⟩ N hN => ?_) (fun ρ ⟨pre, acc, x3, x4, x5, ep, nd, hm, eρ⟩ => ?_)
  · subst eρ
    have hi : i ∈ s := by rw [ep]; simp
    obtain ⟨i0, i1⟩ := hs i hi
    have hq := getL_lok hL i.toNat
    rw [u_gName, u_set, u_bin]
    refine lc_enc D.int acc (fun x => decide (x ∉ L.getD i.toNat [])) D.int (fun Q hQ => ?_) (fun x hx K hK => ?_) ?_
    · simp only [u_seqL, u_var]; exact ⟨_, rfl, hQ⟩
    · unfold item
      simp only [u_gName, u_tst, u_bin, u_var]
      refine ⟨_, rfl, _, rfl, _, rfl, ?_⟩
      refine ix_lots i0 i1 (v_notInInts ⟨_, rfl, ?_⟩)
      by_cases hb : x ∈ L.getD i.toNat []
      · refine ifF (by simpa using hb) ?_
        rw [if_neg (by simpa using hb)] at hK
        exact hK
      · refine ifT (by simpa using hb) ?_
        rw [if_pos (by simpa using hb)] at hK
        exact ⟨_, rfl, hK⟩
    · refine lc_enc D.int (L.getD i.toNat []) (fun x => decide (x ∉ acc)) D.int (fun Q hQ => ?_) (fun x hx K hK => ?_) ?_
      · simp only [u_seqL, u_bin, u_var]
        refine ⟨_, rfl, _, rfl, ix_lots i0 i1 ?_⟩
        exact hQ
      · unfold item
        simp only [u_gName, u_tst, u_bin, u_var]
        refine ⟨_, rfl, _, rfl, v_notInIntsL ⟨_, rfl, ?_⟩⟩
        by_cases hb : x ∈ acc
        · refine ifF (by simpa using hb) ?_
          rw [if_neg (by simpa using hb)] at hK
          exact hK
        · refine ifT (by simpa using hb) ?_
          rw [if_pos (by simpa using hb)] at hK
          exact ⟨_, rfl, hK⟩
      · show addW (.lst ((acc.filter fun x => decide (x ∉ L.getD i.toNat [])).map D.int)) (.lst (((L.getD i.toNat []).filter fun x => decide (x ∉ acc)).map D.int)) _
        rw [v_addL]
        have la : acc.length ≤ n := by
          have := ((List.perm_ext_iff_of_nodup nd (((lok_sumL n L pre).2).imp fun h => Int.ne_of_lt h)).mpr hm).length_eq
          rw [this]; exact lok_len (lok_sumL n L pre)
        have l2 := lok_len hq
        have l3 := List.length_filter_le (fun x => decide (x ∉ L.getD i.toNat [])) acc
        have l4 := List.length_filter_le (fun x => decide (x ∉ acc)) (L.getD i.toNat [])
        refine ⟨by rw [List.length_map, List.length_map, sizeLine_eq]; omega, ?_⟩
        rw [← List.map_append]
        refine hN _ ⟨pre ++ [i], _, some (.val (.int i)), x4, x5, by rw [ep]; simp, ?_, fun x => ?_, rfl⟩
        · refine List.nodup_append.mpr ⟨nd.filter _, (hq.2.filter _).imp fun h => Int.ne_of_lt h, fun x hx y hy e => ?_⟩
          subst e
          have h1 := (List.mem_filter.mp hx).1
          have h2 := (List.mem_filter.mp hy).2
          simp [h1] at h2
        · have ed : decide (x ∈ sumL n L pre) = decide (x ∈ acc) := by rw [Bool.eq_iff_iff, decide_eq_true_eq, decide_eq_true_eq]; exact (hm x).symm
          rw [sumL_snoc, mem_sd, List.mem_append, List.mem_filter, List.mem_filter, ed]
          constructor
          · rintro (⟨h1, h2⟩ | ⟨h1, h2⟩)
            · exact ⟨(lok_sumL n L pre).1 x ((hm x).mp h1), by simp only [decide_eq_true_eq] at h2; simp only [h1, h2, decide_true, decide_false]; rfl⟩
            · exact ⟨hq.1 x h1, by simp only [decide_eq_true_eq] at h2; simp only [h1, h2, decide_true, decide_false]; rfl⟩
          · rintro ⟨_, h⟩
            by_cases h1 : x ∈ acc <;> by_cases h2 : x ∈ L.getD i.toNat []
            · simp only [h1, h2, decide_true, bne_self_eq_false, Bool.false_eq_true] at h
            · exact .inl ⟨h1, decide_eq_true h2⟩
            · exact .inr ⟨h2, decide_eq_true h1⟩
            · simp only [h1, h2, decide_false, bne_self_eq_false, Bool.false_eq_true] at h
  · subst eρ
    have : pre = s := by rw [ep]; simp
    subst this
    dsimp only
    rw [u_ret, u_callB]
    simp only [u_args, u_args0, u_callB, u_var]
    refine ⟨_, rfl, ?_⟩
    refine v_sortInts fun ms pm pw => ?_
    show tupleW [.lst (ms.map D.int)] _
    rw [v_tupleL, sorted_int pm pw nd (lok_sumL n L pre).2 fun x => (hm x).symm]
    exact h
/-! ### checks -/
def chk (n : Nat) (L : List (List Int)) (v c : List Int) : Bool := (L.all fun q => !dot n c q) && dot n c v
theorem sp_is_check {n : Nat} {L : List (List Int)} {v c : List Int} (hc : LOk n c) (h : P (.val (.bl (chk n L v c)))) : m_is_check [dFam (.int n) (dLots L), dLot v, dLot c] P E := by
  have md : ∀ q : List Int, decide ((((c.filter fun x => decide (x ∈ q)).length : Nat) : Int) % 2 = 1) = dot n c q := fun q => by
    rw [← dot_len hc, Bool.eq_iff_iff, decide_eq_true_eq, decide_eq_true_eq]; omega
  unfold m_is_check b_is_check
  rw [u_mOf, u_then, u_ifS, u_notT, u_tst, u_callB]
  simp only [u_args, u_args0]
  refine all_enc dLot L (fun q => !dot n c q) (fun Q hQ => ?_) (fun q hq K hK => ?_) ?_
  · simp only [u_seqL, u_lots, u_var]; exact ⟨_, rfl, _, _, rfl, hQ⟩
  · unfold item
    simp only [u_gName, u_yes, if_true, u_bin, u_callB, u_args, u_args0, u_call, u_var, u_c]
    refine ⟨_, rfl, _, rfl, sp_common c q ?_⟩
    show lenW [.tup ((c.filter fun x => decide (x ∈ q)).map D.int)] _
    rw [v_lenT, List.length_map]
    refine v_mod (by decide) (v_eqInt ?_)
    rw [← md q] at hK
    have e : (!decide ((((c.filter fun x => decide (x ∈ q)).length : Nat) : Int) % 2 = 1)) = decide ((((c.filter fun x => decide (x ∈ q)).length : Nat) : Int) % 2 = 0) := by
      rw [Bool.eq_iff_iff, Bool.not_eq_true', decide_eq_false_iff_not, decide_eq_true_eq]; omega
    rw [e] at hK
    exact hK
  · refine ⟨_, rfl, ?_⟩
    cases hA : (L.all fun q => !dot n c q) with
    | false =>
      refine ifT rfl ?_
      rw [u_ret]
      unfold chk at h
      rw [hA] at h
      exact h
    | true =>
      refine ifF rfl ?_
      rw [u_skip]
      dsimp only
      rw [u_ret]
      simp only [u_bin, u_callB, u_args, u_args0, u_call, u_var, u_c]
      refine ⟨_, rfl, _, rfl, sp_common c v ?_⟩
      show lenW [.tup ((c.filter fun x => decide (x ∈ v)).map D.int)] _
      rw [v_lenT, List.length_map]
      refine v_mod (by decide) (v_eqInt ?_)
      unfold chk at h
      rw [hA, Bool.true_and, ← md v] at h
      exact h
theorem sp_check_lot {n : Nat} {F : D} {v : List Int} (hv : LOk n v) (h : P (.val .non)) : m_check_lot [dFam (.int n) F, dLot v] P E := by
  unfold m_check_lot b_check_lot
  rw [u_mOf, u_ifS, u_notT, u_tst, u_call]
  simp only [u_args, u_args0, u_points, u_var]
  refine ⟨_, rfl, _, _, rfl, _, rfl, sp_is_lot_of (dLot v) (noObj_lot v) n ⟨_, rfl, ?_⟩⟩
  refine ifF (by rw [(isLotB_iff n v).mpr hv]; rfl) ?_
  exact h
theorem few_len {n : D} {L : List (List Int)} {ρ : Rho} {Q : Bool → Prop} (h0 : ρ[0]? = some (some (.val (dFam n (dLots L))))) (h : Q (decide ((12 : Int) < L.length))) : (wTst (wBin wGt (wCallB lenW [(w_lots (wVar 0))]) (wC (.int 12)))) ρ Q E := by
  rw [u_tst, u_bin, u_callB]
  simp only [u_args, u_args0, u_lots, u_var, u_c]
  refine ⟨_, h0, _, _, rfl, ?_⟩
  show lenW [.tup (L.map dLot)] _
  rw [v_lenT, List.length_map]
  exact v_gtInt ⟨_, rfl, h⟩
theorem sp_check_few {n : D} {L : List (List Int)} (hm : L.length ≤ 12) (h : P (.val .non)) : m_check_few [dFam n (dLots L)] P E := by
  unfold m_check_few b_check_few
  rw [u_mOf, u_ifS]
  refine few_len (n := n) (L := L) rfl ?_
  refine ifF (decide_eq_false (by omega)) ?_
  exact h
theorem sp_check_few_bad {n : D} {L : List (List Int)} (hm : 12 < L.length) (h : E ⟨"TooMany", [("most", .int 12)]⟩) : m_check_few [dFam n (dLots L)] P E := by
  unfold m_check_few b_check_few
  rw [u_mOf, u_ifS]
  refine few_len (n := n) (L := L) rfl ?_
  refine ifT (decide_eq_true (by omega)) ?_
  show wRaise1 _ _ _ _ _ _
  unfold wRaise1
  rw [u_c]
  exact ⟨.inl ⟨12, rfl⟩, h⟩
theorem sp_lit {n : Nat} (hn : n ≤ 7) {L : List (List Int)} (hL : ∀ q ∈ L, LOk n q) (hm : L.length ≤ 9) {v : List Int} (hv : LOk n v) (h : ∀ s, LOk L.length s → sumL n L s = v → (∀ t, LOk L.length t → sumL n L t = v → szLt t s = false) → P (.val (.tup [.str "press", dLot s])))
    (h' : v ∉ V n L → ∀ c, LOk n c → chk n L v c = true → (∀ y, LOk n y → chk n L v y = true → lexB y c = false) → P (.val (.tup [.str "check", dLot c]))) :
    m_lit [dFam (.int n) (dLots L), dLot v] P E := by
  unfold m_lit b_lit
  rw [u_mOf, u_then, u_expr, u_call]
  simp only [u_args, u_args0, u_var]
  refine ⟨_, rfl, _, rfl, sp_check_lot hv ?_⟩
  rw [u_then, u_expr, u_call]
  simp only [u_args, u_args0, u_var]
  refine ⟨_, rfl, sp_check_few (by omega) ?_⟩
  rw [u_then, u_set]
  change wSeq (wCall m_all_presses [(wVar 0)]) _ (fun ds => wLcGo (wgName 4) _ (wVar 4) (wipeR _ [3, 4]) ds [] _) E
  simp only [u_seqL, u_call, u_args, u_args0, u_var]
  refine ⟨_, rfl, sp_all_presses hm fun M pm pw => ?_⟩
  show wLc [3, 4] (fun _ Q _ => Q (M.map dLot)) (wgName 4) _ (wVar 4) _ _ E
  have hM : ∀ s ∈ M, LOk L.length s := fun s hs => (mem_lotsU _ s).mp (pm.mem_iff.mp hs)
  refine lc_enc dLot M (fun s => decide (sumL n L s = v)) dLot (fun Q hQ => hQ) (fun s hs K hK => ?_) ?_
  · unfold item
    rw [u_gName, u_tst, u_bin, u_call]
    simp only [u_args, u_args0, u_var, u_tup]
    refine ⟨_, rfl, _, rfl, sp_behind (by omega) hL (hM s hs).1 ?_⟩
    refine ⟨_, rfl, v_eqLot ⟨_, rfl, ?_⟩⟩
    by_cases hb : sumL n L s = v
    · refine ifT (decide_eq_true hb) ?_
      rw [if_pos (decide_eq_true hb)] at hK
      exact ⟨_, rfl, hK⟩
    · refine ifF (decide_eq_false hb) ?_
      rw [if_neg (by simpa using hb)] at hK
      exact hK
  · have hV : v ∈ V n L ↔ (M.filter fun s => decide (sumL n L s = v)) ≠ [] := by
      rw [mem_V]
      constructor
      · rintro ⟨s, h1, h2⟩ e
        have : s ∈ M.filter fun s => decide (sumL n L s = v) := List.mem_filter.mpr ⟨pm.mem_iff.mpr ((mem_lotsU _ s).mpr h1), decide_eq_true h2⟩
        rw [e] at this; cases this
      · intro ne
        obtain ⟨s, hs⟩ := List.exists_mem_of_ne_nil _ ne
        obtain ⟨h1, h2⟩ := List.mem_filter.mp hs
        exact ⟨s, hM s h1, of_decide_eq_true h2⟩
    try dsimp only
    rw [u_then, u_ifS, u_tst, u_bin, u_callB]
    simp only [u_args, u_args0, u_var, u_c]
    refine ⟨_, rfl, ?_⟩
    show lenW [.lst ((M.filter fun s => decide (sumL n L s = v)).map dLot)] _
    rw [v_lenL, List.length_map]
    refine v_gtInt ⟨_, rfl, ?_⟩
    by_cases hv2 : v ∈ V n L
    · have ne := hV.mp hv2
      refine ifT (decide_eq_true (by have := List.length_pos_iff.mpr ne; omega)) ?_
      rw [u_ret]
      simp only [u_tup, u_args, u_args0, u_bin, u_var, u_c]
      refine ⟨_, rfl, ?_⟩
      cases hF : M.filter fun s => decide (sumL n L s = v) with
      | nil => exact absurd hF ne
      | cons s0 r =>
        refine v_ix (xs := (s0 :: r).map dLot) (i := 0) (d := dLot s0) rfl ?_
        have pF : (M.filter fun s => decide (sumL n L s = v)).Pairwise (fun a b => szLt b a = false) := pw.filter _
        have m0 : s0 ∈ M.filter fun s => decide (sumL n L s = v) := by rw [hF]; simp
        obtain ⟨f1, f2⟩ := List.mem_filter.mp m0
        refine h s0 (hM s0 f1) (of_decide_eq_true f2) fun t ht et => ?_
        have mt : t ∈ M.filter fun s => decide (sumL n L s = v) := List.mem_filter.mpr ⟨pm.mem_iff.mpr ((mem_lotsU _ t).mpr ht), decide_eq_true et⟩
        rw [hF] at mt pF
        rcases List.mem_cons.mp mt with e | e
        · subst e; unfold szLt; rw [if_pos rfl, lexB_irrefl]
        · exact (List.pairwise_cons.mp pF).1 t e
    · have e : (M.filter fun s => decide (sumL n L s = v)) = [] := by
        cases hF : M.filter fun s => decide (sumL n L s = v) with
        | nil => rfl
        | cons s0 r => exact absurd (hV.mpr (by rw [hF]; simp)) hv2
      rw [e]
      refine ifF rfl ?_
      rw [u_skip]
      dsimp only
      rw [u_ret]
      simp only [u_tup, u_args, u_args0, u_c]
      rw [u_callB]
      simp only [u_args, u_args0]
      change wSeq (wCall PL.C.m_lots_of [(w_points (wVar 0))]) _ (fun ds => wLcGo (wgName 5) _ (wVar 5) (wipeR _ [3, 5]) ds [] _) E
      simp only [u_seqL, u_call, u_args, u_args0, u_points, u_var]
      refine ⟨_, rfl, _, _, rfl, sp_lots_of n hn ?_⟩
      show wLc [3, 5] (fun _ Q _ => Q ((lotsN n).map dLot)) (wgName 5) _ (wVar 5) _ _ E
      refine lc_enc dLot (lotsN n) (fun c => chk n L v c) dLot (fun Q hQ => hQ) (fun c hc K hK => ?_) ?_
      · unfold item
        rw [u_gName, u_tst, u_call]
        simp only [u_args, u_args0, u_var]
        refine ⟨_, rfl, _, rfl, _, rfl, sp_is_check ((mem_lotsN hn).mp hc) ⟨_, rfl, ?_⟩⟩
        cases hb : chk n L v c with
        | true =>
          refine ifT rfl ?_
          rw [if_pos hb] at hK
          exact ⟨_, rfl, hK⟩
        | false =>
          refine ifF rfl ?_
          rw [if_neg (by rw [hb]; decide)] at hK
          exact hK
      · rcases dual n L.length L rfl v hv with hc | ⟨c, c1, c2, c3⟩
        · exact absurd hc hv2
        · have ne : (lotsN n).filter (fun c => chk n L v c) ≠ [] := by
            have : c ∈ (lotsN n).filter fun c => chk n L v c := List.mem_filter.mpr ⟨(mem_lotsN hn).mpr c1, by
              unfold chk
              rw [c3, Bool.and_true, List.all_eq_true]
              intro q hq
              rw [c2 q hq]; rfl⟩
            exact List.ne_nil_of_mem this
          refine v_minLots ne (.inl rfl) fun m hm hmin => ?_
          obtain ⟨m1, m2⟩ := List.mem_filter.mp hm
          exact h' hv2 m ((mem_lotsN hn).mp m1) m2 fun y hy cy => hmin y (List.mem_filter.mpr ⟨(mem_lotsN hn).mpr hy, cy⟩)
end K77
end
section
set_option Elab.async false
set_option linter.all false
set_option maxRecDepth 100000
set_option maxHeartbeats 400000
set_option autoImplicit false
/-! k77: what the tests on anything answer -/
namespace K77
open PySem PySem.Spec L2 PL PL.C
open PyProof.Rows hiding St
variable {P : R → Prop} {E : XP}
def numsB (m : Int) : D → Bool
  | .tup xs => xs.all (withinB 0 (m - 1))
  | _ => false
theorem numsB_of {m : Int} {d : D} (h : numsB m d = true) : ∃ s : List Int, d = dLot s ∧ ∀ i ∈ s, 0 ≤ i ∧ i < m := by
  cases d with
  | tup xs =>
    unfold numsB at h
    rw [List.all_eq_true] at h
    have : ∀ ys : List D, (∀ x ∈ ys, withinB 0 (m - 1) x = true) → ∃ s : List Int, ys = s.map D.int ∧ ∀ i ∈ s, 0 ≤ i ∧ i < m := by
      intro ys
      induction ys with
      | nil => exact fun _ => ⟨[], rfl, fun i hi => by cases hi⟩
      | cons y ys ih =>
        intro hy
        obtain ⟨i, rfl, h0, h1⟩ := all_within (hy y (by simp))
        obtain ⟨s, e, hs⟩ := ih fun x hx => hy x (by simp [hx])
        exact ⟨i :: s, by rw [e]; rfl, fun j hj => by
          rcases List.mem_cons.mp hj with rfl | hj
          · exact ⟨h0, h1⟩
          · exact hs j hj⟩
    obtain ⟨s, e, hs⟩ := this xs h
    exact ⟨s, by rw [e]; rfl, hs⟩
  | _ => cases h
theorem numsB_iff {m : Int} {s : List Int} : numsB m (dLot s) = true ↔ ∀ i ∈ s, 0 ≤ i ∧ i < m := by
  constructor
  · intro h
    unfold numsB dLot at h
    rw [List.all_eq_true] at h
    intro i hi
    obtain ⟨j, e, h0, h1⟩ := all_within (h (.int i) (List.mem_map_of_mem hi))
    cases e
    exact ⟨h0, h1⟩
  · intro h
    unfold numsB dLot
    rw [List.all_eq_true]
    intro x hx
    obtain ⟨i, hi, rfl⟩ := List.mem_map.mp hx
    have := h i hi
    unfold withinB
    simp; omega
theorem sp_are_numbers (d : D) (nd : noObj d = true) (n : D) (L : List (List Int)) (h : P (.val (.bl (numsB L.length d)))) : m_are_numbers [dFam n (dLots L), d] P E := by
  unfold m_are_numbers b_are_numbers
  simp [-Bool.exists_bool, rho0, isTup_eq nd]
  cases d with
  | tup xs =>
    unfold noObj at nd
    simp [-Bool.exists_bool, D.isTup]
    refine all_lc (withinB 0 (L.length - 1)) xs (fun Q hq => by simpa using hq) (fun x hx K hk => ?_) h
    unfold item
    simp [-Bool.exists_bool, wipeR]
    refine ⟨_, _, ⟨rfl, rfl⟩, ?_⟩
    show lenW [.tup (L.map dLot)] _
    rw [v_lenT, List.length_map]
    show subW (.int L.length) (.int 1) _
    exact v_int.mpr (sp_is_within (P := fun r => K (some r.toD)) x (noObjs_mem nd hx) 0 (L.length - 1) hk)
  | _ => simp [D.isTup]; exact h
theorem sp_law_is_int (d : D) (nd : noObj d = true) (a b : Int) (h : P (.val (.bl (withinB a b d)))) : m__law_is_int [d, .int a, .int b] P E := by
  unfold m__law_is_int b__law_is_int
  cases d with
  | obj t ds => unfold noObj at nd; cases nd
  | raw a b ds => unfold noObj at nd; cases nd
  | int i =>
    simp [-Bool.exists_bool, rho0, ite_and]
    exact h
  | bl b => simp [rho0, isiD, tyD, kit_bi, kit_bb]; exact h
  | non => simp [rho0, isiD, tyD, kit_ni]; exact h
  | str x => simp [rho0, isiD, tyD, kit_si]; exact h
  | tup x => simp [rho0, isiD, tyD, kit_ti]; exact h
  | lst x => simp [rho0, isiD, tyD, kit_li]; exact h
  | dct t x => simp [rho0, isiD, tyD, kit_di]; exact h
theorem sp_law_is_rising (d : D) (nd : noObj d = true) (n : Int) (h : P (.val (.bl (isLotB n d)))) : m__law_is_rising [d, .int n] P E := by
  unfold m__law_is_rising b__law_is_rising
  simp [-Bool.exists_bool, rho0, isTup_eq nd]
  cases d with
  | tup xs =>
    unfold noObj at nd
    simp [-Bool.exists_bool, D.isTup]
    refine all_lc (withinB 0 (n - 1)) xs (fun Q hq => by simpa using hq) (fun x hx K hk => ?_) ?_
    · unfold item
      simp [-Bool.exists_bool, wipeR]
      exact sp_law_is_int x (noObjs_mem nd hx) _ _ hk
    · simp [-Bool.exists_bool]
      have eI : isLotB n (.tup xs) = (xs.all (withinB 0 (n - 1)) && (zipD xs (xs.drop 1)).all ltB) := rfl
      rw [eI] at h
      by_cases hw : ∀ x ∈ xs, withinB 0 (n - 1) x = true
      · rw [if_pos hw]
        have hw' : xs.all (withinB 0 (n - 1)) = true := List.all_eq_true.mpr hw
        rw [hw', Bool.true_and] at h
        refine all_lc ltB (zipD xs (xs.drop 1)) (fun Q hq => by simpa [cut1] using hq) (fun x hx K hk => ?_) h
        unfold item
        have hx2 := hx
        unfold zipD at hx2
        obtain ⟨⟨a, b⟩, hab, rfl⟩ := List.mem_map.mp hx2
        obtain ⟨ha, hb⟩ := mem_zip hab
        obtain ⟨i, rfl, _⟩ := all_within (hw a ha)
        obtain ⟨j, rfl, _⟩ := all_within (hw b (List.mem_of_mem_drop hb))
        simp [-Bool.exists_bool, wipeR]
        exact hk
      · rw [if_neg hw]
        have hw' : xs.all (withinB 0 (n - 1)) = false := by rw [← Bool.not_eq_true, List.all_eq_true]; exact hw
        rw [hw', Bool.false_and] at h
        exact h
  | _ => simp [D.isTup]; exact h
end K77
end
section
set_option Elab.async false
set_option linter.all false
set_option maxRecDepth 100000
set_option maxHeartbeats 400000
set_option autoImplicit false
/-! k77: checks, what is told -/
namespace K77
open PySem PySem.Spec L2 PL PL.C
open PyProof.Rows hiding St
variable {P : R → Prop} {E : XP}
theorem sp_law_is_odd {n : Nat} {a b : List Int} (ha : LOk n a) (h : P (.val (.bl (dot n a b)))) : m__law_is_odd [dLot a, dLot b] P E := by
  unfold m__law_is_odd b__law_is_odd
  rw [u_mOf, u_ret]
  simp only [u_bin, u_callB, u_args, u_args0, u_c]
  refine lc_enc D.int a (fun x => decide (x ∈ b)) (fun _ => D.int 1) (fun Q hQ => ?_) (fun x hx K hK => ?_) ?_
  · simp only [u_seqL, u_var]; exact ⟨_, rfl, hQ⟩
  · unfold item
    simp only [u_gName, u_tst, u_bin, u_var]
    refine ⟨_, rfl, _, rfl, v_inInts ⟨_, rfl, ?_⟩⟩
    by_cases hb : x ∈ b
    · refine ifT (decide_eq_true hb) ?_
      rw [if_pos (decide_eq_true hb)] at hK
      exact hK
    · refine ifF (decide_eq_false hb) ?_
      rw [if_neg (by simpa using hb)] at hK
      exact hK
  · show lenW [.lst ((a.filter fun x => decide (x ∈ b)).map fun _ => D.int 1)] _
    rw [v_lenL, List.length_map]
    show intW [.int _] _
    rw [v_intI]
    refine v_mod (by decide) (v_eqInt ?_)
    have md : decide ((((a.filter fun x => decide (x ∈ b)).length : Nat) : Int) % 2 = 1) = dot n a b := by
      rw [← dot_len ha, Bool.eq_iff_iff, decide_eq_true_eq, decide_eq_true_eq]; omega
    rw [md]
    exact h
theorem sp_law_checks {n : Nat} (hn : n ≤ 7) {L : List (List Int)} {v : List Int} (h : P (.own (((lotsA n).filter (chk n L v)).map dLot))) : m__law_checks [.int n, dLots L, dLot v] P E := by
  unfold m__law_checks b__law_checks
  rw [u_mOf, u_then, u_set]
  change wSeq (wCall PL.C.m__law_lots [(wVar 0)]) _ (fun ds => wLcGo (wgName 5) _ (wVar 5) (wipeR _ [4, 5]) ds [] _) E
  simp only [u_seqL, u_call, u_args, u_args0, u_var]
  refine ⟨_, rfl, sp_law_lots n hn ?_⟩
  show wLc [4, 5] (fun _ Q _ => Q ((lotsA n).map dLot)) (wgName 5) _ (wVar 5) _ _ E
  refine lc_enc dLot (lotsA n) (fun c => dot n c v) dLot (fun Q hQ => hQ) (fun c hc K hK => ?_) ?_
  · unfold item
    simp only [u_gName, u_tst, u_call, u_args, u_args0, u_var]
    refine ⟨_, rfl, _, rfl, sp_law_is_odd (mem_lotsA.mp hc) ⟨_, rfl, ?_⟩⟩
    cases hb : dot n c v with
    | true => refine ifT rfl ?_; rw [if_pos hb] at hK; exact ⟨_, rfl, hK⟩
    | false => refine ifF rfl ?_; rw [if_neg (by rw [hb]; decide)] at hK; exact hK
  · try dsimp only
    rw [u_ret]
    refine lc_enc dLot ((lotsA n).filter fun c => dot n c v) (fun c => L.all fun q => !dot n c q) dLot (fun Q hQ => ?_) (fun c hc K hK => ?_) ?_
    · simp only [u_seqL, u_var]; exact ⟨_, rfl, hQ⟩
    · have hcn := mem_lotsA.mp (List.mem_filter.mp hc).1
      unfold item
      rw [u_gName, u_notT, u_tst, u_callB]
      simp only [u_args, u_args0]
      refine any_enc dLot L (fun q => dot n c q) (fun Q hQ => ?_) (fun q hq K2 hK2 => ?_) ?_
      · simp only [u_seqL, u_var]; exact ⟨_, rfl, hQ⟩
      · unfold item
        simp only [u_gName, u_yes, if_true, u_call, u_args, u_args0, u_var]
        exact ⟨_, rfl, _, rfl, sp_law_is_odd hcn hK2⟩
      · refine ⟨_, rfl, ?_⟩
        have e : (L.all fun q => !dot n c q) = !(L.any fun q => dot n c q) := by rw [List.all_eq_not_any_not]; simp
        rw [e] at hK
        cases hb : (L.any fun q => dot n c q) with
        | true => refine ifF rfl ?_; rw [hb] at hK; rw [if_neg (by decide)] at hK; exact hK
        | false => refine ifT rfl ?_; rw [hb] at hK; rw [if_pos (by decide)] at hK; simp only [u_var]; exact ⟨_, rfl, hK⟩
    · rw [List.filter_filter]
      exact h
theorem isStr_eq : ∀ {d : D}, noObj d = true → isiD "str" d = some (match d with | .str _ => true | _ => false)
  | .non, _ => by decide +kernel
  | .bl _, _ => by show kitB "bool" "str" = some false; decide +kernel
  | .int _, _ => by show kitB "int" "str" = some false; decide +kernel
  | .str _, _ => by show kitB "str" "str" = some true; decide +kernel
  | .tup _, _ => by show kitB "tuple" "str" = some false; decide +kernel
  | .lst _, _ => by show kitB "list" "str" = some false; decide +kernel
  | .dct _ _, _ => by show kitB "dict" "str" = some false; decide +kernel
  | .obj _ _, h => by unfold noObj at h; cases h
  | .raw _ _ _, h => by unfold noObj at h; cases h
/-- what is_lit takes for an answer -/
def toldB (n : Nat) (L : List (List Int)) (v : List Int) : D → Bool
  | .tup [.str a, x] => if a = "check" then isLotB n x && chk n L v (unLot x) else if a = "press" then isLotB L.length x && decide (sumL n L (unLot x) = v) else false
  | _ => false
where
  unLot : D → List Int
    | .tup xs => xs.filterMap fun x => match x with | .int i => some i | _ => none
    | _ => []
theorem unLot_lot (s : List Int) : toldB.unLot (dLot s) = s := by
  show (s.map D.int).filterMap (fun x => match x with | .int i => some i | _ => none) = s
  induction s with
  | nil => rfl
  | cons i s ih => rw [List.map_cons, List.filterMap_cons]; simp only [ih]
theorem isLot_nums {m : Int} {s : List Int} (hs : ∀ i ∈ s, 0 ≤ i ∧ i < m) : isLotB m (dLot s) = (zipD (s.map D.int) ((s.map D.int).drop 1)).all ltB := by
  have e : isLotB m (dLot s) = (numsB m (dLot s) && (zipD (s.map D.int) ((s.map D.int).drop 1)).all ltB) := rfl
  rw [e, numsB_iff.mpr hs, Bool.true_and]
theorem isLot_nums0 {m : Int} {d : D} (h : numsB m d = false) : isLotB m d = false := by
  cases d with
  | tup xs =>
    have e : isLotB m (.tup xs) = (numsB m (.tup xs) && (zipD xs (xs.drop 1)).all ltB) := rfl
    rw [e, h, Bool.false_and]
  | _ => rfl
theorem zip_rises {s : List Int} {x : D} (hx : x ∈ zipD (s.map D.int) ((s.map D.int).drop 1)) : ∃ i j, x = .tup [.int i, .int j] := by
  unfold zipD at hx
  obtain ⟨⟨a, b⟩, hab, rfl⟩ := List.mem_map.mp hx
  obtain ⟨ha, hb⟩ := mem_zip hab
  obtain ⟨i, _, rfl⟩ := List.mem_map.mp ha
  obtain ⟨j, _, rfl⟩ := List.mem_map.mp (List.mem_of_mem_drop hb)
  exact ⟨i, j, rfl⟩
theorem toldB_tup {n : Nat} {L : List (List Int)} {v : List Int} {a : Str} {x : D} : toldB n L v (.tup [.str a, x]) = if a = "check" then isLotB n x && chk n L v (toldB.unLot x) else if a = "press" then isLotB L.length x && decide (sumL n L (toldB.unLot x) = v) else false := rfl
theorem tup2_of {d : D} (h : tupLenB 2 2 d = true) : ∃ y x, d = .tup [y, x] := by
  cases d with
  | tup xs =>
    unfold tupLenB at h
    simp only [Bool.and_eq_true, decide_eq_true_eq] at h
    match xs, h with
    | [y, x], _ => exact ⟨y, x, rfl⟩
    | [], h => simp at h
    | [_], h => simp at h
    | _ :: _ :: _ :: _, h => simp at h; omega
  | _ => cases h
theorem told_no {n : Nat} {L : List (List Int)} {v : List Int} {d : D} (h : tupLenB 2 2 d = false) : toldB n L v d = false := by
  unfold toldB
  split
  · exfalso; unfold tupLenB at h; simp at h
  · rfl
theorem sp_is_lit {n : Nat} (hn : n ≤ 7) {L : List (List Int)} (hL : ∀ q ∈ L, LOk n q) {v : List Int} (hv : LOk n v) (d : D) (nd : noObj d = true) (h : P (.val (.bl (toldB n L v d)))) : m_is_lit [dFam (.int n) (dLots L), dLot v, d] P E := by
  unfold m_is_lit b_is_lit
  rw [u_mOf, u_then, u_expr, u_call]
  simp only [u_args, u_args0, u_var]
  refine ⟨_, rfl, _, rfl, sp_check_lot hv ?_⟩
  rw [u_then, u_ifS, u_orT, u_notT, u_tst, u_call]
  simp only [u_args, u_args0, u_var, u_c]
  refine ⟨_, rfl, sp_is_tuple d nd 2 2 ⟨_, rfl, ?_⟩⟩
  cases ht : tupLenB 2 2 d with
  | false =>
    rw [told_no ht] at h
    refine ifT rfl ?_
    exact h
  | true =>
    obtain ⟨y, x, rfl⟩ := tup2_of ht
    have ny : noObj y = true := noObjs_mem (xs := [y, x]) nd (by simp)
    have nx : noObj x = true := noObjs_mem (xs := [y, x]) nd (by simp)
    refine ifF rfl ?_
    rw [u_notT, u_tst, u_isi, u_bin]
    simp only [u_var, u_c]
    refine ⟨_, rfl, v_ixT (i := 0) (d := y) rfl ⟨_, isStr_eq ny, ⟨_, rfl, ?_⟩⟩⟩
    cases y with
    | str a =>
      refine ifF rfl ?_
      rw [u_skip]
      try dsimp only
      rw [u_then, u_ifS, u_tst, u_bin]
      simp only [u_bin, u_var, u_c]
      refine ⟨_, rfl, v_ixT (i := 0) (d := .str a) rfl (v_eqS ⟨_, rfl, ?_⟩)⟩
      rw [toldB_tup] at h
      by_cases hc : a = "check"
      · refine ifT (decide_eq_true hc) ?_
        rw [if_pos hc] at h
        rw [u_ret, u_and, u_call]
        simp only [u_args, u_args0, u_points, u_bin, u_var, u_c]
        refine ⟨_, rfl, _, _, rfl, _, rfl, v_ixT (i := 1) (d := x) rfl (sp_is_lot_of x nx n ⟨_, rfl, ?_⟩)⟩
        cases hb : isLotB n x with
        | false => refine ifF rfl ?_; rw [hb, Bool.false_and] at h; exact h
        | true =>
          rw [hb, Bool.true_and] at h
          obtain ⟨q, rfl, hq⟩ := isLotB_of hb
          refine ifT rfl ?_
          rw [unLot_lot] at h
          rw [u_call]
          simp only [u_args, u_args0, u_bin, u_var, u_c]
          exact ⟨_, rfl, _, rfl, _, rfl, v_ixT (i := 1) (d := dLot q) rfl (sp_is_check hq h)⟩
      · refine ifF (decide_eq_false hc) ?_
        rw [if_neg hc] at h
        rw [u_skip]
        try dsimp only
        rw [u_then, u_ifS, u_orT, u_tst, u_bin]
        simp only [u_bin, u_var, u_c]
        refine ⟨_, rfl, v_ixT (i := 0) (d := .str a) rfl (v_neS ⟨_, rfl, ?_⟩)⟩
        by_cases hp : a = "press"
        · refine ifF (by simpa using hp) ?_
          rw [if_pos hp] at h
          rw [u_notT, u_tst, u_call]
          simp only [u_args, u_args0, u_bin, u_var, u_c]
          refine ⟨_, rfl, _, rfl, v_ixT (i := 1) (d := x) rfl (sp_are_numbers x nx _ L ⟨_, rfl, ?_⟩)⟩
          cases hb : numsB L.length x with
          | false =>
            rw [isLot_nums0 hb, Bool.false_and] at h
            refine ifT rfl ?_
            rw [u_ret]; exact h
          | true =>
            obtain ⟨s, rfl, hs⟩ := numsB_of hb
            rw [unLot_lot, isLot_nums hs] at h
            refine ifF rfl ?_
            rw [u_skip]
            try dsimp only
            rw [u_then, u_ifS, u_notT, u_tst, u_callB]
            simp only [u_args, u_args0]
            refine all_lc ltB (zipD (s.map D.int) ((s.map D.int).drop 1)) (fun Q hq => ?_) (fun x hx K hk => ?_) ?_
            · simp only [u_zip, u_args, u_args0, u_bin, u_slice, u_part, u_part0, u_var, u_c]
              refine ⟨_, rfl, v_ixT (i := 1) (d := dLot s) rfl ?_⟩
              refine ⟨_, rfl, v_ixT (i := 1) (d := dLot s) rfl ⟨_, rfl, ?_⟩⟩
              simpa [cut1, dLot] using hq
            · obtain ⟨i, j, rfl⟩ := zip_rises hx
              unfold item
              simp [-Bool.exists_bool, wipeR, rho0]
              exact hk
            · refine ⟨_, rfl, ?_⟩
              cases hz : (zipD (s.map D.int) ((s.map D.int).drop 1)).all ltB with
              | false =>
                rw [hz, Bool.false_and] at h
                refine ifT rfl ?_
                rw [u_ret]; exact h
              | true =>
                rw [hz, Bool.true_and] at h
                refine ifF rfl ?_
                rw [u_skip]
                try dsimp only
                rw [u_ret, u_bin, u_call]
                simp only [u_args, u_args0, u_bin, u_var, u_c, u_tup]
                refine ⟨_, rfl, _, rfl, v_ixT (i := 1) (d := dLot s) rfl (sp_behind (by omega) hL hs ?_)⟩
                exact ⟨_, rfl, v_eqLot h⟩
        · refine ifT (by simpa using hp) ?_
          rw [if_neg hp] at h
          exact h
    | _ =>
      refine ifT rfl ?_
      exact h
theorem sp_law_is_told {n : Nat} (hn : n ≤ 7) {L : List (List Int)} (hL : ∀ q ∈ L, LOk n q) {v : List Int} (hv : LOk n v) (d : D) (nd : noObj d = true) (h : P (.val (.bl (toldB n L v d)))) : m__law_is_told [.int n, dLots L, dLot v, d] P E := by
  unfold m__law_is_told b__law_is_told
  rw [u_mOf, u_then, u_ifS, u_notT, u_tst, u_isi]
  simp only [u_var]
  refine ⟨_, rfl, _, isTup_eq nd, _, rfl, ?_⟩
  have no : (¬ ∃ xs, d = .tup xs) → P (.val (.bl false)) := fun hx => by
    have e : toldB n L v d = false := by
      unfold toldB
      split
      · exact absurd ⟨_, rfl⟩ hx
      · rfl
    rw [e] at h; exact h
  cases d with
  | tup xs =>
    refine ifF rfl ?_
    rw [u_skip]
    try dsimp only
    rw [u_then, u_ifS, u_tst, u_bin, u_callB]
    simp only [u_args, u_args0, u_var, u_c]
    refine ⟨_, rfl, ?_⟩
    show lenW [.tup xs] _
    rw [v_lenT]
    refine v_neInt ⟨_, rfl, ?_⟩
    by_cases hl : xs.length = 2
    · refine ifF (by simp [hl]) ?_
      obtain ⟨y, x, e⟩ := tup2_of (d := .tup xs) (by unfold tupLenB; simp [hl])
      cases e
      have ny : noObj y = true := noObjs_mem (xs := [y, x]) nd (by simp)
      have nx : noObj x = true := noObjs_mem (xs := [y, x]) nd (by simp)
      rw [u_skip]
      try dsimp only
      rw [u_then, u_ifS, u_notT, u_tst, u_isi, u_bin]
      simp only [u_var, u_c]
      refine ⟨_, rfl, v_ixT (i := 0) (d := y) rfl ⟨_, isStr_eq ny, ⟨_, rfl, ?_⟩⟩⟩
      cases y with
      | str a =>
        refine ifF rfl ?_
        rw [u_skip]
        try dsimp only
        rw [u_then, u_ifS, u_tst, u_bin]
        simp only [u_bin, u_var, u_c]
        refine ⟨_, rfl, v_ixT (i := 0) (d := .str a) rfl (v_eqS ⟨_, rfl, ?_⟩)⟩
        rw [toldB_tup] at h
        by_cases hp : a = "press"
        · refine ifT (decide_eq_true hp) ?_
          rw [if_neg (by rw [hp]; decide), if_pos hp] at h
          rw [u_then, u_ifS, u_notT, u_tst, u_call]
          simp only [u_args, u_args0, u_callB, u_bin, u_var, u_c]
          refine ⟨_, rfl, v_ixT (i := 1) (d := x) rfl ⟨_, rfl, ?_⟩⟩
          show lenW [.tup (L.map dLot)] _
          rw [v_lenT, List.length_map]
          refine sp_law_is_rising x nx _ ⟨_, rfl, ?_⟩
          cases hb : isLotB L.length x with
          | false =>
            rw [hb, Bool.false_and] at h
            refine ifT rfl ?_
            rw [u_ret]; exact h
          | true =>
            rw [hb, Bool.true_and] at h
            obtain ⟨s, rfl, hs⟩ := isLotB_of hb
            rw [unLot_lot] at h
            refine ifF rfl ?_
            rw [u_skip]
            try dsimp only
            rw [u_ret, u_bin, u_call]
            simp only [u_args, u_args0, u_bin, u_var, u_c]
            refine ⟨_, rfl, _, rfl, v_ixT (i := 1) (d := dLot s) rfl (sp_law_lit (by omega) hL hs.1 ?_)⟩
            exact ⟨_, rfl, v_eqLot h⟩
        · refine ifF (decide_eq_false hp) ?_
          rw [u_skip]
          try dsimp only
          rw [u_then, u_ifS, u_notT, u_tst, u_bin]
          simp only [u_bin, u_var, u_c]
          refine ⟨_, rfl, v_ixT (i := 0) (d := .str a) rfl (v_eqS ⟨_, rfl, ?_⟩)⟩
          by_cases hc : a = "check"
          · refine ifF (by simpa using hc) ?_
            rw [if_pos hc] at h
            rw [u_skip]
            try dsimp only
            rw [u_then, u_ifS, u_notT, u_tst, u_call]
            simp only [u_args, u_args0, u_bin, u_var, u_c]
            refine ⟨_, rfl, v_ixT (i := 1) (d := x) rfl ⟨_, rfl, ?_⟩⟩
            refine sp_law_is_rising x nx _ ⟨_, rfl, ?_⟩
            cases hb : isLotB n x with
            | false =>
              rw [hb, Bool.false_and] at h
              refine ifT rfl ?_
              rw [u_ret]; exact h
            | true =>
              rw [hb, Bool.true_and] at h
              obtain ⟨q, rfl, hq⟩ := isLotB_of hb
              rw [unLot_lot] at h
              refine ifF rfl ?_
              rw [u_skip]
              try dsimp only
              rw [u_ret, u_bin]
              simp only [u_call, u_args, u_args0, u_bin, u_var, u_c]
              refine ⟨_, rfl, v_ixT (i := 1) (d := dLot q) rfl ⟨_, rfl, _, rfl, _, rfl, sp_law_checks hn ?_⟩⟩
              refine v_inLots ?_
              have e : decide (q ∈ (lotsA n).filter (chk n L v)) = chk n L v q := by
                rw [Bool.eq_iff_iff, decide_eq_true_eq, List.mem_filter, mem_lotsA]
                exact ⟨fun h => h.2, fun h => ⟨hq, h⟩⟩
              rw [e]; exact h
          · refine ifT (by simpa using hc) ?_
            rw [if_neg hc, if_neg hp] at h
            rw [u_ret]; exact h
      | _ =>
        refine ifT rfl ?_
        rw [u_ret]; exact h
    · refine ifT (by rw [decide_eq_true_eq]; omega) ?_
      have e : toldB n L v (.tup xs) = false := told_no (by
        unfold tupLenB
        rw [Bool.and_eq_false_iff, decide_eq_false_iff_not, decide_eq_false_iff_not]; omega)
      rw [e] at h
      rw [u_ret]; exact h
  | _ =>
    refine ifT rfl ?_
    rw [u_ret]
    exact no (fun ⟨xs, e⟩ => by cases e)
end K77
end
section
set_option Elab.async false
set_option linter.all false
set_option maxRecDepth 100000
set_option maxHeartbeats 0
set_option autoImplicit false
/-! k77: a drawn family; the refusal -/
namespace K77
open PySem PySem.Spec L2 PL PL.C
open PyProof.Rows hiding St
variable {P : R → Prop} {E : XP}
theorem sp_law_family (n : Nat) (h1 : 1 ≤ n) (h6 : n ≤ 6) (h : ∀ M : List (List Int), M.Sublist (lotsA n) → P (.val (dLots M))) : m__law_family [dHand, .int n] P E := by
  unfold m__law_family b__law_family
  rw [u_mOf, u_then, u_asg]
  simp only [u_tup, u_args, u_args0, u_call, u_var, u_c, u_bin]
  refine ⟨_, rfl, ?_⟩
  refine sp_law_lots n (by omega) ⟨_, rfl, ?_⟩
  refine sp_draw 7 (by decide) (by decide) fun kind k0 k1 => ⟨_, rfl, ?_⟩
  refine sp_draw 3 (by decide) (by decide) fun rare r0 r1 => ?_
  refine ⟨_, rfl, rfl, ?_⟩
  try dsimp only
  rw [u_then, u_set]
  refine lc_some dLot (lotsA n) (fun _ => True) (fun Q hQ => ?_) (fun q hq K kn ky => ?_) fun S hS _ => ?_
  · simp only [u_seqL, u_var]; exact ⟨_, rfl, hQ⟩
  · unfold item
    rw [u_gName, u_tst, u_bin, u_call]
    simp only [u_args, u_args0, u_var, u_c]
    refine ⟨_, rfl, _, rfl, ?_⟩
    refine sp_draw (2 + rare) (by omega) (by omega) fun k _ _ => v_eqInt ⟨_, rfl, ?_⟩
    by_cases e : k = 0
    · exact ifT (decide_eq_true e) ⟨_, rfl, ky trivial⟩
    · exact ifF (decide_eq_false e) kn
  have tupOf : ∀ (M : List (List Int)), M.Sublist (lotsA n) → tupleW [.lst (M.map dLot)] P := fun M hM => by
    rw [v_tupleL]; exact h M hM
  try dsimp only
  rw [u_then, u_ifS, u_tst, u_bin]
  simp only [u_var, u_c]
  refine ⟨_, rfl, v_eqInt ⟨_, rfl, ?_⟩⟩
  by_cases hk0 : kind = 0
  · refine ifT (decide_eq_true hk0) ?_
    rw [u_then, u_set, u_call]
    simp only [u_args, u_args0, u_bin, u_var, u_c]
    refine ⟨_, rfl, _, rfl, ?_⟩
    refine sp_draw ((n : Int) + 1) (by omega) (by omega) fun size s0 s1 => ?_
    try dsimp only
    rw [u_ret, u_callB]
    simp only [u_args, u_args0]
    refine lc_some dLot (lotsA n) (fun _ => True) (fun Q hQ => ?_) (fun q hq K kn ky => ?_) fun M hM _ => tupOf M hM
    · simp only [u_seqL, u_var]; exact ⟨_, rfl, hQ⟩
    · unfold item
      rw [u_gName, u_andT, u_tst, u_bin, u_callB]
      simp only [u_args, u_args0, u_var]
      refine ⟨_, rfl, ?_⟩
      show lenW [dLot q] _
      rw [lenLot]
      refine ⟨_, rfl, v_eqInt ⟨_, rfl, ?_⟩⟩
      by_cases e : (q.length : Int) = size
      · refine ifT (decide_eq_true e) ?_
        rw [u_tst, u_bin, u_call]
        simp only [u_args, u_args0, u_var, u_c]
        refine ⟨_, rfl, ?_⟩
        refine sp_draw 3 (by decide) (by decide) fun k _ _ => v_gtInt ⟨_, rfl, ?_⟩
        by_cases e : (0 : Int) < k
        · exact ifT (decide_eq_true e) ⟨_, rfl, ky trivial⟩
        · exact ifF (decide_eq_false e) kn
      · refine ifF (decide_eq_false e) ?_
        exact ifF rfl kn
  · refine ifF (decide_eq_false hk0) ?_
    rw [u_skip]
    try dsimp only
    rw [u_then, u_ifS, u_tst, u_bin]
    simp only [u_var, u_c]
    refine ⟨_, rfl, v_eqInt ⟨_, rfl, ?_⟩⟩
    by_cases hk1 : kind = 1
    · refine ifT (decide_eq_true hk1) ?_
      rw [u_then, u_set, u_slice]
      simp only [u_part0, u_part, u_var, u_c]
      refine ⟨_, rfl, 3, rfl, ?_⟩
      show sliceW (.lst (S.map dLot)) none (some ((3 : Nat) : Int)) _
      rw [v_sliceL, cutTo, ← List.map_take]
      try dsimp only
      rw [u_ret, u_callB]
      simp only [u_args, u_args0]
      refine lc_enc dLot (lotsA n) (fun q => (S.take 3).any fun one => decide (∀ x ∈ q, x ∈ one)) dLot (fun Q hQ => ?_) (fun q hq K hK => ?_) (tupOf _ List.filter_sublist)
      · simp only [u_seqL, u_var]; exact ⟨_, rfl, hQ⟩
      · unfold item
        rw [u_gName, u_tst, u_callB]
        simp only [u_args, u_args0]
        refine any_enc dLot (S.take 3) (fun one => decide (∀ x ∈ q, x ∈ one)) (fun Q hQ => ?_) (fun one ho K2 hK2 => ?_) ?_
        · simp only [u_seqL, u_var]; exact ⟨_, rfl, hQ⟩
        · unfold item
          simp only [u_gName, u_yes, if_true, u_call, u_args, u_args0, u_var]
          exact ⟨_, rfl, _, rfl, sp_law_in q one hK2⟩
        · refine ⟨_, rfl, ?_⟩
          cases hb : ((S.take 3).any fun one => decide (∀ x ∈ q, x ∈ one)) with
          | true =>
            rw [if_pos hb] at hK
            exact ifT rfl ⟨_, rfl, hK⟩
          | false =>
            rw [if_neg (by rw [hb]; decide)] at hK
            exact ifF rfl hK
    · refine ifF (decide_eq_false hk1) ?_
      rw [u_skip]
      try dsimp only
      rw [u_then, u_ifS, u_tst, u_bin]
      simp only [u_var, u_c]
      refine ⟨_, rfl, v_eqInt ⟨_, rfl, ?_⟩⟩
      by_cases hk2 : kind = 2
      · refine ifT (decide_eq_true hk2) ?_
        rw [u_then, u_set, u_slice]
        simp only [u_part0, u_part, u_var, u_c]
        refine ⟨_, rfl, 3, rfl, ?_⟩
        show sliceW (.lst (S.map dLot)) none (some ((3 : Nat) : Int)) _
        rw [v_sliceL, cutTo, ← List.map_take]
        try dsimp only
        rw [u_ret, u_callB]
        simp only [u_args, u_args0]
        refine lc_enc dLot (lotsA n) (fun q => (S.take 3).any fun one => decide (∀ x ∈ one, x ∈ q)) dLot (fun Q hQ => ?_) (fun q hq K hK => ?_) (tupOf _ List.filter_sublist)
        · simp only [u_seqL, u_var]; exact ⟨_, rfl, hQ⟩
        · unfold item
          rw [u_gName, u_tst, u_callB]
          simp only [u_args, u_args0]
          refine any_enc dLot (S.take 3) (fun one => decide (∀ x ∈ one, x ∈ q)) (fun Q hQ => ?_) (fun one ho K2 hK2 => ?_) ?_
          · simp only [u_seqL, u_var]; exact ⟨_, rfl, hQ⟩
          · unfold item
            simp only [u_gName, u_yes, if_true, u_call, u_args, u_args0, u_var]
            exact ⟨_, rfl, _, rfl, sp_law_in one q hK2⟩
          · refine ⟨_, rfl, ?_⟩
            cases hb : ((S.take 3).any fun one => decide (∀ x ∈ one, x ∈ q)) with
            | true =>
              rw [if_pos hb] at hK
              exact ifT rfl ⟨_, rfl, hK⟩
            | false =>
              rw [if_neg (by rw [hb]; decide)] at hK
              exact ifF rfl hK
      · refine ifF (decide_eq_false hk2) ?_
        rw [u_skip]
        try dsimp only
        rw [u_ret, u_if, u_tst, u_bin]
        simp only [u_var, u_c]
        refine ⟨_, rfl, v_eqInt ⟨_, rfl, ?_⟩⟩
        by_cases hk3 : kind = 3
        · refine ifT (decide_eq_true hk3) ?_
          rw [u_callB]
          simp only [u_args, u_args0]
          rw [u_slice]
          simp only [u_part0, u_part, u_var, u_c, u_call, u_args, u_args0]
          refine ⟨_, rfl, _, rfl, ?_⟩
          refine sp_draw 7 (by decide) (by decide) fun k g0 g1 => ⟨k, rfl, ?_⟩
          obtain ⟨m, rfl⟩ := Int.eq_ofNat_of_zero_le g0
          show sliceW (.lst (S.map dLot)) none (some (m : Int)) _
          rw [v_sliceL, cutTo, ← List.map_take]
          exact tupOf _ ((List.take_sublist _ _).trans hS)
        · refine ifF (decide_eq_false hk3) ?_
          rw [u_callB]
          simp only [u_args, u_args0, u_var]
          exact ⟨_, rfl, tupOf _ hS⟩
/-! ### all of four points; the refusal -/
theorem sp_all_of4 (h : ∀ M : List (List Int), M.length = 16 → P (.val (dFam (.int 4) (dLots M)))) : m_all_of [.int 4] P E := by
  unfold m_all_of b_all_of
  rw [u_mOf, u_then, u_expr, u_call]
  simp only [u_args, u_args0, u_var]
  refine ⟨_, rfl, ?_⟩
  unfold m_check_count b_check_count
  rw [u_mOf, u_ifS, u_notT, u_tst, u_call]
  simp only [u_args, u_args0, u_var]
  refine ⟨_, rfl, sp_is_count 4 ⟨_, rfl, ?_⟩⟩
  refine ifF (by decide) ?_
  rw [u_skip]
  try dsimp only
  rw [u_ret, u_call]
  simp only [u_args, u_args0, u_var, u_call]
  refine ⟨_, rfl, _, rfl, sp_lots_of 4 (by decide) ?_⟩
  show PL.C.m_made [.int 4, .lst ((lotsN 4).map dLot)] _ _
  unfold PL.C.m_made PL.C.b_made
  rw [u_mOf, u_ret, u_family]
  simp only [u_args, u_args0, u_var]
  refine ⟨_, rfl, ?_⟩
  rw [u_callB]
  simp only [u_args, u_args0]
  rw [u_sortSet]
  simp only [u_var]
  refine ⟨_, rfl, ?_⟩
  have hl : ∀ q ∈ lotsN 4, LOk 4 q := fun q hq => (mem_lotsN (n := 4) (by decide)).mp hq
  refine v_setLotsK (n := 4) (by decide) hl (.inl rfl) fun M ds asc mem es el => ?_
  rw [es]
  show tupleW [.lst (M.map dLot)] _
  rw [v_tupleL]
  have hM : ∀ q ∈ M, LOk 4 q := fun q hq => hl q ((mem q).mp hq)
  have e : M.length = 16 := by
    have p1 : M.Perm (lotsU 4) := (List.perm_ext_iff_of_nodup (asc_nodup asc) (lotsU_nodup 4)).mpr fun q => by rw [mem q, (lotsN_ok 4 (by decide)).mem_iff]
    rw [p1.length_eq]; rfl
  exact ⟨_, _, rfl, fok_of (n := 4) (by decide) (by decide) hM asc, h M e⟩
/-! ### deep things -/
theorem sp_law_deep (h : ∀ d, noObj d = true → P (.val d)) : m__law_deep [dHand] P E := by
  unfold m__law_deep b__law_deep
  simp only [u_mOf, u_then, u_set, u_call, u_lst, u_args, u_args0, u_var, u_c]
  refine ⟨_, rfl, sp_some _ (by simp) (by simp) fun d0 hd0 => ?_⟩
  have n0 : noObj d0 = true := by
    simp only [List.nil_append, List.cons_append, List.mem_cons, List.not_mem_nil, or_false] at hd0
    rcases hd0 with rfl | rfl | rfl <;> (unfold noObj; rfl)
  simp only [wFor, u_rng1, u_bin, u_call, u_args, u_args0, u_var, u_c]
  refine ⟨_, rfl, ?_⟩
  refine sp_draw 18 (by decide) (by decide) fun k k0 k1 => ?_
  show addW (.int 18) (.int k) _
  rw [PL.v_add]
  refine ⟨18 + k, rfl, by omega, by omega, ?_⟩
  have key : ∀ (rest : List D) (d : D) (x : Option R), noObj d = true → wForGo (wgName 2) (wSet 1 (wCall PL.C.m__law_some [(wVar 0), (wLst [(wTup [(wVar 1)]), (wLst [(wVar 1)]), (wDisp1 (wC (.int 0)) (wVar 1))])]))
      { nx := fun ρ' => wRet (wVar 1) { nx := fun _ => P (.val .non), rt := P, bk := fun _ => False, ct := fun _ => False } E ρ', rt := P, bk := fun _ => False, ct := fun _ => False } E rest [some (.val dHand), some (.val d), x] := by
    intro rest
    induction rest with
    | nil =>
      intro d x b
      show wRet (wVar 1) _ E _
      simp only [u_ret, u_var]
      exact ⟨_, rfl, h d b⟩
    | cons y rest ih =>
      intro d x b
      show wgName 2 y _ _
      simp only [u_gName, u_set, u_call, u_lst, u_tup, u_disp1, u_args, u_args0, u_var, u_c]
      refine ⟨_, rfl, _, rfl, _, rfl, _, rfl, .inl 0, rfl, ?_⟩
      refine sp_some _ (by simp) (by simp) fun z hz => ?_
      refine ih z _ ?_
      simp only [List.nil_append, List.cons_append, List.mem_cons, List.not_mem_nil, or_false] at hz
      rcases hz with rfl | rfl | rfl
      · simp [noObj, noObjs, b]
      · simp [noObj, noObjs, b]
      · simp [noObj, noObjk, b]
  exact key _ d0 none n0
/-! ### the word of an act -/
def wordOf (x : Exc) : D := if x.cls = "NoLot" then .str "lot" else if x.cls = "NoSwitches" then .str "switches" else .tup [.str "many", .int 12]
def Odd (x : Exc) : Prop := x = ⟨"NoLot", []⟩ ∨ x = ⟨"NoSwitches", []⟩ ∨ x = ⟨"TooMany", [("most", .int 12)]⟩
end K77
end
section
set_option Elab.async false
set_option linter.all false
set_option maxRecDepth 100000
set_option maxHeartbeats 400000
set_option autoImplicit false
/-! k77: the word of an act -/
namespace K77
open PySem PySem.Spec L2 PL PL.C
open PyProof.Rows hiding St
variable {P : R → Prop} {E : XP}
theorem sp_word {x : Exc} (hx : Odd x) {act : WA} (ha : ∀ (P : R → Prop) (E : XP), E x → act P E) (h : P (.val (wordOf x))) : m__law_word act P := by
  intro f
  unfold b__law_word
  rw [u_then, u_set, u_c]
  try dsimp only
  rw [u_then]
  refine ⟨fun r hr => ?_, rfl, ha _ _ ⟨?_, fun a dx => ?_⟩⟩
  · have : r = R.val (.raw f none []) ∨ r = R.val (.str "let") := by
      have hr' : some r ∈ [some (R.val (.raw f none [])), some (R.val (.str "let")), none, none] := hr
      simpa using hr'
    rcases this with rfl | rfl <;> rfl
  · rcases hx with rfl | rfl | rfl <;> decide
  · try dsimp only
    rw [u_then, u_setO, u_lst, u_args0]
    try dsimp only
    rw [u_then]
    refine ⟨[], rfl, ?_⟩
    rw [u_lst, u_args]
    refine ⟨rfl, ?_⟩
    try dsimp only
    rw [u_args]
    refine ⟨rfl, ?_⟩
    try dsimp only
    rw [u_args0]
    refine ⟨_, rfl, by rw [sizeLine_eq]; simp, ?_⟩
    try dsimp only
    rw [u_then]
    refine ⟨_, rfl, ?_⟩
    rw [u_lst, u_args]
    refine ⟨rfl, ?_⟩
    try dsimp only
    rw [u_args0]
    refine ⟨_, rfl, by rw [sizeLine_eq]; simp, ?_⟩
    try dsimp only
    rw [u_then, u_set, u_c]
    try dsimp only
    rw [u_then, u_ifS, u_borT]
    refine ⟨_, rfl, rfl, ?_⟩
    try dsimp only
    rw [u_andT, u_tst, u_bin]
    have cnt : ([isaT x.cls "NoLot", isaT x.cls "NoSwitches", isaT x.cls "TooMany"] : List Bool).count true = 1 := by
      rcases hx with rfl | rfl | rfl <;> decide
    refine ⟨_, rfl, ⟨_, rfl⟩, ?_⟩
    try dsimp only
    rw [u_c]
    refine ⟨[isaT x.cls "NoLot", isaT x.cls "NoSwitches", isaT x.cls "TooMany"], true, rfl, rfl, ?_⟩
    rw [cnt]
    try dsimp only
    rw [u_c]
    refine v_eqInt ⟨_, rfl, ifT (by decide) ?_⟩
    try dsimp only
    rw [u_tst]
    refine ⟨rfl, _, rfl, ifT rfl ?_⟩
    try dsimp only
    rw [u_set, u_bor]
    refine ⟨_, rfl, rfl, ?_⟩
    try dsimp only
    rw [u_bin, u_lst]
    simp only [u_args, u_args0, u_c]
    refine ⟨_, rfl, ⟨_, rfl⟩, ?_⟩
    try dsimp only
    refine ⟨[isaT x.cls "NoLot", isaT x.cls "NoSwitches", isaT x.cls "TooMany"], true, rfl, rfl, ?_, ?_⟩
    · rcases hx with rfl | rfl | rfl <;> decide
    · rcases hx with rfl | rfl | rfl
      · refine v_ix (i := 0) (d := .str "lot") rfl ⟨rfl, ?_⟩
        try dsimp only
        rw [u_set, u_if, u_tst, u_bin]
        simp only [u_var, u_c]
        refine ⟨_, rfl, v_eqS ⟨_, rfl, ifF (by decide) ?_⟩⟩
        refine ⟨_, rfl, ?_⟩
        rw [u_ret, u_var]
        exact ⟨_, rfl, h⟩
      · refine v_ix (i := 1) (d := .str "switches") rfl ⟨rfl, ?_⟩
        try dsimp only
        rw [u_set, u_if, u_tst, u_bin]
        simp only [u_var, u_c]
        refine ⟨_, rfl, v_eqS ⟨_, rfl, ifF (by decide) ?_⟩⟩
        refine ⟨_, rfl, ?_⟩
        rw [u_ret, u_var]
        exact ⟨_, rfl, h⟩
      · refine v_ix (i := 2) (d := .str "many") rfl ⟨rfl, ?_⟩
        try dsimp only
        rw [u_set, u_if, u_tst, u_bin]
        simp only [u_var, u_c]
        refine ⟨_, rfl, v_eqS ⟨_, rfl, ifT (by decide) ?_⟩⟩
        rw [u_tup]
        simp only [u_args, u_args0, u_var]
        refine ⟨_, rfl, rfl, _, _, rfl, ?_⟩
        try dsimp only
        rw [u_ret, u_var]
        exact ⟨_, rfl, h⟩
end K77
end
section
set_option Elab.async false
set_option linter.all false
set_option maxRecDepth 100000
set_option maxHeartbeats 400000
set_option autoImplicit false
/-! k77: what is refused, and what is pressed -/
namespace K77
open PySem PySem.Spec L2 PL PL.C
open PyProof.Rows hiding St
variable {P : R → Prop} {E : XP}
theorem sp_check_lot_bad {n : Nat} {F : D} {d : D} (nd : noObj d = true) (hb : isLotB n d = false) (h : E ⟨"NoLot", []⟩) : m_check_lot [dFam (.int n) F, d] P E := by
  unfold m_check_lot b_check_lot
  rw [u_mOf, u_ifS, u_notT, u_tst, u_call]
  simp only [u_args, u_args0, u_points, u_var]
  refine ⟨_, rfl, _, _, rfl, _, rfl, sp_is_lot_of d nd n ⟨_, rfl, ?_⟩⟩
  refine ifT (by rw [hb]; rfl) ?_
  exact h
theorem sp_pressed_bad {n : Nat} {L : List (List Int)} {d e : D} (nd : noObj d = true) (hb : numsB L.length d = false) (h : E ⟨"NoSwitches", []⟩) : m_pressed [dFam (.int n) (dLots L), d, e] P E := by
  unfold m_pressed b_pressed
  rw [u_mOf, u_then, u_ifS, u_notT, u_tst, u_call]
  simp only [u_args, u_args0, u_var]
  refine ⟨_, rfl, _, rfl, sp_are_numbers d nd _ L ⟨_, rfl, ?_⟩⟩
  refine ifT (by rw [hb]; rfl) ?_
  exact h
theorem sp_pressed_badL {n : Nat} {L : List (List Int)} {s : List Int} {e : D} (hs : ∀ i ∈ s, 0 ≤ i ∧ i < L.length) (ne : noObj e = true) (hb : isLotB n e = false) (h : E ⟨"NoLot", []⟩) : m_pressed [dFam (.int n) (dLots L), dLot s, e] P E := by
  unfold m_pressed b_pressed
  rw [u_mOf, u_then, u_ifS, u_notT, u_tst, u_call]
  simp only [u_args, u_args0, u_var]
  refine ⟨_, rfl, _, rfl, sp_are_numbers (dLot s) (noObj_lot s) _ L ⟨_, rfl, ?_⟩⟩
  refine ifF (by rw [numsB_iff.mpr hs]; rfl) ?_
  rw [u_skip]
  try dsimp only
  rw [u_then, u_expr, u_call]
  simp only [u_args, u_args0, u_var]
  exact ⟨_, rfl, _, rfl, sp_check_lot_bad ne hb h⟩
theorem sp_pressed {n : Nat} (hn : n ≤ 1000) {L : List (List Int)} (hL : ∀ q ∈ L, LOk n q) {s v : List Int} (hs : ∀ i ∈ s, 0 ≤ i ∧ i < L.length) (hv : LOk n v) (h : P (.val (dLot (sumF n L v s)))) : m_pressed [dFam (.int n) (dLots L), dLot s, dLot v] P E := by
  unfold m_pressed b_pressed
  rw [u_mOf, u_then, u_ifS, u_notT, u_tst, u_call]
  simp only [u_args, u_args0, u_var]
  refine ⟨_, rfl, _, rfl, sp_are_numbers (dLot s) (noObj_lot s) _ L ⟨_, rfl, ?_⟩⟩
  refine ifF (by rw [numsB_iff.mpr hs]; rfl) ?_
  rw [u_skip]
  try dsimp only
  rw [u_then, u_expr, u_call]
  simp only [u_args, u_args0, u_var]
  refine ⟨_, rfl, _, rfl, sp_check_lot hv ?_⟩
  try dsimp only
  rw [u_ret, u_call]
  simp only [u_args, u_args0, u_var]
  exact ⟨_, rfl, _, rfl, _, rfl, sp_behindG hn hL hs hv h⟩
theorem sp_lit_bad {n : Nat} {F : D} {d : D} (nd : noObj d = true) (hb : isLotB n d = false) (h : E ⟨"NoLot", []⟩) : m_lit [dFam (.int n) F, d] P E := by
  unfold m_lit b_lit
  rw [u_mOf, u_then, u_expr, u_call]
  simp only [u_args, u_args0, u_var]
  exact ⟨_, rfl, _, rfl, sp_check_lot_bad nd hb h⟩
theorem sp_is_lit_bad {n : Nat} {F : D} {d e : D} (nd : noObj d = true) (hb : isLotB n d = false) (h : E ⟨"NoLot", []⟩) : m_is_lit [dFam (.int n) F, d, e] P E := by
  unfold m_is_lit b_is_lit
  rw [u_mOf, u_then, u_expr, u_call]
  simp only [u_args, u_args0, u_var]
  exact ⟨_, rfl, _, rfl, sp_check_lot_bad nd hb h⟩
end K77
end
section
set_option Elab.async false
set_option linter.all false
set_option maxRecDepth 100000
set_option maxHeartbeats 400000
set_option autoImplicit false
namespace K77
open PySem PySem.Spec L2 PL PL.C
open PyProof.Rows hiding St
local macro_rules | `(tactic| fail) => `(tactic| first
  | ((with_reducible refine g_var ?_); (with_reducible apply i_var); exact rfl) | with_reducible refine i_then ?_ | with_reducible refine i_item ?_ | with_reducible refine i_set ?_ | with_reducible refine i_c ?_ | with_reducible refine i_bin ?_
  | with_reducible refine i_call ?_ | with_reducible refine i_callB ?_ | with_reducible refine i_wA ?_ | with_reducible refine i_wA0 ?_ | with_reducible refine i_ifS ?_ | with_reducible refine i_tst ?_
  | with_reducible refine i_notT ?_ | with_reducible refine i_ret ?_ | with_reducible refine i_skip ?_ | with_reducible refine i_bl ?_ | with_reducible refine i_int ?_ | with_reducible refine i_points ?_
  | with_reducible refine i_lots ?_ | with_reducible refine i_fam ?_ | with_reducible refine i_tup ?_ | with_reducible refine i_lst ?_ | with_reducible refine i_setO ?_ | with_reducible refine i_expr ?_
  | with_reducible refine i_andT ?_ | with_reducible refine i_orT ?_ | with_reducible refine i_and ?_ | with_reducible refine i_or ?_ | with_reducible refine i_not ?_ | with_reducible refine i_yes ?_
  | with_reducible refine i_if ?_ | with_reducible refine i_gName ?_ | with_reducible refine i_seq ?_ | with_reducible refine j_seqLot ?_ | with_reducible refine j_seqLots ?_ | with_reducible refine j_seqLst ?_
  | with_reducible refine j_seqTup ?_ | with_reducible refine i_args ?_ | with_reducible refine i_slice ?_ | with_reducible refine i_part0 ?_ | with_reducible refine i_part ?_ | with_reducible refine i_family ?_
  | with_reducible refine i_asg ?_ | with_reducible refine i_par ?_ | with_reducible refine i_par3 ?_ | with_reducible refine i_val ?_ | with_reducible refine i_neg ?_ | with_reducible refine i_isi ?_
  | with_reducible refine i_chain ?_ | with_reducible refine i_vbl ?_ | with_reducible refine i_meth0 ?_ | with_reducible refine i_newD ?_ | with_reducible refine i_zip ?_ | with_reducible refine i_rng1 ?_
  | with_reducible refine i_rng2 ?_ | with_reducible refine i_sortSet ?_ | with_reducible refine i_lenSet ?_ | with_reducible refine i_rev ?_ | with_reducible refine i_revLot ?_ | with_reducible refine i_revL ?_
  | with_reducible refine i_revT ?_ | with_reducible refine i_disp1 ?_ | with_reducible refine i_retN ?_ | with_reducible refine i_brk ?_ | with_reducible refine i_cnt ?_ | with_reducible refine i_raise0 ?_
  | with_reducible refine i_raise1 ?_ | ((with_reducible refine g_retV ?_); (with_reducible apply i_retV); exact rfl) | ((with_reducible refine g_frz ?_); (with_reducible apply i_frz); exact rfl) | ((with_reducible refine g_app ?_); (with_reducible apply i_app); exact rfl) | ((with_reducible refine g_ext ?_); (with_reducible apply i_ext); exact rfl) | ((with_reducible refine g_bor ?_); (with_reducible apply i_bor); (exact rfl); exact rfl)
  | ((with_reducible refine g_borT ?_); (with_reducible apply i_borT); (exact rfl); exact rfl) | ((with_reducible refine i_gTup ?_ ?_); exact rfl) | with_reducible refine j_add ?_ | with_reducible refine j_sub ?_ | with_reducible refine j_num ?_ | with_reducible refine v_eqInt ?_
  | with_reducible refine v_neInt ?_ | with_reducible refine v_eqLot ?_ | with_reducible refine v_neLot ?_ | with_reducible refine v_eqS ?_ | with_reducible refine v_eqBl ?_ | with_reducible refine v_neBl ?_
  | with_reducible refine v_eqLots ?_ | with_reducible refine v_neLots ?_ | with_reducible refine i_lam ?_ | with_reducible refine j_isBl ?_ | with_reducible refine j_isNotBl ?_ | with_reducible refine v_neS ?_
  | with_reducible refine j_lenLot ?_ | with_reducible refine j_lenLots ?_ | with_reducible refine j_lenLm ?_ | with_reducible refine j_lenTm ?_ | with_reducible refine j_tupleLot ?_ | with_reducible refine j_tupleLots ?_
  | with_reducible refine j_tupleL ?_ | with_reducible refine j_tupleT ?_ | with_reducible refine j_intI ?_ | with_reducible refine j_listLot ?_ | with_reducible refine j_listLots ?_ | with_reducible refine j_listL ?_
  | with_reducible refine j_listT ?_ | with_reducible refine j_listD ?_ | with_reducible refine j_sliceLot ?_ | with_reducible refine j_sliceLots ?_ | with_reducible refine j_sliceLm ?_ | with_reducible refine j_sliceT ?_
  | with_reducible refine j_sliceL ?_ | with_reducible refine j_inInts ?_ | with_reducible refine j_notInInts ?_ | with_reducible refine j_inIntsL ?_ | with_reducible refine j_notInIntsL ?_ | with_reducible refine v_inLots ?_
  | with_reducible refine v_notInLots ?_ | with_reducible refine v_inLotsT ?_ | with_reducible refine v_notInLotsT ?_ | with_reducible refine v_ltLot ?_ | with_reducible refine v_sumI ?_ | with_reducible refine j_lenL ?_
  | with_reducible refine j_lenT ?_ | with_reducible refine j_lenD ?_ | with_reducible refine j_ix0 ?_ | with_reducible refine j_ix0T ?_ | ((with_reducible refine g_ix ?_); (with_reducible apply j_ixT); exact rfl) | ((with_reducible refine g_ix ?_); (with_reducible apply j_ixL); exact rfl)
  | ((with_reducible refine g_ex ?_); (with_reducible apply j_disp); exact rfl) | ((with_reducible refine g_ex ?_); (with_reducible apply i_somb); (first | exact j_isT | exact j_isTLot | exact j_isTLots | exact j_isTL | exact j_isII | exact j_isBI)) | ((with_reducible refine j_addT ?_ ?_); (focus (rw [sizeLine_eq]; simp; done))) | ((with_reducible refine j_addL ?_ ?_); (focus (rw [sizeLine_eq]; simp; done))) | ((with_reducible refine j_mulLst ?_ ?_ ?_ ?_); (focus omega); (focus omega); (focus (rw [sizeLine_eq]; simp; done))) | ((with_reducible refine i_rngI ?_ ?_ ?_); (focus omega); (focus omega))
  | ((with_reducible refine i_rngI2 ?_ ?_ ?_ ?_ ?_ ?_); (focus omega); (focus omega); (focus omega); (focus omega); (focus omega)))
local macro_rules | `(tactic| and_intros) => `(tactic| ((repeat fail); (try (first | with_reducible refine g_for ?_ | with_reducible refine g_while ?_))))
local macro_rules | `(tactic| subst_eqs) => `(tactic| (repeat (first | ((with_reducible refine HV.set' ?_ ?_); (focus decide)) | ((with_reducible refine HV.setF' ?_ ?_); (focus decide)) | with_reducible exact HV.refl)))
variable {P : R → Prop} {E : XP}
/-! k77: too many; what is bent -/
theorem sp_lit_many {n : Nat} {L : List (List Int)} (hm : 12 < L.length) {v : List Int} (hv : LOk n v) (h : E ⟨"TooMany", [("most", .int 12)]⟩) : m_lit [dFam (.int n) (dLots L), dLot v] P E := by
  unfold m_lit b_lit
  rw [u_mOf]
  repeat fail
  refine sp_check_lot hv ?_
  repeat fail
  exact sp_check_few_bad hm h
theorem noObjs_all : ∀ xs : List D, noObjs xs = xs.all noObj
  | [] => by simp [noObjs]
  | x :: xs => by simp [noObjs, noObjs_all xs]
theorem noObj_tup {xs : List D} (h : ∀ x ∈ xs, noObj x = true) : noObj (.tup xs) = true := by
  simp only [noObj, noObjs_all, List.all_eq_true]; exact h
theorem noObj_lst {xs : List D} (h : ∀ x ∈ xs, noObj x = true) : noObj (.lst xs) = true := by
  simp only [noObj, noObjs_all, List.all_eq_true]; exact h
theorem sp_law_bent {n : Nat} (hn : n ≤ 5) {L : List (List Int)} (hm : L.length ≤ 7) (s : Str) (x : List Int) (hx : x.length ≤ 100) (h : ∀ d, noObj d = true → P (.val d)) : m__law_bent [dHand, .int n, dLots L, .tup [.str s, dLot x]] P E := by
  unfold m__law_bent b__law_bent
  rw [u_mOf]
  have hp5 : 2 ^ n ≤ 2 ^ 5 := Nat.pow_le_pow_right (by omega) hn
  have hp8 : 2 ^ L.length ≤ 2 ^ 7 := Nat.pow_le_pow_right (by omega) hm
  have p5 := Nat.two_pow_pos n
  have p7 := Nat.two_pow_pos L.length
  repeat fail
  refine sp_law_lots L.length (by omega) ?_
  repeat fail
  refine sp_some _ (by rw [List.length_map, lotsA_len]; exact p7) (by rw [List.length_map, lotsA_len]; omega) fun d1 hd1 => ?_
  repeat fail
  refine sp_law_lots n (by omega) ?_
  repeat fail
  refine sp_some _ (by rw [List.length_map, lotsA_len]; exact p5) (by rw [List.length_map, lotsA_len]; omega) fun d2 hd2 => ?_
  obtain ⟨q1, _, rfl⟩ := List.mem_map.mp hd1
  obtain ⟨q2, _, rfl⟩ := List.mem_map.mp hd2
  repeat fail
  refine j_addT (by rw [sizeLine_eq]; simp; omega) ?_
  repeat fail
  refine sp_law_deep fun dd hdd => ?_
  repeat fail
  refine sp_some _ (by simp) (by simp) fun z hz => h z (List.all_eq_true.mp ?_ z hz)
  have lo : ∀ q : List Int, noObj (dLot q) = true := noObj_lot
  have c1 : PL.cutD [D.str s, dLot x] none (some 1) = [D.str s] := rfl
  rw [c1]
  simp [List.replicate, noObj, noObjs_all, noObjk, lo, hdd, Int.toNat]
end K77
end
section
set_option Elab.async false
set_option linter.all false
set_option maxRecDepth 100000
set_option maxHeartbeats 400000
set_option autoImplicit false
namespace K77
open PySem PySem.Spec L2 PL PL.C
open PyProof.Rows hiding St
local macro_rules | `(tactic| fail) => `(tactic| first
  | ((with_reducible refine g_var ?_); (with_reducible apply i_var); exact rfl) | with_reducible refine i_then ?_ | with_reducible refine i_item ?_ | with_reducible refine i_set ?_ | with_reducible refine i_c ?_ | with_reducible refine i_bin ?_
  | with_reducible refine i_call ?_ | with_reducible refine i_callB ?_ | with_reducible refine i_wA ?_ | with_reducible refine i_wA0 ?_ | with_reducible refine i_ifS ?_ | with_reducible refine i_tst ?_
  | with_reducible refine i_notT ?_ | with_reducible refine i_ret ?_ | with_reducible refine i_skip ?_ | with_reducible refine i_bl ?_ | with_reducible refine i_int ?_ | with_reducible refine i_points ?_
  | with_reducible refine i_lots ?_ | with_reducible refine i_fam ?_ | with_reducible refine i_tup ?_ | with_reducible refine i_lst ?_ | with_reducible refine i_setO ?_ | with_reducible refine i_expr ?_
  | with_reducible refine i_andT ?_ | with_reducible refine i_orT ?_ | with_reducible refine i_and ?_ | with_reducible refine i_or ?_ | with_reducible refine i_not ?_ | with_reducible refine i_yes ?_
  | with_reducible refine i_if ?_ | with_reducible refine i_gName ?_ | with_reducible refine i_seq ?_ | with_reducible refine j_seqLot ?_ | with_reducible refine j_seqLots ?_ | with_reducible refine j_seqLst ?_
  | with_reducible refine j_seqTup ?_ | with_reducible refine i_args ?_ | with_reducible refine i_slice ?_ | with_reducible refine i_part0 ?_ | with_reducible refine i_part ?_ | with_reducible refine i_family ?_
  | with_reducible refine i_asg ?_ | with_reducible refine i_par ?_ | with_reducible refine i_par3 ?_ | with_reducible refine i_val ?_ | with_reducible refine i_neg ?_ | with_reducible refine i_isi ?_
  | with_reducible refine i_chain ?_ | with_reducible refine i_vbl ?_ | with_reducible refine i_meth0 ?_ | with_reducible refine i_newD ?_ | with_reducible refine i_zip ?_ | with_reducible refine i_rng1 ?_
  | with_reducible refine i_rng2 ?_ | with_reducible refine i_sortSet ?_ | with_reducible refine i_lenSet ?_ | with_reducible refine i_rev ?_ | with_reducible refine i_revLot ?_ | with_reducible refine i_revL ?_
  | with_reducible refine i_revT ?_ | with_reducible refine i_disp1 ?_ | with_reducible refine i_retN ?_ | with_reducible refine i_brk ?_ | with_reducible refine i_cnt ?_ | with_reducible refine i_raise0 ?_
  | with_reducible refine i_raise1 ?_ | ((with_reducible refine g_retV ?_); (with_reducible apply i_retV); exact rfl) | ((with_reducible refine g_frz ?_); (with_reducible apply i_frz); exact rfl) | ((with_reducible refine g_app ?_); (with_reducible apply i_app); exact rfl) | ((with_reducible refine g_ext ?_); (with_reducible apply i_ext); exact rfl) | ((with_reducible refine g_bor ?_); (with_reducible apply i_bor); (exact rfl); exact rfl)
  | ((with_reducible refine g_borT ?_); (with_reducible apply i_borT); (exact rfl); exact rfl) | ((with_reducible refine i_gTup ?_ ?_); exact rfl) | with_reducible refine j_add ?_ | with_reducible refine j_sub ?_ | with_reducible refine j_num ?_ | with_reducible refine v_eqInt ?_
  | with_reducible refine v_neInt ?_ | with_reducible refine v_eqLot ?_ | with_reducible refine v_neLot ?_ | with_reducible refine v_eqS ?_ | with_reducible refine v_eqBl ?_ | with_reducible refine v_neBl ?_
  | with_reducible refine v_eqLots ?_ | with_reducible refine v_neLots ?_ | with_reducible refine i_lam ?_ | with_reducible refine j_isBl ?_ | with_reducible refine j_isNotBl ?_ | with_reducible refine v_neS ?_
  | with_reducible refine j_lenLot ?_ | with_reducible refine j_lenLots ?_ | with_reducible refine j_lenLm ?_ | with_reducible refine j_lenTm ?_ | with_reducible refine j_tupleLot ?_ | with_reducible refine j_tupleLots ?_
  | with_reducible refine j_tupleL ?_ | with_reducible refine j_tupleT ?_ | with_reducible refine j_intI ?_ | with_reducible refine j_listLot ?_ | with_reducible refine j_listLots ?_ | with_reducible refine j_listL ?_
  | with_reducible refine j_listT ?_ | with_reducible refine j_listD ?_ | with_reducible refine j_sliceLot ?_ | with_reducible refine j_sliceLots ?_ | with_reducible refine j_sliceLm ?_ | with_reducible refine j_sliceT ?_
  | with_reducible refine j_sliceL ?_ | with_reducible refine j_inInts ?_ | with_reducible refine j_notInInts ?_ | with_reducible refine j_inIntsL ?_ | with_reducible refine j_notInIntsL ?_ | with_reducible refine v_inLots ?_
  | with_reducible refine v_notInLots ?_ | with_reducible refine v_inLotsT ?_ | with_reducible refine v_notInLotsT ?_ | with_reducible refine v_ltLot ?_ | with_reducible refine v_sumI ?_ | with_reducible refine j_lenL ?_
  | with_reducible refine j_lenT ?_ | with_reducible refine j_lenD ?_ | with_reducible refine j_ix0 ?_ | with_reducible refine j_ix0T ?_ | ((with_reducible refine g_ix ?_); (with_reducible apply j_ixT); exact rfl) | ((with_reducible refine g_ix ?_); (with_reducible apply j_ixL); exact rfl)
  | ((with_reducible refine g_ex ?_); (with_reducible apply j_disp); exact rfl) | ((with_reducible refine g_ex ?_); (with_reducible apply i_somb); (first | exact j_isT | exact j_isTLot | exact j_isTLots | exact j_isTL | exact j_isII | exact j_isBI)) | ((with_reducible refine j_addT ?_ ?_); (focus (rw [sizeLine_eq]; simp; done))) | ((with_reducible refine j_addL ?_ ?_); (focus (rw [sizeLine_eq]; simp; done))) | ((with_reducible refine j_mulLst ?_ ?_ ?_ ?_); (focus omega); (focus omega); (focus (rw [sizeLine_eq]; simp; done))) | ((with_reducible refine i_rngI ?_ ?_ ?_); (focus omega); (focus omega))
  | ((with_reducible refine i_rngI2 ?_ ?_ ?_ ?_ ?_ ?_); (focus omega); (focus omega); (focus omega); (focus omega); (focus omega)))
local macro_rules | `(tactic| and_intros) => `(tactic| ((repeat fail); (try (first | with_reducible refine g_for ?_ | with_reducible refine g_while ?_))))
local macro_rules | `(tactic| subst_eqs) => `(tactic| (repeat (first | ((with_reducible refine HV.set' ?_ ?_); (focus decide)) | ((with_reducible refine HV.setF' ?_ ?_); (focus decide)) | with_reducible exact HV.refl)))
variable {P : R → Prop} {E : XP}
/-! k77: deep things, known ones, words -/
theorem init_sem : ∀ dp dl, FamOk dp dl → ∀ Q : Bool → Prop, Q false → b_init1 [none, some (.val dp), some (.val dl)] Q noX ∧ b_init2 [none, some (.val dp), some (.val dl)] Q noX := PL.C.init_sem
theorem hand_sem : ∀ ms : List Int, ms.length ≤ 63 → ∀ kk : WEnds, kk.rt (.val dHand) → wLcGo (wgName 2) wYes b_hand1 (wipeR (List.replicate 3 none) [2]) (ms.map D.int) [] (fun r => wHandRet 1 b_hand2 kk noX ((List.replicate 3 none).set 1 (some r))) := hand_semA 83 5 (by decide) (by decide)
inductive Nst : Nat → D → Prop
  | zero {d} (h : noObj d = true) : Nst 0 d
  | tup {n d} (h : Nst n d) : Nst (n + 1) (.tup [d])
  | lst {n d} (h : Nst n d) : Nst (n + 1) (.lst [d])
  | dct {n d} (h : Nst n d) : Nst (n + 1) (.dct false [(.int 0, d)])
theorem Nst.no : ∀ {n : Nat} {d : D}, Nst n d → noObj d = true
  | _, _, .zero h => h
  | _, _, .tup h => by simp [noObj, noObjs, h.no]
  | _, _, .lst h => by simp [noObj, noObjs, h.no]
  | _, _, .dct h => by simp [noObj, noObjk, h.no]
theorem sp_law_deepN (h : ∀ d n, Nst (n + 2) d → P (.val d)) : m__law_deep [dHand] P E := by
  unfold m__law_deep b__law_deep
  rw [u_mOf]
  repeat fail
  refine sp_some _ (by simp) (by simp) fun d0 hd0 => ?_
  have n0 : Nst 0 d0 := .zero (by
    simp only [List.mem_cons, List.not_mem_nil, or_false] at hd0
    rcases hd0 with rfl | rfl | rfl <;> (unfold noObj; rfl))
  repeat fail
  apply i_for
  repeat fail
  refine sp_draw 18 (by decide) (by decide) fun k k0 k1 => ?_
  repeat fail
  repeat fail
  have key : ∀ (rest : List D) (n : Nat) (d : D) (x : Option R), 2 ≤ n + rest.length → Nst n d → wForGo (wgName 2) (wSet 1 (wCall PL.C.m__law_some [(wVar 0), (wLst [(wTup [(wVar 1)]), (wLst [(wVar 1)]), (wDisp1 (wC (.int 0)) (wVar 1))])]))
      { nx := fun ρ' => wRet (wVar 1) { nx := fun _ => P (.val .non), rt := P, bk := fun _ => False, ct := fun _ => False } E ρ', rt := P, bk := fun _ => False, ct := fun _ => False } E rest [some (.val dHand), some (.val d), x] := by
    intro rest
    induction rest with
    | nil =>
      intro n d x l b
      show wRet (wVar 1) _ E _
      repeat fail
      obtain ⟨m, rfl⟩ : ∃ m, n = m + 2 := ⟨n - 2, by simp at l; omega⟩
      exact h d m b
    | cons y rest ih =>
      intro n d x l b
      show wgName 2 y _ _
      repeat fail
      refine sp_some _ (by simp) (by simp) fun z hz => ?_
      refine ih (n + 1) z _ (by simp at l; omega) ?_
      simp only [List.mem_cons, List.not_mem_nil, or_false] at hz
      rcases hz with rfl | rfl | rfl
      · exact .tup b
      · exact .lst b
      · exact .dct b
  exact key _ 0 d0 none (by unfold rangeD; rw [List.length_map, List.length_range]; omega) n0
/-- no lot, and no row of numbers -/
theorem nst_nums {n : Nat} {d : D} (h : Nst (n + 2) d) (m : Int) : numsB m d = false := by
  cases h with
  | tup h => cases h <;> simp [numsB, withinB]
  | lst h => rfl
  | dct h => rfl
theorem nst_lot {n : Nat} {d : D} (h : Nst (n + 2) d) (m : Int) : isLotB m d = false := isLot_nums0 (nst_nums h m)
end K77
end
section
set_option Elab.async false
set_option linter.all false
set_option maxRecDepth 100000
set_option maxHeartbeats 1000000
set_option autoImplicit false
namespace K77
open PySem PySem.Spec L2 PL PL.C
open PyProof.Rows hiding St
local macro_rules | `(tactic| fail) => `(tactic| first
  | ((with_reducible refine g_var ?_); (with_reducible apply i_var); exact rfl) | with_reducible refine i_then ?_ | with_reducible refine i_item ?_ | with_reducible refine i_set ?_ | with_reducible refine i_c ?_ | with_reducible refine i_bin ?_
  | with_reducible refine i_call ?_ | with_reducible refine i_callB ?_ | with_reducible refine i_wA ?_ | with_reducible refine i_wA0 ?_ | with_reducible refine i_ifS ?_ | with_reducible refine i_tst ?_
  | with_reducible refine i_notT ?_ | with_reducible refine i_ret ?_ | with_reducible refine i_skip ?_ | with_reducible refine i_bl ?_ | with_reducible refine i_int ?_ | with_reducible refine i_points ?_
  | with_reducible refine i_lots ?_ | with_reducible refine i_fam ?_ | with_reducible refine i_tup ?_ | with_reducible refine i_lst ?_ | with_reducible refine i_setO ?_ | with_reducible refine i_expr ?_
  | with_reducible refine i_andT ?_ | with_reducible refine i_orT ?_ | with_reducible refine i_and ?_ | with_reducible refine i_or ?_ | with_reducible refine i_not ?_ | with_reducible refine i_yes ?_
  | with_reducible refine i_if ?_ | with_reducible refine i_gName ?_ | with_reducible refine i_seq ?_ | with_reducible refine j_seqLot ?_ | with_reducible refine j_seqLots ?_ | with_reducible refine j_seqLst ?_
  | with_reducible refine j_seqTup ?_ | with_reducible refine i_args ?_ | with_reducible refine i_slice ?_ | with_reducible refine i_part0 ?_ | with_reducible refine i_part ?_ | with_reducible refine i_family ?_
  | with_reducible refine i_asg ?_ | with_reducible refine i_par ?_ | with_reducible refine i_par3 ?_ | with_reducible refine i_val ?_ | with_reducible refine i_neg ?_ | with_reducible refine i_isi ?_
  | with_reducible refine i_chain ?_ | with_reducible refine i_vbl ?_ | with_reducible refine i_meth0 ?_ | with_reducible refine i_newD ?_ | with_reducible refine i_zip ?_ | with_reducible refine i_rng1 ?_
  | with_reducible refine i_rng2 ?_ | with_reducible refine i_sortSet ?_ | with_reducible refine i_lenSet ?_ | with_reducible refine i_rev ?_ | with_reducible refine i_revLot ?_ | with_reducible refine i_revL ?_
  | with_reducible refine i_revT ?_ | with_reducible refine i_disp1 ?_ | with_reducible refine i_retN ?_ | with_reducible refine i_brk ?_ | with_reducible refine i_cnt ?_ | with_reducible refine i_raise0 ?_
  | with_reducible refine i_raise1 ?_ | ((with_reducible refine g_retV ?_); (with_reducible apply i_retV); exact rfl) | ((with_reducible refine g_frz ?_); (with_reducible apply i_frz); exact rfl) | ((with_reducible refine g_app ?_); (with_reducible apply i_app); exact rfl) | ((with_reducible refine g_ext ?_); (with_reducible apply i_ext); exact rfl) | ((with_reducible refine g_bor ?_); (with_reducible apply i_bor); (exact rfl); exact rfl)
  | ((with_reducible refine g_borT ?_); (with_reducible apply i_borT); (exact rfl); exact rfl) | ((with_reducible refine i_gTup ?_ ?_); exact rfl) | with_reducible refine j_add ?_ | with_reducible refine j_sub ?_ | with_reducible refine j_num ?_ | with_reducible refine v_eqInt ?_
  | with_reducible refine v_neInt ?_ | with_reducible refine v_eqLot ?_ | with_reducible refine v_neLot ?_ | with_reducible refine v_eqS ?_ | with_reducible refine v_eqBl ?_ | with_reducible refine v_neBl ?_
  | with_reducible refine v_eqLots ?_ | with_reducible refine v_neLots ?_ | with_reducible refine i_lam ?_ | with_reducible refine j_isBl ?_ | with_reducible refine j_isNotBl ?_ | with_reducible refine v_neS ?_
  | with_reducible refine j_lenLot ?_ | with_reducible refine j_lenLots ?_ | with_reducible refine j_lenLm ?_ | with_reducible refine j_lenTm ?_ | with_reducible refine j_tupleLot ?_ | with_reducible refine j_tupleLots ?_
  | with_reducible refine j_tupleL ?_ | with_reducible refine j_tupleT ?_ | with_reducible refine j_intI ?_ | with_reducible refine j_listLot ?_ | with_reducible refine j_listLots ?_ | with_reducible refine j_listL ?_
  | with_reducible refine j_listT ?_ | with_reducible refine j_listD ?_ | with_reducible refine j_sliceLot ?_ | with_reducible refine j_sliceLots ?_ | with_reducible refine j_sliceLm ?_ | with_reducible refine j_sliceT ?_
  | with_reducible refine j_sliceL ?_ | with_reducible refine j_inInts ?_ | with_reducible refine j_notInInts ?_ | with_reducible refine j_inIntsL ?_ | with_reducible refine j_notInIntsL ?_ | with_reducible refine v_inLots ?_
  | with_reducible refine v_notInLots ?_ | with_reducible refine v_inLotsT ?_ | with_reducible refine v_notInLotsT ?_ | with_reducible refine v_ltLot ?_ | with_reducible refine v_sumI ?_ | with_reducible refine j_lenL ?_
  | with_reducible refine j_lenT ?_ | with_reducible refine j_lenD ?_ | with_reducible refine j_ix0 ?_ | with_reducible refine j_ix0T ?_ | ((with_reducible refine g_ix ?_); (with_reducible apply j_ixT); exact rfl) | ((with_reducible refine g_ix ?_); (with_reducible apply j_ixL); exact rfl)
  | ((with_reducible refine g_ex ?_); (with_reducible apply j_disp); exact rfl) | ((with_reducible refine g_ex ?_); (with_reducible apply i_somb); (first | exact j_isT | exact j_isTLot | exact j_isTLots | exact j_isTL | exact j_isII | exact j_isBI)) | ((with_reducible refine j_addT ?_ ?_); (focus (rw [sizeLine_eq]; simp; done))) | ((with_reducible refine j_addL ?_ ?_); (focus (rw [sizeLine_eq]; simp; done))) | ((with_reducible refine j_mulLst ?_ ?_ ?_ ?_); (focus omega); (focus omega); (focus (rw [sizeLine_eq]; simp; done))) | ((with_reducible refine i_rngI ?_ ?_ ?_); (focus omega); (focus omega))
  | ((with_reducible refine i_rngI2 ?_ ?_ ?_ ?_ ?_ ?_); (focus omega); (focus omega); (focus omega); (focus omega); (focus omega)))
local macro_rules | `(tactic| and_intros) => `(tactic| ((repeat fail); (try (first | with_reducible refine g_for ?_ | with_reducible refine g_while ?_))))
local macro_rules | `(tactic| subst_eqs) => `(tactic| (repeat (first | ((with_reducible refine HV.set' ?_ ?_); (focus decide)) | ((with_reducible refine HV.setF' ?_ ?_); (focus decide)) | with_reducible exact HV.refl)))
variable {P : R → Prop} {E : XP}
/-! k77: the law -/
theorem lot_odd1 : ∀ s, LOk ((1 : Nat) : Int) s → sumL 2 [[0, 1]] s = [0] → False := fun s hs e => by
  have : ∀ s ∈ lotsU 1, sumL 2 [[0, 1]] s ≠ [0] := by decide
  exact this s ((mem_lotsU 1 s).mpr hs) e
theorem told_ok {n : Nat} {L : List (List Int)} {v x : List Int} {s : Str} (h : s = "press" ∧ LOk L.length x ∧ sumL n L x = v ∨ s = "check" ∧ LOk n x ∧ chk n L v x = true) : toldB n L v (.tup [.str s, dLot x]) = true := by
  rw [toldB_tup, unLot_lot]
  rcases h with ⟨rfl, a, b⟩ | ⟨rfl, a, b⟩
  · rw [if_neg (by decide), if_pos (by decide), (isLotB_iff _ _).mpr a, decide_eq_true b]; rfl
  · rw [if_pos (by decide), (isLotB_iff _ _).mpr a, b]; rfl
theorem turn1 {n : Nat} (h1 : 1 ≤ n) (h5 : n ≤ 5) {L : List (List Int)} (hL : ∀ q ∈ L, LOk n q) (hm : L.length ≤ 7) {v x : List Int} (hv : LOk n v) (hx : x.length ≤ 100) {s : Str} {k : WEnds} : ∀ ρ : Rho, ρ.length = 25 → ρ[1]? = some (some (.val dHand)) → ρ[4]? = some (some (.val (.int n))) → ρ[5]? = some (some (.val (dLots L))) →
    ρ[6]? = some (some (.val (dFam (.int n) (dLots L)))) → ρ[11]? = some (some (.val (dLot v))) → ρ[14]? = some (some (.val (.tup [.str s, dLot x]))) → (∀ ρ', HV [17] ρ ρ' → k.nx ρ') → b_law_f1 k noX ρ
  | [x0, x1, x2, x3, x4, x5, x6, x7, x8, x9, x10, x11, x12, x13, x14, x15, x16, x17, x18, x19, x20, x21, x22, x23, x24], _, e1, e4, e5, e6, e11, e14, hN => by
    cases e1; cases e4; cases e5; cases e6; cases e11; cases e14
    unfold b_law_f1
    and_intros
    refine sp_law_bent h5 hm s x hx fun d hd => ?_
    and_intros
    refine sp_is_lit (by omega) hL hv d hd ?_
    and_intros
    refine j_reprS (goodG_bl _) (by decide) (by decide) ?_
    and_intros
    refine sp_law_is_told (by omega) hL hv d hd ?_
    and_intros
    refine j_reprS (goodG_bl _) (by decide) (by decide) ?_
    and_intros
    refine bF (by simp) ?_
    and_intros
    exact hN _ (by subst_eqs)
theorem goodG_told {s : Str} (hs : s = "press" ∨ s = "check") {x : List Int} {m : Nat} (hx : LOk m x) (hm : m ≤ 9) : GoodG 2 1000000 (.tup [.str s, dLot x]) := by
  have gs : GoodG 0 16 (.str s) := by rcases hs with rfl | rfl <;> exact goodG_str (by decide +kernel)
  have gx : GoodG 1 (9 * 18 + 4) (dLot x) := goodG_lot (fun i hi => by have := hx.1 i hi; omega) (Nat.le_trans (lok_len hx) hm)
  refine (goodG_tup (m := 1) (w := 1000) (l := 2) (fun y hy => ?_) (by simp)).mono (by decide) (by decide)
  simp only [List.mem_cons, List.not_mem_nil, or_false] at hy
  rcases hy with rfl | rfl
  · exact gs.mono (by decide) (by decide)
  · exact gx.mono (by decide) (by decide)
def GoodAns (n : Nat) (L : List (List Int)) (v : List Int) (s : Str) (x : List Int) : Prop :=
  (s = "press" ∧ LOk L.length x ∧ sumL n L x = v ∧ ∀ t, LOk L.length t → sumL n L t = v → szLt t x = false) ∨
  (s = "check" ∧ v ∉ V n L ∧ LOk n x ∧ chk n L v x = true ∧ ∀ y, LOk n y → chk n L v y = true → lexB y x = false)
theorem sp_litG {n : Nat} (hn : n ≤ 7) {L : List (List Int)} (hL : ∀ q ∈ L, LOk n q) (hm : L.length ≤ 9) {v : List Int} (hv : LOk n v) (h : ∀ s x, GoodAns n L v s x → P (.val (.tup [.str s, dLot x]))) : m_lit [dFam (.int n) (dLots L), dLot v] P E :=
  sp_lit hn hL hm hv (fun s a b c => h _ _ (.inl ⟨rfl, a, b, c⟩)) (fun a c b d e => h _ _ (.inr ⟨rfl, a, b, d, e⟩))
theorem no_chk {n : Nat} {L : List (List Int)} {v : List Int} (h : v ∈ V n L) (c : List Int) : chk n L v c = false := by
  cases hc : chk n L v c with
  | false => rfl
  | true =>
    unfold chk at hc
    rw [Bool.and_eq_true, List.all_eq_true] at hc
    have := dot_sum (fun q hq => by have := hc.1 q hq; simpa using this) h
    rw [this] at hc; exact absurd hc.2 (by decide)
theorem ix_sz {q : List Int} (h : P (.val (dLot q))) : ixW (dSz q) (.int 1) P := ⟨dLot q, rfl, h⟩
theorem turn2L {n : Nat} (h1 : 1 ≤ n) (h5 : n ≤ 5) {L : List (List Int)} (hL : ∀ q ∈ L, LOk n q) (hm : L.length ≤ 7) {v : List Int} (hv : LOk n v) {k : WEnds} {x0 x2 x3 x7 x8 x9 x10 x12 x13 x14 x15 x16 x17 x18 x19 x20 x21 x22 x23 x24 : Option R} (hN : ∀ ρ', HV [12, 13, 14, 15, 16, 17] [x0, some (.val (dHand)), x2, x3, some (.val (.int n)), some (.val (dLots L)), some (.val (dFam (.int n) (dLots L))), x7, x8, x9, x10, some (.val (dLot v)), x12, x13, x14, x15, x16, x17, x18, x19, x20, x21, x22, x23, x24] ρ' → k.nx ρ') :
    b_law_f2 k noX [x0, some (.val (dHand)), x2, x3, some (.val (.int n)), some (.val (dLots L)), some (.val (dFam (.int n) (dLots L))), x7, x8, x9, x10, some (.val (dLot v)), x12, x13, x14, x15, x16, x17, x18, x19, x20, x21, x22, x23, x24] := by
    unfold b_law_f2
    and_intros
    refine lc_enc dLot (lotsA L.length) (fun s => decide (sumL n L s = v)) dSz (fun Q hQ => by and_intros; refine sp_law_lots L.length (by omega) ?_; and_intros; exact hQ) (fun s hs K hK => ?_) ?_
    · and_intros
      refine sp_law_lit (by omega) hL (mem_lotsA.mp hs).1 ?_
      and_intros
      refine b_keep hK rfl fun hK => ?_
      and_intros
      exact hK
    and_intros
    refine v_sortSz fun M pM sM => ?_
    and_intros
    refine sp_law_checks (by omega) ?_
    and_intros
    refine sp_litG (by omega) hL (by omega) hv fun s x gx => ?_
    have memM : ∀ t, t ∈ M ↔ LOk L.length t ∧ sumL n L t = v := fun t => by
      rw [pM.mem_iff, List.mem_filter, mem_lotsA, decide_eq_true_eq]
    have memC : ∀ c, c ∈ (lotsA n).filter (chk n L v) ↔ LOk n c ∧ chk n L v c = true := fun c => by
      rw [List.mem_filter, mem_lotsA]
    have ascC : ((lotsA n).filter (chk n L v)).Pairwise fun a b => lexB a b = true := (lotsA_asc n).filter _
    generalize (lotsA n).filter (chk n L v) = C at memC ascC
    have hx9 : ∃ m : Nat, LOk m x ∧ m ≤ 9 := by
      rcases gx with ⟨_, a, _⟩ | ⟨_, _, a, _⟩
      · exact ⟨_, a, by omega⟩
      · exact ⟨_, a, by omega⟩
    obtain ⟨m9, hxm, hm9⟩ := hx9
    have hs2 : s = "press" ∨ s = "check" := gx.elim (fun h => .inl h.1) fun h => .inr h.1
    have hto : toldB n L v (.tup [.str s, dLot x]) = true := told_ok (gx.elim (fun h => .inl ⟨h.1, h.2.1, h.2.2.1⟩) fun h => .inr ⟨h.1, h.2.2.1, h.2.2.2.1⟩)
    have gd := goodG_told hs2 hxm hm9
    have hxl : x.length ≤ 100 := Nat.le_trans (lok_len hxm) (by omega)
    have main : (s = "press" ∧ C = [] ∧ ∃ r, M = x :: r) ∨ (s = "check" ∧ M = [] ∧ ∃ r, C = x :: r) := by
      rcases gx with ⟨rfl, a, b, c⟩ | ⟨rfl, a, b, c, d⟩
      · refine .inl ⟨rfl, ?_, ?_⟩
        · have hV : v ∈ V n L := mem_V.mpr ⟨x, a, b⟩
          refine List.eq_nil_iff_forall_not_mem.mpr fun c hc => ?_
          have := ((memC c).mp hc).2
          rw [no_chk hV c] at this; cases this
        · have hx : x ∈ M := (memM x).mpr ⟨a, b⟩
          cases M with
          | nil => cases hx
          | cons m0 r =>
            have hm0 := (memM m0).mp (List.mem_cons_self ..)
            refine ⟨r, ?_⟩
            rcases List.mem_cons.mp hx with e | hx
            · rw [e]
            · rw [szLt_eq (c m0 hm0.1 hm0.2) ((List.pairwise_cons.mp sM).1 x hx)]
      · refine .inr ⟨rfl, ?_, ?_⟩
        · refine List.eq_nil_iff_forall_not_mem.mpr fun t ht => a (mem_V.mpr ⟨t, (memM t).mp ht⟩)
        · have hx : x ∈ C := (memC x).mpr ⟨b, c⟩
          cases C with
          | nil => cases hx
          | cons c0 r =>
            refine ⟨r, ?_⟩
            rcases List.mem_cons.mp hx with e | hx
            · rw [e]
            · have hc0 := (memC c0).mp (List.mem_cons_self ..)
              have e1 := (List.pairwise_cons.mp ascC).1 x hx
              rw [d c0 hc0.1 hc0.2] at e1; cases e1
    and_intros
    refine bF (by rcases main with ⟨_, rfl, r, rfl⟩ | ⟨_, rfl, r, rfl⟩ <;> simp) ?_
    and_intros
    refine b_all (S := fun r => r = .val (.tup [.str s, dLot x])) (fun P' hP => ?_) (fun r er => ?_)
    · rcases main with ⟨rfl, rfl, r, rfl⟩ | ⟨rfl, rfl, r, rfl⟩
      · refine bT (by simp) ?_
        and_intros
        refine ix_sz ?_
        and_intros
        exact hP _ rfl
      · refine bF (by simp) ?_
        and_intros
        exact hP _ rfl
    subst er
    and_intros
    refine j_reprS gd (by decide) (by decide) ?_
    and_intros
    refine j_reprS gd (by decide) (by decide) ?_
    and_intros
    refine bF (decide_eq_false fun h => h rfl) ?_
    and_intros
    refine sp_is_lit (by omega) hL hv _ (okG_no _ gd.ok) ?_
    rw [hto]
    and_intros
    refine bF rfl ?_
    and_intros
    refine for_havoc encI (List.range 4) [16, 17] (fun Q hQ => by and_intros; exact hQ) (fun y hy f N hN2 => ?_) (fun f => ?_)
    · and_intros
      exact turn1 h1 h5 hL hm hv hxl _ (by simp [setF]) rfl rfl rfl rfl rfl rfl (fun ρ' h => hN2 _ (HV.trans (by subst_eqs) h (by decide)))
    · exact hN _ (by subst_eqs)
theorem turn2 {n : Nat} (h1 : 1 ≤ n) (h5 : n ≤ 5) {L : List (List Int)} (hL : ∀ q ∈ L, LOk n q) (hm : L.length ≤ 7) {v : List Int} (hv : LOk n v) {k : WEnds} : ∀ ρ : Rho, ρ.length = 25 → ρ[1]? = some (some (.val dHand)) → ρ[4]? = some (some (.val (.int n))) → ρ[5]? = some (some (.val (dLots L))) →
    ρ[6]? = some (some (.val (dFam (.int n) (dLots L)))) → ρ[11]? = some (some (.val (dLot v))) → (∀ ρ', HV [12, 13, 14, 15, 16, 17] ρ ρ' → k.nx ρ') → b_law_f2 k noX ρ
  | [x0, x1, x2, x3, x4, x5, x6, x7, x8, x9, x10, x11, x12, x13, x14, x15, x16, x17, x18, x19, x20, x21, x22, x23, x24], _, e1, e4, e5, e6, e11, hN => by
    cases e1; cases e4; cases e5; cases e6; cases e11
    exact turn2L h1 h5 hL hm hv hN
theorem turn3L {k : WEnds} {x0 x2 x3 x4 x5 x6 x7 x8 x9 x10 x11 x12 x13 x14 x15 x16 x17 x18 x19 x20 x21 x22 x23 x24 : Option R} (hN : ∀ ρ', HV [4, 5, 6, 7, 8, 9, 10, 11, 12, 13, 14, 15, 16, 17] [x0, some (.val (dHand)), x2, x3, x4, x5, x6, x7, x8, x9, x10, x11, x12, x13, x14, x15, x16, x17, x18, x19, x20, x21, x22, x23, x24] ρ' → k.nx ρ') : b_law_f3 k noX [x0, some (.val (dHand)), x2, x3, x4, x5, x6, x7, x8, x9, x10, x11, x12, x13, x14, x15, x16, x17, x18, x19, x20, x21, x22, x23, x24] := by
  unfold b_law_f3
  and_intros
  refine sp_draw 5 (by decide) (by decide) fun p p0 p1 => ?_
  and_intros
  obtain ⟨m, hm⟩ : ∃ m : Nat, 1 + p = (m : Int) := ⟨(1 + p).toNat, by omega⟩
  rw [hm]
  have h1 : 1 ≤ m := by omega
  have h5 : m ≤ 5 := by omega
  refine sp_law_family m h1 (by omega) fun M hM => ?_
  and_intros
  have e7 : PL.cutD M none (some 7) = M.take 7 := cutTo M 7
  rw [e7]
  have hs : (M.take 7).Sublist (lotsA m) := (List.take_sublist _ _).trans hM
  have hl : (M.take 7).length ≤ 7 := by rw [List.length_take]; omega
  generalize M.take 7 = L at hs hl
  obtain ⟨hL, asc, nd, _⟩ := sub_lots hs
  refine i_fam2 (fok_of h1 (by omega) hL asc) ?_
  and_intros
  refine lc_someR m (fun Q hQ => by and_intros; exact hQ) (fun i i0 i1 K k0 k1 => ?_) fun lot hlot => ?_
  · and_intros
    refine sp_draw 2 (by decide) (by decide) fun k _ _ => ?_
    and_intros
    refine bB (fun _ => ?_) (fun _ => k0)
    and_intros
    exact k1
  and_intros
  refine b_all (fun r => ∃ s : List Int, r = .val (dLot s) ∧ (∀ i ∈ s, 0 ≤ i ∧ i < L.length) ∧ s.length ≤ 6) (fun P' hP => ?_) (fun r hr => ?_)
  · refine bD (fun h => ?_) (fun _ => ?_)
    · and_intros
      apply i_lc
      and_intros
      refine sp_draw 6 (by decide) (by decide) fun q q0 q1 => ?_
      and_intros
      refine lcGo_draws (fun i => 0 ≤ i ∧ i < L.length) _ [] _ (fun y _ K hK => ?_) (fun _ h => nomatch h) fun ks lk ck => ?_
      · and_intros
        refine bT rfl ?_
        and_intros
        refine sp_draw L.length h (by omega) fun k k0 k1 => ?_
        exact hK k ⟨k0, k1⟩
      and_intros
      exact hP _ ⟨ks, rfl, ck, by simp [rangeD] at lk; omega⟩
    · and_intros
      exact hP _ ⟨[], rfl, fun _ h => (nomatch h), by decide⟩
  obtain ⟨s, rfl, hs2, hs6⟩ := hr
  and_intros
  refine sp_law_lit (by omega) hL hs2 ?_
  and_intros
  have hthere : LOk m (sumL m L s) := lok_sumL m L s
  refine lc_filterR m (fun x => decide (x ∈ lot) != decide (x ∈ sumL m L s)) D.int (fun Q hQ => by and_intros; exact hQ) (fun i i0 i1 K hK => ?_) ?_
  · and_intros
    refine b_keep hK rfl fun hK => ?_
    and_intros
    exact hK
  and_intros
  refine sp_pressed (by omega) hL hs2 hlot ?_
  rw [sumF_sd hlot]
  have gl : GoodG 1 (5 * 18 + 4) (dLot (sd m lot (sumL m L s))) := goodG_lot (fun i hi => by have := lok_sd.1 i hi; omega) (Nat.le_trans (lok_len lok_sd) h5)
  and_intros
  refine j_reprS gl (by decide) (by decide) ?_
  and_intros
  refine j_reprS gl (by decide) (by decide) ?_
  and_intros
  refine bF (decide_eq_false fun h => h rfl) ?_
  and_intros
  refine for_havoc dLot [lot, sumL m L s] [11, 12, 13, 14, 15, 16, 17] (fun Q hQ => by and_intros; exact hQ) (fun v hv2 f N hN2 => ?_) (fun f => hN _ ?_)
  rotate_left
  · subst_eqs
  have hv : LOk m v := by
    simp only [List.mem_cons, List.not_mem_nil, or_false] at hv2
    rcases hv2 with rfl | rfl
    · exact hlot
    · exact hthere
  and_intros
  refine turn2 h1 h5 hL hl hv _ ?_ ?_ ?_ ?_ ?_ ?_ ?_
  · simp [setF_len]
  · simp [setF]
  · simp [setF]
  · simp [setF]
  · simp [setF]
  · simp [setF]
  · intro ρ' h
    refine hN2 _ ?_
    refine HV.trans (ρ1 := _) ?_ h ?_
    · subst_eqs
    · decide
theorem turn3 {k : WEnds} : ∀ ρ : Rho, ρ.length = 25 → ρ[1]? = some (some (.val dHand)) → (∀ ρ', HV [4, 5, 6, 7, 8, 9, 10, 11, 12, 13, 14, 15, 16, 17] ρ ρ' → k.nx ρ') → b_law_f3 k noX ρ
  | [x0, x1, x2, x3, x4, x5, x6, x7, x8, x9, x10, x11, x12, x13, x14, x15, x16, x17, x18, x19, x20, x21, x22, x23, x24], _, e1, hN => by
    cases e1
    exact turn3L hN
theorem law_sem : b_law { nx := fun _ => False, rt := fun r => r = .val (.bl true), bk := fun _ => False, ct := fun _ => False } noX ((List.replicate 25 none).set 1 (some (.val dHand))) := by
  unfold b_law
  and_intros
  refine i_fam2 (fok_of (n := 2) (L := [[0, 1]]) (by decide) (by decide) (loks rfl) (by decide)) ?_
  and_intros
  refine sp_lit (n := 2) (L := [[0, 1]]) (v := [0]) (by decide) (loks rfl) (by decide) ((mem_lotsU 2 _).mp (by decide)) (fun s hs e _ => (lot_odd1 s hs e).elim) (fun _ c hc hk _ => ?_)
  have ec : c = [0, 1] := by
    have : ∀ c ∈ lotsU 2, chk 2 [[0, 1]] [0] c = true → c = [0, 1] := by decide
    exact this c ((mem_lotsU 2 c).mpr hc) hk
  subst ec
  and_intros
  refine v_neRefl (d := .tup [.str "check", dLot [0, 1]]) rfl (by decide) ?_
  and_intros
  refine bF rfl ?_
  and_intros
  refine i_fam2 (fok_of (n := 2) (L := [[0], [0, 1]]) (by decide) (by decide) (loks rfl) (by decide)) ?_
  and_intros
  refine sp_lit (n := 2) (L := [[0], [0, 1]]) (v := [1]) (by decide) (loks rfl) (by decide) ((mem_lotsU 2 _).mp (by decide)) (fun s hs e _ => ?_) (fun nv _ _ _ => absurd (by decide) nv)
  have ec : s = [0, 1] := by
    have : ∀ c ∈ lotsU 2, sumL 2 [[0], [0, 1]] c = [1] → c = [0, 1] := by decide
    exact this s ((mem_lotsU 2 s).mpr hs) e
  subst ec
  and_intros
  refine v_neRefl (d := .tup [.str "press", dLot [0, 1]]) rfl (by decide) ?_
  and_intros
  refine bF rfl ?_
  and_intros
  refine sp_law_deepN fun dd n1 hn1 => ?_
  and_intros
  refine sp_some _ (by simp) (by simp) fun odd hodd => ?_
  and_intros
  refine sp_law_deepN fun de n2 hn2 => ?_
  and_intros
  refine sp_some _ (by simp) (by simp) fun none hnone => ?_
  have ho1 : noObj odd = true := by
    refine List.all_eq_true.mp ?_ odd hodd
    simp [noObj, noObjs_all, noObjk, hn1.no]
  have ho2 : numsB 2 odd = false := by
    have : (numsB 2 odd = false) := by
      simp only [List.mem_cons, List.not_mem_nil, or_false] at hodd
      rcases hodd with rfl | rfl | rfl | rfl | rfl | rfl | rfl | rfl | rfl | rfl
      · rfl
      · rfl
      · rfl
      · rfl
      · rfl
      · rfl
      · rfl
      · rfl
      · rfl
      · exact nst_nums hn1 2
    exact this
  have hn : noObj none = true := by
    refine List.all_eq_true.mp ?_ none hnone
    simp [noObj, noObjs_all, noObjk, hn2.no]
  have hnl : ∀ m : Int, m ≤ 4 → isLotB m none = false := fun m hm => by
    simp only [List.mem_cons, List.not_mem_nil, or_false] at hnone
    rcases hnone with rfl | rfl | rfl | rfl | rfl | rfl | rfl | rfl | rfl | rfl
    · rfl
    · simp [isLotB, withinB]; omega
    · simp [isLotB, zipD, ltB]
    · simp [isLotB, zipD, ltB]
    · rfl
    · rfl
    · rfl
    · rfl
    · rfl
    · exact nst_lot hn2 m
  and_intros
  refine i_fam2 (fok_of (n := 2) (L := [[0], [0, 1]]) (by decide) (by decide) (loks rfl) (by decide)) ?_
  and_intros
  refine sp_word (x := ⟨"NoSwitches", []⟩) (.inr (.inl rfl)) (fun P E h => ?_) ?_
  · and_intros
    exact sp_pressed_bad (n := 2) (L := [[0], [0, 1]]) ho1 ho2 h
  and_intros
  refine sp_word (x := ⟨"NoLot", []⟩) (.inl rfl) (fun P E h => ?_) ?_
  · and_intros
    exact sp_pressed_badL (n := 2) (L := [[0], [0, 1]]) (s := [0, 0]) (by decide) hn (hnl 2 (by decide)) h
  and_intros
  refine sp_word (x := ⟨"NoLot", []⟩) (.inl rfl) (fun P E h => ?_) ?_
  · and_intros
    exact sp_lit_bad (n := 2) hn (hnl 2 (by decide)) h
  and_intros
  refine sp_word (x := ⟨"NoLot", []⟩) (.inl rfl) (fun P E h => ?_) ?_
  · and_intros
    refine sp_all_of4 fun M hM => ?_
    and_intros
    exact sp_lit_bad (n := 4) hn (hnl 4 (by decide)) h
  and_intros
  refine sp_word (x := ⟨"TooMany", [("most", .int 12)]⟩) (.inr (.inr rfl)) (fun P E h => ?_) ?_
  · and_intros
    refine sp_all_of4 fun M hM => ?_
    and_intros
    exact sp_lit_many (n := 4) (v := [0]) (by omega) ((mem_lotsU 4 _).mp (by decide)) h
  and_intros
  refine sp_word (x := ⟨"NoLot", []⟩) (.inl rfl) (fun P E h => ?_) ?_
  · and_intros
    exact sp_is_lit_bad (n := 2) hn (hnl 2 (by decide)) h
  and_intros
  refine v_neRefl (d := .lst [.str "switches", .str "lot", .str "lot", .str "lot", .tup [.str "many", .int 12], .str "lot"]) rfl (by decide) ?_
  and_intros
  refine bF rfl ?_
  and_intros
  refine for_havoc encI (List.range 4) [3, 4, 5, 6, 7, 8, 9, 10, 11, 12, 13, 14, 15, 16, 17] (fun Q hQ => by and_intros; exact hQ) (fun y hy f N hN => ?_) (fun f => ?_)
  · and_intros
    refine turn3 _ ?_ ?_ ?_
    · simp [setF_len]
    · simp [setF]
    · intro ρ' h
      exact hN _ (HV.trans (by subst_eqs) h (by decide))
  · and_intros
    rfl
end K77
end
section
set_option Elab.async false
set_option linter.all false
set_option maxRecDepth 100000
set_option maxHeartbeats 0
namespace K77
open PySem PySem.Spec L2 PL
open PyProof.Rows hiding St
abbrev top (i : Nat) : Stmt := PySem.Challenge.pw_pointlots_k77_whole_lamps_lit_by_switche.main.body.getD i (.Pass ⟨0, 0, 0, 0⟩)
def clsBody : Stmt → List Stmt
  | .ClassDef (body := b) .. => b
  | _ => []
abbrev mth (i j : Nat) : Stmt := (clsBody (top i)).getD j (.Pass ⟨0, 0, 0, 0⟩)
abbrev s_is_integer : Stmt := top 1
abbrev s_is_within : Stmt := top 2
abbrev s_is_tuple : Stmt := top 3
abbrev s_is_lot : Stmt := top 4
abbrev s_is_count : Stmt := top 14
abbrev s_check_count : Stmt := top 15
abbrev s_is_lot_of : Stmt := top 16
abbrev s_are_lots : Stmt := top 17
abbrev s_made : Stmt := top 19
abbrev s_lot_of : Stmt := top 20
abbrev s_lots_of : Stmt := top 21
abbrev s_common_of : Stmt := top 22
abbrev s_check_lot : Stmt := top 23
abbrev s_all_of : Stmt := top 24
abbrev s_sum_lots : Stmt := top 27
abbrev s_are_numbers : Stmt := top 28
abbrev s_behind : Stmt := top 29
abbrev s_pressed : Stmt := top 30
abbrev s_check_few : Stmt := top 31
abbrev s_all_presses : Stmt := top 32
abbrev s_is_check : Stmt := top 33
abbrev s_lit : Stmt := top 34
abbrev s_is_lit : Stmt := top 35
abbrev s__law_hand : Stmt := top 37
abbrev s__law_draw : Stmt := top 38
abbrev s__law_some : Stmt := top 39
abbrev s__law_is_int : Stmt := top 40
abbrev s__law_all : Stmt := top 41
abbrev s__law_in : Stmt := top 42
abbrev s__law_family : Stmt := top 43
abbrev s__law_deep : Stmt := top 44
abbrev s__law_lit : Stmt := top 45
abbrev s__law_word : Stmt := top 46
abbrev s__law_is_odd : Stmt := top 47
abbrev s__law_checks : Stmt := top 48
abbrev s__law_is_rising : Stmt := top 49
abbrev s__law_is_told : Stmt := top 50
abbrev s__law_bent : Stmt := top 51
abbrev s_law : Stmt := top 52
abbrev s_Family___init__ : Stmt := mth 18 0
abbrev s_Family_there : Stmt := mth 18 2
def D_is_integer : He.DefD := ⟨("is_integer", none), "is_integer", "is_integer", defArgs s_is_integer, defBody s_is_integer, defScope s_is_integer, [], []⟩
def D_is_within : He.DefD := ⟨("is_within", none), "is_within", "is_within", defArgs s_is_within, defBody s_is_within, defScope s_is_within, [], []⟩
def D_is_tuple : He.DefD := ⟨("is_tuple", none), "is_tuple", "is_tuple", defArgs s_is_tuple, defBody s_is_tuple, defScope s_is_tuple, [], []⟩
def D_is_lot : He.DefD := ⟨("is_lot", none), "is_lot", "is_lot", defArgs s_is_lot, defBody s_is_lot, defScope s_is_lot, [], []⟩
def D_is_count : He.DefD := ⟨("is_count", none), "is_count", "is_count", defArgs s_is_count, defBody s_is_count, defScope s_is_count, [], []⟩
def D_check_count : He.DefD := ⟨("check_count", none), "check_count", "check_count", defArgs s_check_count, defBody s_check_count, defScope s_check_count, [], []⟩
def D_is_lot_of : He.DefD := ⟨("is_lot_of", none), "is_lot_of", "is_lot_of", defArgs s_is_lot_of, defBody s_is_lot_of, defScope s_is_lot_of, [], []⟩
def D_are_lots : He.DefD := ⟨("are_lots", none), "are_lots", "are_lots", defArgs s_are_lots, defBody s_are_lots, defScope s_are_lots, [], []⟩
def D_made : He.DefD := ⟨("made", none), "made", "made", defArgs s_made, defBody s_made, defScope s_made, [], []⟩
def D_lot_of : He.DefD := ⟨("lot_of", none), "lot_of", "lot_of", defArgs s_lot_of, defBody s_lot_of, defScope s_lot_of, [], []⟩
def D_lots_of : He.DefD := ⟨("lots_of", none), "lots_of", "lots_of", defArgs s_lots_of, defBody s_lots_of, defScope s_lots_of, [], []⟩
def D_common_of : He.DefD := ⟨("common_of", none), "common_of", "common_of", defArgs s_common_of, defBody s_common_of, defScope s_common_of, [], []⟩
def D_check_lot : He.DefD := ⟨("check_lot", none), "check_lot", "check_lot", defArgs s_check_lot, defBody s_check_lot, defScope s_check_lot, [], []⟩
def D_all_of : He.DefD := ⟨("all_of", none), "all_of", "all_of", defArgs s_all_of, defBody s_all_of, defScope s_all_of, [], []⟩
def D_sum_lots : He.DefD := ⟨("sum_lots", none), "sum_lots", "sum_lots", defArgs s_sum_lots, defBody s_sum_lots, defScope s_sum_lots, [], []⟩
def D_are_numbers : He.DefD := ⟨("are_numbers", none), "are_numbers", "are_numbers", defArgs s_are_numbers, defBody s_are_numbers, defScope s_are_numbers, [], []⟩
def D_behind : He.DefD := ⟨("behind", none), "behind", "behind", defArgs s_behind, defBody s_behind, defScope s_behind, [], []⟩
def D_pressed : He.DefD := ⟨("pressed", none), "pressed", "pressed", defArgs s_pressed, defBody s_pressed, defScope s_pressed, [], []⟩
def D_check_few : He.DefD := ⟨("check_few", none), "check_few", "check_few", defArgs s_check_few, defBody s_check_few, defScope s_check_few, [], []⟩
def D_all_presses : He.DefD := ⟨("all_presses", none), "all_presses", "all_presses", defArgs s_all_presses, defBody s_all_presses, defScope s_all_presses, [], []⟩
def D_is_check : He.DefD := ⟨("is_check", none), "is_check", "is_check", defArgs s_is_check, defBody s_is_check, defScope s_is_check, [], []⟩
def D_lit : He.DefD := ⟨("lit", none), "lit", "lit", defArgs s_lit, defBody s_lit, defScope s_lit, [], []⟩
def D_is_lit : He.DefD := ⟨("is_lit", none), "is_lit", "is_lit", defArgs s_is_lit, defBody s_is_lit, defScope s_is_lit, [], []⟩
def D__law_hand : He.DefD := ⟨("_law_hand", none), "_law_hand", "_law_hand", defArgs s__law_hand, defBody s__law_hand, defScope s__law_hand, [], []⟩
def D__law_draw : He.DefD := ⟨("_law_draw", none), "_law_draw", "_law_draw", defArgs s__law_draw, defBody s__law_draw, defScope s__law_draw, [], []⟩
def D__law_some : He.DefD := ⟨("_law_some", none), "_law_some", "_law_some", defArgs s__law_some, defBody s__law_some, defScope s__law_some, [], []⟩
def D__law_is_int : He.DefD := ⟨("_law_is_int", none), "_law_is_int", "_law_is_int", defArgs s__law_is_int, defBody s__law_is_int, defScope s__law_is_int, [], []⟩
def D__law_all : He.DefD := ⟨("_law_all", none), "_law_all", "_law_all", defArgs s__law_all, defBody s__law_all, defScope s__law_all, [], []⟩
def D__law_in : He.DefD := ⟨("_law_in", none), "_law_in", "_law_in", defArgs s__law_in, defBody s__law_in, defScope s__law_in, [], []⟩
def D__law_family : He.DefD := ⟨("_law_family", none), "_law_family", "_law_family", defArgs s__law_family, defBody s__law_family, defScope s__law_family, [], []⟩
def D__law_deep : He.DefD := ⟨("_law_deep", none), "_law_deep", "_law_deep", defArgs s__law_deep, defBody s__law_deep, defScope s__law_deep, [], []⟩
def D__law_lit : He.DefD := ⟨("_law_lit", none), "_law_lit", "_law_lit", defArgs s__law_lit, defBody s__law_lit, defScope s__law_lit, [], []⟩
def D__law_word : He.DefD := ⟨("_law_word", none), "_law_word", "_law_word", defArgs s__law_word, defBody s__law_word, defScope s__law_word, [], []⟩
def D__law_is_odd : He.DefD := ⟨("_law_is_odd", none), "_law_is_odd", "_law_is_odd", defArgs s__law_is_odd, defBody s__law_is_odd, defScope s__law_is_odd, [], []⟩
def D__law_checks : He.DefD := ⟨("_law_checks", none), "_law_checks", "_law_checks", defArgs s__law_checks, defBody s__law_checks, defScope s__law_checks, [], []⟩
def D__law_is_rising : He.DefD := ⟨("_law_is_rising", none), "_law_is_rising", "_law_is_rising", defArgs s__law_is_rising, defBody s__law_is_rising, defScope s__law_is_rising, [], []⟩
def D__law_is_told : He.DefD := ⟨("_law_is_told", none), "_law_is_told", "_law_is_told", defArgs s__law_is_told, defBody s__law_is_told, defScope s__law_is_told, [], []⟩
def D__law_bent : He.DefD := ⟨("_law_bent", none), "_law_bent", "_law_bent", defArgs s__law_bent, defBody s__law_bent, defScope s__law_bent, [], []⟩
def D_law : He.DefD := ⟨("law", none), "law", "law", defArgs s_law, defBody s_law, defScope s_law, [], []⟩
def D_Family___init__ : He.DefD := ⟨("Family", some "__init__"), "__init__", "Family.__init__", defArgs s_Family___init__, defBody s_Family___init__, defScope s_Family___init__, [], []⟩
def D_Family_there : He.DefD := ⟨("Family", some "there"), "there", "Family.there", defArgs s_Family_there, defBody s_Family_there, defScope s_Family_there, [], []⟩
def fn : List He.DefD := ([D_is_integer, D_is_within, D_is_tuple, D_is_lot, D_is_count, D_check_count, D_is_lot_of, D_are_lots, D_made, D_lot_of, D_lots_of, D_common_of, D_check_lot, D_all_of, D_sum_lots, D_are_numbers, D_behind, D_pressed, D_check_few, D_all_presses] : List He.DefD) ++ ([D_is_check, D_lit, D_is_lit, D__law_hand, D__law_draw, D__law_some, D__law_is_int, D__law_all, D__law_in, D__law_family, D__law_deep, D__law_lit, D__law_word, D__law_is_odd, D__law_checks, D__law_is_rising, D__law_is_told, D__law_bent, D_law, D_Family___init__] : List He.DefD) ++ ([D_Family_there] : List He.DefD)
def fa : List He.Fa := ([.glo "is_integer", .glo "is_within", .glo "is_tuple", .glo "is_lot", .glo "is_count", .glo "check_count", .glo "is_lot_of", .glo "are_lots", .glo "made", .glo "lot_of", .glo "lots_of", .glo "common_of", .glo "check_lot", .glo "all_of", .glo "sum_lots", .glo "are_numbers", .glo "behind", .glo "pressed", .glo "check_few", .glo "all_presses"] : List He.Fa) ++ ([.glo "is_check", .glo "lit", .glo "is_lit", .glo "_law_hand", .glo "_law_draw", .glo "_law_some", .glo "_law_is_int", .glo "_law_all", .glo "_law_in", .glo "_law_family", .glo "_law_deep", .glo "_law_lit", .glo "_law_word", .glo "_law_is_odd", .glo "_law_checks", .glo "_law_is_rising", .glo "_law_is_told", .glo "_law_bent", .glo "law", .glo "Family"] : List He.Fa) ++ ([.free "ValueError", .free "abs", .free "all", .free "any", .free "bool", .free "dict", .free "int", .free "isinstance", .free "len", .free "list", .free "min", .free "range", .free "repr", .free "set", .free "sorted", .free "str", .free "super", .free "tuple", .free "zip", .int "MOST_POINTS" 7] : List He.Fa) ++ ([.int "MOST_SWITCHES" 12, .cls "Family", .noat "Family" "points", .noat "Family" "lots", .noat "Family" "looked", .meth "Family" "there", .mkr "Family", .glo "NoLot", .glo "NoSwitches", .glo "TooMany", .noat "TooMany" "most"] : List He.Fa)
abbrev s_X_NoLot : Stmt := mth 8 0
def XD_NoLot : XcD := ⟨"NoLot", "NoLot.__init__", s_X_NoLot, "/claim/cut.py"⟩
abbrev s_X_NoSwitches : Stmt := mth 11 0
def XD_NoSwitches : XcD := ⟨"NoSwitches", "NoSwitches.__init__", s_X_NoSwitches, "/claim/cut.py"⟩
abbrev s_X_TooMany : Stmt := mth 10 0
def XD_TooMany : XcD := ⟨"TooMany", "TooMany.__init__", s_X_TooMany, "/claim/cut.py"⟩
def xs : List XcD := [XD_NoLot, XD_NoSwitches, XD_TooMany]
def ts : List Pth := [("law", none)]
def xa : List (PySem.W.Frag → Bool) := [xknB knX ownX isaT fldX, tabsB ts, nodupB ts]
def loose : List PySem.Str := (["is_integer", "is_within", "is_tuple", "is_lot", "is_count", "check_count", "is_lot_of", "are_lots", "made", "lot_of", "lots_of", "common_of", "check_lot", "all_of", "sum_lots", "are_numbers", "behind", "pressed", "check_few", "all_presses", "is_check", "lit", "is_lit", "_law_hand", "_law_draw", "_law_some", "_law_is_int", "_law_all", "_law_in", "_law_family"] : List PySem.Str) ++ (["_law_deep", "_law_lit", "_law_word", "_law_is_odd", "_law_checks", "_law_is_rising", "_law_is_told", "_law_bent", "LotError", "BadFamily", "NoLot", "NoCount", "TooMany", "NoSwitches", "Family", "MOST_POINTS", "MOST_SWITCHES"] : List PySem.Str)
abbrev R : PySem.W.OpenRow := PySem.W.OpenLaw.row PySem.Challenge.rw_pointlots_k77_whole_lamps_lit_by_switche
abbrev hk : PySem.W.Hook := hookY 4 fa fn xs xa ts
def ob (s : PySem.W.SharedT) : AlY := obsYG 4 fa fn xs xa ts (HandSHeadRun.getT s)
theorem ob_eq (s : PySem.W.SharedT) : ob s = hk.obs s.abs := obsYG_eq (HandSHeadRun.getT_eq s)
theorem run (w : World) : HandSHeadRun.RunEq R (PySem.W.view R.prog [52]) hk ob 4000 loose w := by
  intro os
  kernel_rfl
end K77
end
section
set_option Elab.async false
set_option linter.all false
set_option maxRecDepth 100000
set_option maxHeartbeats 0
namespace K77
open PySem PySem.Spec L2 PL
open PyProof.Rows hiding St
def oF (K : PySem.W.Frag) : OP := { CF := He.ga K "Family", valid := validF, names := vNames, named := v_named, few := by decide, more := noMore, moreOk := noMoreOk, tabs := [(tabA K ("law", none), ("law" : Str) ++ ".<locals>." ++ "<lambda>")] }
structure Txt (P : Program) (K : PySem.W.Frag) (mg : Str → Option Value) where
  d_is_integer : FuncData
  F_is_integer : FnP K "is_integer" "is_integer" s_is_integer (He.fAd K ("is_integer", none)) d_is_integer
  g_is_integer : mg "is_integer" = some (.ref (He.ga K "is_integer"))
  d_is_within : FuncData
  F_is_within : FnP K "is_within" "is_within" s_is_within (He.fAd K ("is_within", none)) d_is_within
  g_is_within : mg "is_within" = some (.ref (He.ga K "is_within"))
  d_is_tuple : FuncData
  F_is_tuple : FnP K "is_tuple" "is_tuple" s_is_tuple (He.fAd K ("is_tuple", none)) d_is_tuple
  g_is_tuple : mg "is_tuple" = some (.ref (He.ga K "is_tuple"))
  d_is_lot : FuncData
  F_is_lot : FnP K "is_lot" "is_lot" s_is_lot (He.fAd K ("is_lot", none)) d_is_lot
  g_is_lot : mg "is_lot" = some (.ref (He.ga K "is_lot"))
  d_is_count : FuncData
  F_is_count : FnP K "is_count" "is_count" s_is_count (He.fAd K ("is_count", none)) d_is_count
  g_is_count : mg "is_count" = some (.ref (He.ga K "is_count"))
  d_check_count : FuncData
  F_check_count : FnP K "check_count" "check_count" s_check_count (He.fAd K ("check_count", none)) d_check_count
  g_check_count : mg "check_count" = some (.ref (He.ga K "check_count"))
  d_is_lot_of : FuncData
  F_is_lot_of : FnP K "is_lot_of" "is_lot_of" s_is_lot_of (He.fAd K ("is_lot_of", none)) d_is_lot_of
  g_is_lot_of : mg "is_lot_of" = some (.ref (He.ga K "is_lot_of"))
  d_are_lots : FuncData
  F_are_lots : FnP K "are_lots" "are_lots" s_are_lots (He.fAd K ("are_lots", none)) d_are_lots
  g_are_lots : mg "are_lots" = some (.ref (He.ga K "are_lots"))
  d_made : FuncData
  F_made : FnP K "made" "made" s_made (He.fAd K ("made", none)) d_made
  g_made : mg "made" = some (.ref (He.ga K "made"))
  d_lot_of : FuncData
  F_lot_of : FnP K "lot_of" "lot_of" s_lot_of (He.fAd K ("lot_of", none)) d_lot_of
  g_lot_of : mg "lot_of" = some (.ref (He.ga K "lot_of"))
  d_lots_of : FuncData
  F_lots_of : FnP K "lots_of" "lots_of" s_lots_of (He.fAd K ("lots_of", none)) d_lots_of
  g_lots_of : mg "lots_of" = some (.ref (He.ga K "lots_of"))
  d_common_of : FuncData
  F_common_of : FnP K "common_of" "common_of" s_common_of (He.fAd K ("common_of", none)) d_common_of
  g_common_of : mg "common_of" = some (.ref (He.ga K "common_of"))
  d_check_lot : FuncData
  F_check_lot : FnP K "check_lot" "check_lot" s_check_lot (He.fAd K ("check_lot", none)) d_check_lot
  g_check_lot : mg "check_lot" = some (.ref (He.ga K "check_lot"))
  d_all_of : FuncData
  F_all_of : FnP K "all_of" "all_of" s_all_of (He.fAd K ("all_of", none)) d_all_of
  g_all_of : mg "all_of" = some (.ref (He.ga K "all_of"))
  d_sum_lots : FuncData
  F_sum_lots : FnP K "sum_lots" "sum_lots" s_sum_lots (He.fAd K ("sum_lots", none)) d_sum_lots
  g_sum_lots : mg "sum_lots" = some (.ref (He.ga K "sum_lots"))
  d_are_numbers : FuncData
  F_are_numbers : FnP K "are_numbers" "are_numbers" s_are_numbers (He.fAd K ("are_numbers", none)) d_are_numbers
  g_are_numbers : mg "are_numbers" = some (.ref (He.ga K "are_numbers"))
  d_behind : FuncData
  F_behind : FnP K "behind" "behind" s_behind (He.fAd K ("behind", none)) d_behind
  g_behind : mg "behind" = some (.ref (He.ga K "behind"))
  d_pressed : FuncData
  F_pressed : FnP K "pressed" "pressed" s_pressed (He.fAd K ("pressed", none)) d_pressed
  g_pressed : mg "pressed" = some (.ref (He.ga K "pressed"))
  d_check_few : FuncData
  F_check_few : FnP K "check_few" "check_few" s_check_few (He.fAd K ("check_few", none)) d_check_few
  g_check_few : mg "check_few" = some (.ref (He.ga K "check_few"))
  d_all_presses : FuncData
  F_all_presses : FnP K "all_presses" "all_presses" s_all_presses (He.fAd K ("all_presses", none)) d_all_presses
  g_all_presses : mg "all_presses" = some (.ref (He.ga K "all_presses"))
  d_is_check : FuncData
  F_is_check : FnP K "is_check" "is_check" s_is_check (He.fAd K ("is_check", none)) d_is_check
  g_is_check : mg "is_check" = some (.ref (He.ga K "is_check"))
  d_lit : FuncData
  F_lit : FnP K "lit" "lit" s_lit (He.fAd K ("lit", none)) d_lit
  g_lit : mg "lit" = some (.ref (He.ga K "lit"))
  d_is_lit : FuncData
  F_is_lit : FnP K "is_lit" "is_lit" s_is_lit (He.fAd K ("is_lit", none)) d_is_lit
  g_is_lit : mg "is_lit" = some (.ref (He.ga K "is_lit"))
  d__law_hand : FuncData
  F__law_hand : FnP K "_law_hand" "_law_hand" s__law_hand (He.fAd K ("_law_hand", none)) d__law_hand
  g__law_hand : mg "_law_hand" = some (.ref (He.ga K "_law_hand"))
  d__law_draw : FuncData
  F__law_draw : FnP K "_law_draw" "_law_draw" s__law_draw (He.fAd K ("_law_draw", none)) d__law_draw
  g__law_draw : mg "_law_draw" = some (.ref (He.ga K "_law_draw"))
  d__law_some : FuncData
  F__law_some : FnP K "_law_some" "_law_some" s__law_some (He.fAd K ("_law_some", none)) d__law_some
  g__law_some : mg "_law_some" = some (.ref (He.ga K "_law_some"))
  d__law_is_int : FuncData
  F__law_is_int : FnP K "_law_is_int" "_law_is_int" s__law_is_int (He.fAd K ("_law_is_int", none)) d__law_is_int
  g__law_is_int : mg "_law_is_int" = some (.ref (He.ga K "_law_is_int"))
  d__law_all : FuncData
  F__law_all : FnP K "_law_all" "_law_all" s__law_all (He.fAd K ("_law_all", none)) d__law_all
  g__law_all : mg "_law_all" = some (.ref (He.ga K "_law_all"))
  d__law_in : FuncData
  F__law_in : FnP K "_law_in" "_law_in" s__law_in (He.fAd K ("_law_in", none)) d__law_in
  g__law_in : mg "_law_in" = some (.ref (He.ga K "_law_in"))
  d__law_family : FuncData
  F__law_family : FnP K "_law_family" "_law_family" s__law_family (He.fAd K ("_law_family", none)) d__law_family
  g__law_family : mg "_law_family" = some (.ref (He.ga K "_law_family"))
  d__law_deep : FuncData
  F__law_deep : FnP K "_law_deep" "_law_deep" s__law_deep (He.fAd K ("_law_deep", none)) d__law_deep
  g__law_deep : mg "_law_deep" = some (.ref (He.ga K "_law_deep"))
  d__law_lit : FuncData
  F__law_lit : FnP K "_law_lit" "_law_lit" s__law_lit (He.fAd K ("_law_lit", none)) d__law_lit
  g__law_lit : mg "_law_lit" = some (.ref (He.ga K "_law_lit"))
  d__law_word : FuncData
  F__law_word : FnP K "_law_word" "_law_word" s__law_word (He.fAd K ("_law_word", none)) d__law_word
  g__law_word : mg "_law_word" = some (.ref (He.ga K "_law_word"))
  d__law_is_odd : FuncData
  F__law_is_odd : FnP K "_law_is_odd" "_law_is_odd" s__law_is_odd (He.fAd K ("_law_is_odd", none)) d__law_is_odd
  g__law_is_odd : mg "_law_is_odd" = some (.ref (He.ga K "_law_is_odd"))
  d__law_checks : FuncData
  F__law_checks : FnP K "_law_checks" "_law_checks" s__law_checks (He.fAd K ("_law_checks", none)) d__law_checks
  g__law_checks : mg "_law_checks" = some (.ref (He.ga K "_law_checks"))
  d__law_is_rising : FuncData
  F__law_is_rising : FnP K "_law_is_rising" "_law_is_rising" s__law_is_rising (He.fAd K ("_law_is_rising", none)) d__law_is_rising
  g__law_is_rising : mg "_law_is_rising" = some (.ref (He.ga K "_law_is_rising"))
  d__law_is_told : FuncData
  F__law_is_told : FnP K "_law_is_told" "_law_is_told" s__law_is_told (He.fAd K ("_law_is_told", none)) d__law_is_told
  g__law_is_told : mg "_law_is_told" = some (.ref (He.ga K "_law_is_told"))
  d__law_bent : FuncData
  F__law_bent : FnP K "_law_bent" "_law_bent" s__law_bent (He.fAd K ("_law_bent", none)) d__law_bent
  g__law_bent : mg "_law_bent" = some (.ref (He.ga K "_law_bent"))
  d_law : FuncData
  F_law : FnP K "law" "law" s_law (He.fAd K ("law", none)) d_law
  g_law : mg "law" = some (.ref (He.ga K "law"))
  d_Family___init__ : FuncData
  F_Family___init__ : FnP K "__init__" "Family.__init__" s_Family___init__ (He.fAd K ("Family", some "__init__")) d_Family___init__
  d_Family_there : FuncData
  F_Family_there : FnP K "there" "Family.there" s_Family_there (He.fAd K ("Family", some "there")) d_Family_there
  n_ValueError : mg "ValueError" = none
  n_abs : mg "abs" = none
  n_all : mg "all" = none
  n_any : mg "any" = none
  n_bool : mg "bool" = none
  n_dict : mg "dict" = none
  n_int : mg "int" = none
  n_isinstance : mg "isinstance" = none
  n_len : mg "len" = none
  n_list : mg "list" = none
  n_min : mg "min" = none
  n_range : mg "range" = none
  n_repr : mg "repr" = none
  n_set : mg "set" = none
  n_sorted : mg "sorted" = none
  n_str : mg "str" = none
  n_super : mg "super" = none
  n_tuple : mg "tuple" = none
  n_zip : mg "zip" = none
  t_MOST_POINTS : Tok
  g_MOST_POINTS : mg "MOST_POINTS" = some (.int 7 t_MOST_POINTS)
  t_MOST_SWITCHES : Tok
  g_MOST_SWITCHES : mg "MOST_SWITCHES" = some (.int 12 t_MOST_SWITCHES)
  gF : mg "Family" = some (.ref (He.ga K "Family"))
  fam : FamF K (oF K)
  mkF : Mk K (He.ga K "Family") (He.ma K (He.ga K "Family") "__init__")
  m_there : Meth K (He.ga K "Family") "there" (He.ma K (He.ga K "Family") "there")
  x_NoLot : SxK P K (xcC K XD_NoLot) (xcF K XD_NoLot) (xcCell K XD_NoLot) s_X_NoLot ["self"]
  gx_NoLot : mg "NoLot" = some (.ref (xcC K XD_NoLot))
  x_NoSwitches : SxK P K (xcC K XD_NoSwitches) (xcF K XD_NoSwitches) (xcCell K XD_NoSwitches) s_X_NoSwitches ["self"]
  gx_NoSwitches : mg "NoSwitches" = some (.ref (xcC K XD_NoSwitches))
  x_TooMany : SxK P K (xcC K XD_TooMany) (xcF K XD_TooMany) (xcCell K XD_TooMany) s_X_TooMany ["self", "most"]
  gx_TooMany : mg "TooMany" = some (.ref (xcC K XD_TooMany))
  nx_TooMany : PySem.W.findIn K (.ref (xcC K XD_TooMany)) "most" = some none
  xk : XKn K mg knX ownX isaT fldX
  cd_law : d_law.code = .ref (codeA K ("law", none))
  tb_law : ∀ base : Heap, K.In base → LamX.TabB base mg (codeA K ("law", none)) (tabA K ("law", none))
section
variable {P : Program} {K : PySem.W.Frag} {mg : Str → Option Value}
theorem Txt.b_is_integer (T : Txt P K mg) : Binds K T.d_is_integer ["thing"] [] := T.F_is_integer.bindsN fun _ _ _ _ _ _ us hl => match us, hl with | [_], _ => rfl
theorem Txt.b_is_within (T : Txt P K mg) : Binds K T.d_is_within ["thing", "low", "high"] [] := T.F_is_within.bindsN fun _ _ _ _ _ _ us hl => match us, hl with | [_, _, _], _ => rfl
theorem Txt.b_is_tuple (T : Txt P K mg) : Binds K T.d_is_tuple ["thing", "least", "most"] [] := T.F_is_tuple.bindsN fun _ _ _ _ _ _ us hl => match us, hl with | [_, _, _], _ => rfl
theorem Txt.b_is_lot (T : Txt P K mg) : Binds K T.d_is_lot ["thing", "many"] [] := T.F_is_lot.bindsN fun _ _ _ _ _ _ us hl => match us, hl with | [_, _], _ => rfl
theorem Txt.b_is_count (T : Txt P K mg) : Binds K T.d_is_count ["thing"] [] := T.F_is_count.bindsN fun _ _ _ _ _ _ us hl => match us, hl with | [_], _ => rfl
theorem Txt.b_check_count (T : Txt P K mg) : Binds K T.d_check_count ["points"] [] := T.F_check_count.bindsN fun _ _ _ _ _ _ us hl => match us, hl with | [_], _ => rfl
theorem Txt.b_is_lot_of (T : Txt P K mg) : Binds K T.d_is_lot_of ["points", "thing"] [] := T.F_is_lot_of.bindsN fun _ _ _ _ _ _ us hl => match us, hl with | [_, _], _ => rfl
theorem Txt.b_are_lots (T : Txt P K mg) : Binds K T.d_are_lots ["points", "thing"] [] := T.F_are_lots.bindsN fun _ _ _ _ _ _ us hl => match us, hl with | [_, _], _ => rfl
theorem Txt.b_made (T : Txt P K mg) : Binds K T.d_made ["points", "lots"] [] := T.F_made.bindsN fun _ _ _ _ _ _ us hl => match us, hl with | [_, _], _ => rfl
theorem Txt.b_lot_of (T : Txt P K mg) : Binds K T.d_lot_of ["number"] [] := T.F_lot_of.bindsN fun _ _ _ _ _ _ us hl => match us, hl with | [_], _ => rfl
theorem Txt.b_lots_of (T : Txt P K mg) : Binds K T.d_lots_of ["points"] [] := T.F_lots_of.bindsN fun _ _ _ _ _ _ us hl => match us, hl with | [_], _ => rfl
theorem Txt.b_common_of (T : Txt P K mg) : Binds K T.d_common_of ["one", "other"] [] := T.F_common_of.bindsN fun _ _ _ _ _ _ us hl => match us, hl with | [_, _], _ => rfl
theorem Txt.b_check_lot (T : Txt P K mg) : Binds K T.d_check_lot ["family", "lot"] [] := T.F_check_lot.bindsN fun _ _ _ _ _ _ us hl => match us, hl with | [_, _], _ => rfl
theorem Txt.b_all_of (T : Txt P K mg) : Binds K T.d_all_of ["points"] [] := T.F_all_of.bindsN fun _ _ _ _ _ _ us hl => match us, hl with | [_], _ => rfl
theorem Txt.b_sum_lots (T : Txt P K mg) : Binds K T.d_sum_lots ["one", "other"] [] := T.F_sum_lots.bindsN fun _ _ _ _ _ _ us hl => match us, hl with | [_, _], _ => rfl
theorem Txt.b_are_numbers (T : Txt P K mg) : Binds K T.d_are_numbers ["family", "thing"] [] := T.F_are_numbers.bindsN fun _ _ _ _ _ _ us hl => match us, hl with | [_, _], _ => rfl
theorem Txt.b_behind (T : Txt P K mg) : Binds K T.d_behind ["family", "numbers", "lot"] [] := T.F_behind.bindsN fun _ _ _ _ _ _ us hl => match us, hl with | [_, _, _], _ => rfl
theorem Txt.b_pressed (T : Txt P K mg) : Binds K T.d_pressed ["family", "numbers", "lot"] [] := T.F_pressed.bindsN fun _ _ _ _ _ _ us hl => match us, hl with | [_, _, _], _ => rfl
theorem Txt.b_check_few (T : Txt P K mg) : Binds K T.d_check_few ["family"] [] := T.F_check_few.bindsN fun _ _ _ _ _ _ us hl => match us, hl with | [_], _ => rfl
theorem Txt.b_all_presses (T : Txt P K mg) : Binds K T.d_all_presses ["family"] [] := T.F_all_presses.bindsN fun _ _ _ _ _ _ us hl => match us, hl with | [_], _ => rfl
theorem Txt.b_is_check (T : Txt P K mg) : Binds K T.d_is_check ["family", "lot", "thing"] [] := T.F_is_check.bindsN fun _ _ _ _ _ _ us hl => match us, hl with | [_, _, _], _ => rfl
theorem Txt.b_lit (T : Txt P K mg) : Binds K T.d_lit ["family", "lot"] [] := T.F_lit.bindsN fun _ _ _ _ _ _ us hl => match us, hl with | [_, _], _ => rfl
theorem Txt.b_is_lit (T : Txt P K mg) : Binds K T.d_is_lit ["family", "lot", "thing"] [] := T.F_is_lit.bindsN fun _ _ _ _ _ _ us hl => match us, hl with | [_, _, _], _ => rfl
theorem Txt.b__law_hand (T : Txt P K mg) : Binds K T.d__law_hand ["script"] [] := T.F__law_hand.bindsN fun _ _ _ _ _ _ us hl => match us, hl with | [_], _ => rfl
theorem Txt.b__law_draw (T : Txt P K mg) : Binds K T.d__law_draw ["hand", "many"] [] := T.F__law_draw.bindsN fun _ _ _ _ _ _ us hl => match us, hl with | [_, _], _ => rfl
theorem Txt.b__law_some (T : Txt P K mg) : Binds K T.d__law_some ["hand", "things"] [] := T.F__law_some.bindsN fun _ _ _ _ _ _ us hl => match us, hl with | [_, _], _ => rfl
theorem Txt.b__law_is_int (T : Txt P K mg) : Binds K T.d__law_is_int ["thing", "least_now", "most"] [] := T.F__law_is_int.bindsN fun _ _ _ _ _ _ us hl => match us, hl with | [_, _, _], _ => rfl
theorem Txt.b__law_all (T : Txt P K mg) : Binds K T.d__law_all ["points"] [] := T.F__law_all.bindsN fun _ _ _ _ _ _ us hl => match us, hl with | [_], _ => rfl
theorem Txt.b__law_in (T : Txt P K mg) : Binds K T.d__law_in ["one", "other"] [] := T.F__law_in.bindsN fun _ _ _ _ _ _ us hl => match us, hl with | [_, _], _ => rfl
theorem Txt.b__law_family (T : Txt P K mg) : Binds K T.d__law_family ["hand", "points"] [] := T.F__law_family.bindsN fun _ _ _ _ _ _ us hl => match us, hl with | [_, _], _ => rfl
theorem Txt.b__law_deep (T : Txt P K mg) : Binds K T.d__law_deep ["hand"] [] := T.F__law_deep.bindsN fun _ _ _ _ _ _ us hl => match us, hl with | [_], _ => rfl
theorem Txt.b__law_lit (T : Txt P K mg) : Binds K T.d__law_lit ["lots", "numbers"] [] := T.F__law_lit.bindsN fun _ _ _ _ _ _ us hl => match us, hl with | [_, _], _ => rfl
theorem Txt.b__law_word (T : Txt P K mg) : Binds K T.d__law_word ["call"] [] := T.F__law_word.bindsN fun _ _ _ _ _ _ us hl => match us, hl with | [_], _ => rfl
theorem Txt.b__law_is_odd (T : Txt P K mg) : Binds K T.d__law_is_odd ["one", "other"] [] := T.F__law_is_odd.bindsN fun _ _ _ _ _ _ us hl => match us, hl with | [_, _], _ => rfl
theorem Txt.b__law_checks (T : Txt P K mg) : Binds K T.d__law_checks ["points", "lots", "lot"] [] := T.F__law_checks.bindsN fun _ _ _ _ _ _ us hl => match us, hl with | [_, _, _], _ => rfl
theorem Txt.b__law_is_rising (T : Txt P K mg) : Binds K T.d__law_is_rising ["thing", "below"] [] := T.F__law_is_rising.bindsN fun _ _ _ _ _ _ us hl => match us, hl with | [_, _], _ => rfl
theorem Txt.b__law_is_told (T : Txt P K mg) : Binds K T.d__law_is_told ["points", "lots", "lot", "thing"] [] := T.F__law_is_told.bindsN fun _ _ _ _ _ _ us hl => match us, hl with | [_, _, _, _], _ => rfl
theorem Txt.b__law_bent (T : Txt P K mg) : Binds K T.d__law_bent ["hand", "points", "lots", "told"] [] := T.F__law_bent.bindsN fun _ _ _ _ _ _ us hl => match us, hl with | [_, _, _, _], _ => rfl
theorem Txt.b_law (T : Txt P K mg) : Binds K T.d_law ["script"] [] := T.F_law.bindsN fun _ _ _ _ _ _ us hl => match us, hl with | [_], _ => rfl
theorem Txt.b_Family___init__ (T : Txt P K mg) : Binds K T.d_Family___init__ ["self", "points", "lots"] [] := T.F_Family___init__.bindsN fun _ _ _ _ _ _ us hl => match us, hl with | [_, _, _], _ => rfl
theorem Txt.b_Family_there (T : Txt P K mg) : Binds K T.d_Family_there ["self"] [] := T.F_Family_there.bindsN fun _ _ _ _ _ _ us hl => match us, hl with | [_], _ => rfl
theorem txt_of {h : Heap} (X : K.In h) (G : h.Ns mainGlobals mg) (c : SaysX fa fn xs xa K) (hPf : ((P.main.file : Str) == "/claim/cut.py") = true) (hPt : (P.main.scope.names.lookup ("super" : Str)).isSome = false) : ∃ T : Txt P K mg, True := by
  obtain ⟨d0, F0⟩ := c.d.def_ 0 (d := D_is_integer) rfl
  obtain ⟨d1, F1⟩ := c.d.def_ 1 (d := D_is_within) rfl
  obtain ⟨d2, F2⟩ := c.d.def_ 2 (d := D_is_tuple) rfl
  obtain ⟨d3, F3⟩ := c.d.def_ 3 (d := D_is_lot) rfl
  obtain ⟨d4, F4⟩ := c.d.def_ 4 (d := D_is_count) rfl
  obtain ⟨d5, F5⟩ := c.d.def_ 5 (d := D_check_count) rfl
  obtain ⟨d6, F6⟩ := c.d.def_ 6 (d := D_is_lot_of) rfl
  obtain ⟨d7, F7⟩ := c.d.def_ 7 (d := D_are_lots) rfl
  obtain ⟨d8, F8⟩ := c.d.def_ 8 (d := D_made) rfl
  obtain ⟨d9, F9⟩ := c.d.def_ 9 (d := D_lot_of) rfl
  obtain ⟨d10, F10⟩ := c.d.def_ 10 (d := D_lots_of) rfl
  obtain ⟨d11, F11⟩ := c.d.def_ 11 (d := D_common_of) rfl
  obtain ⟨d12, F12⟩ := c.d.def_ 12 (d := D_check_lot) rfl
  obtain ⟨d13, F13⟩ := c.d.def_ 13 (d := D_all_of) rfl
  obtain ⟨d14, F14⟩ := c.d.def_ 14 (d := D_sum_lots) rfl
  obtain ⟨d15, F15⟩ := c.d.def_ 15 (d := D_are_numbers) rfl
  obtain ⟨d16, F16⟩ := c.d.def_ 16 (d := D_behind) rfl
  obtain ⟨d17, F17⟩ := c.d.def_ 17 (d := D_pressed) rfl
  obtain ⟨d18, F18⟩ := c.d.def_ 18 (d := D_check_few) rfl
  obtain ⟨d19, F19⟩ := c.d.def_ 19 (d := D_all_presses) rfl
  obtain ⟨d20, F20⟩ := c.d.def_ 20 (d := D_is_check) rfl
  obtain ⟨d21, F21⟩ := c.d.def_ 21 (d := D_lit) rfl
  obtain ⟨d22, F22⟩ := c.d.def_ 22 (d := D_is_lit) rfl
  obtain ⟨d23, F23⟩ := c.d.def_ 23 (d := D__law_hand) rfl
  obtain ⟨d24, F24⟩ := c.d.def_ 24 (d := D__law_draw) rfl
  obtain ⟨d25, F25⟩ := c.d.def_ 25 (d := D__law_some) rfl
  obtain ⟨d26, F26⟩ := c.d.def_ 26 (d := D__law_is_int) rfl
  obtain ⟨d27, F27⟩ := c.d.def_ 27 (d := D__law_all) rfl
  obtain ⟨d28, F28⟩ := c.d.def_ 28 (d := D__law_in) rfl
  obtain ⟨d29, F29⟩ := c.d.def_ 29 (d := D__law_family) rfl
  obtain ⟨d30, F30⟩ := c.d.def_ 30 (d := D__law_deep) rfl
  obtain ⟨d31, F31⟩ := c.d.def_ 31 (d := D__law_lit) rfl
  obtain ⟨d32, F32⟩ := c.d.def_ 32 (d := D__law_word) rfl
  obtain ⟨d33, F33⟩ := c.d.def_ 33 (d := D__law_is_odd) rfl
  obtain ⟨d34, F34⟩ := c.d.def_ 34 (d := D__law_checks) rfl
  obtain ⟨d35, F35⟩ := c.d.def_ 35 (d := D__law_is_rising) rfl
  obtain ⟨d36, F36⟩ := c.d.def_ 36 (d := D__law_is_told) rfl
  obtain ⟨d37, F37⟩ := c.d.def_ 37 (d := D__law_bent) rfl
  obtain ⟨d38, F38⟩ := c.d.def_ 38 (d := D_law) rfl
  obtain ⟨d39, F39⟩ := c.d.def_ 39 (d := D_Family___init__) rfl
  obtain ⟨d40, F40⟩ := c.d.def_ 40 (d := D_Family_there) rfl
  obtain ⟨t_MOST_POINTS, g_MOST_POINTS⟩ := He.int_ok X G (c.d.fact 59 (f := .int "MOST_POINTS" 7) rfl)
  obtain ⟨t_MOST_SWITCHES, g_MOST_SWITCHES⟩ := He.int_ok X G (c.d.fact 60 (f := .int "MOST_SWITCHES" 12) rfl)
  obtain ⟨xe0, xb0⟩ := c.exc 0 (d := XD_NoLot) rfl
  obtain ⟨xe1, xb1⟩ := c.exc 1 (d := XD_NoSwitches) rfl
  obtain ⟨xe2, xb2⟩ := c.exc 2 (d := XD_TooMany) rfl
  exact ⟨⟨d0, F0,
    He.glo_ok X G (c.d.fact 0 (f := .glo "is_integer") rfl),
    d1, F1,
    He.glo_ok X G (c.d.fact 1 (f := .glo "is_within") rfl),
    d2, F2,
    He.glo_ok X G (c.d.fact 2 (f := .glo "is_tuple") rfl),
    d3, F3,
    He.glo_ok X G (c.d.fact 3 (f := .glo "is_lot") rfl),
    d4, F4,
    He.glo_ok X G (c.d.fact 4 (f := .glo "is_count") rfl),
    d5, F5,
    He.glo_ok X G (c.d.fact 5 (f := .glo "check_count") rfl),
    d6, F6,
    He.glo_ok X G (c.d.fact 6 (f := .glo "is_lot_of") rfl),
    d7, F7,
    He.glo_ok X G (c.d.fact 7 (f := .glo "are_lots") rfl),
    d8, F8,
    He.glo_ok X G (c.d.fact 8 (f := .glo "made") rfl),
    d9, F9,
    He.glo_ok X G (c.d.fact 9 (f := .glo "lot_of") rfl),
    d10, F10,
    He.glo_ok X G (c.d.fact 10 (f := .glo "lots_of") rfl),
    d11, F11,
    He.glo_ok X G (c.d.fact 11 (f := .glo "common_of") rfl),
    d12, F12,
    He.glo_ok X G (c.d.fact 12 (f := .glo "check_lot") rfl),
    d13, F13,
    He.glo_ok X G (c.d.fact 13 (f := .glo "all_of") rfl),
    d14, F14,
    He.glo_ok X G (c.d.fact 14 (f := .glo "sum_lots") rfl),
    d15, F15,
    He.glo_ok X G (c.d.fact 15 (f := .glo "are_numbers") rfl),
    d16, F16,
    He.glo_ok X G (c.d.fact 16 (f := .glo "behind") rfl),
    d17, F17,
    He.glo_ok X G (c.d.fact 17 (f := .glo "pressed") rfl),
    d18, F18,
    He.glo_ok X G (c.d.fact 18 (f := .glo "check_few") rfl),
    d19, F19,
    He.glo_ok X G (c.d.fact 19 (f := .glo "all_presses") rfl),
    d20, F20,
    He.glo_ok X G (c.d.fact 20 (f := .glo "is_check") rfl),
    d21, F21,
    He.glo_ok X G (c.d.fact 21 (f := .glo "lit") rfl),
    d22, F22,
    He.glo_ok X G (c.d.fact 22 (f := .glo "is_lit") rfl),
    d23, F23,
    He.glo_ok X G (c.d.fact 23 (f := .glo "_law_hand") rfl),
    d24, F24,
    He.glo_ok X G (c.d.fact 24 (f := .glo "_law_draw") rfl),
    d25, F25,
    He.glo_ok X G (c.d.fact 25 (f := .glo "_law_some") rfl),
    d26, F26,
    He.glo_ok X G (c.d.fact 26 (f := .glo "_law_is_int") rfl),
    d27, F27,
    He.glo_ok X G (c.d.fact 27 (f := .glo "_law_all") rfl),
    d28, F28,
    He.glo_ok X G (c.d.fact 28 (f := .glo "_law_in") rfl),
    d29, F29,
    He.glo_ok X G (c.d.fact 29 (f := .glo "_law_family") rfl),
    d30, F30,
    He.glo_ok X G (c.d.fact 30 (f := .glo "_law_deep") rfl),
    d31, F31,
    He.glo_ok X G (c.d.fact 31 (f := .glo "_law_lit") rfl),
    d32, F32,
    He.glo_ok X G (c.d.fact 32 (f := .glo "_law_word") rfl),
    d33, F33,
    He.glo_ok X G (c.d.fact 33 (f := .glo "_law_is_odd") rfl),
    d34, F34,
    He.glo_ok X G (c.d.fact 34 (f := .glo "_law_checks") rfl),
    d35, F35,
    He.glo_ok X G (c.d.fact 35 (f := .glo "_law_is_rising") rfl),
    d36, F36,
    He.glo_ok X G (c.d.fact 36 (f := .glo "_law_is_told") rfl),
    d37, F37,
    He.glo_ok X G (c.d.fact 37 (f := .glo "_law_bent") rfl),
    d38, F38,
    He.glo_ok X G (c.d.fact 38 (f := .glo "law") rfl),
    d39, F39,
    d40, F40,
    He.free_ok X G (c.d.fact 40 (f := .free "ValueError") rfl),
    He.free_ok X G (c.d.fact 41 (f := .free "abs") rfl),
    He.free_ok X G (c.d.fact 42 (f := .free "all") rfl),
    He.free_ok X G (c.d.fact 43 (f := .free "any") rfl),
    He.free_ok X G (c.d.fact 44 (f := .free "bool") rfl),
    He.free_ok X G (c.d.fact 45 (f := .free "dict") rfl),
    He.free_ok X G (c.d.fact 46 (f := .free "int") rfl),
    He.free_ok X G (c.d.fact 47 (f := .free "isinstance") rfl),
    He.free_ok X G (c.d.fact 48 (f := .free "len") rfl),
    He.free_ok X G (c.d.fact 49 (f := .free "list") rfl),
    He.free_ok X G (c.d.fact 50 (f := .free "min") rfl),
    He.free_ok X G (c.d.fact 51 (f := .free "range") rfl),
    He.free_ok X G (c.d.fact 52 (f := .free "repr") rfl),
    He.free_ok X G (c.d.fact 53 (f := .free "set") rfl),
    He.free_ok X G (c.d.fact 54 (f := .free "sorted") rfl),
    He.free_ok X G (c.d.fact 55 (f := .free "str") rfl),
    He.free_ok X G (c.d.fact 56 (f := .free "super") rfl),
    He.free_ok X G (c.d.fact 57 (f := .free "tuple") rfl),
    He.free_ok X G (c.d.fact 58 (f := .free "zip") rfl),
    t_MOST_POINTS, g_MOST_POINTS,
    t_MOST_SWITCHES, g_MOST_SWITCHES,
    He.glo_ok X G (c.d.fact 39 (f := .glo "Family") rfl),
    ⟨He.cls_ok (c.d.fact 61 (f := .cls "Family") rfl), He.noat_ok (c.d.fact 62 (f := .noat "Family" "points") rfl), He.noat_ok (c.d.fact 63 (f := .noat "Family" "lots") rfl), He.noat_ok (c.d.fact 64 (f := .noat "Family" "looked") rfl)⟩,
    He.mkr_ok (c.d.fact 66 (f := .mkr "Family") rfl),
    He.meth_ok (c.d.fact 65 (f := .meth "Family" "there") rfl),
    xc_ok xe0 xb0 (by decide +kernel) hPf hPt,
    He.glo_ok X G (c.d.fact 67 (f := .glo "NoLot") rfl),
    xc_ok xe1 xb1 (by decide +kernel) hPf hPt,
    He.glo_ok X G (c.d.fact 68 (f := .glo "NoSwitches") rfl),
    xc_ok xe2 xb2 (by decide +kernel) hPf hPt,
    He.glo_ok X G (c.d.fact 69 (f := .glo "TooMany") rfl),
    He.noat_ok (c.d.fact 70 (f := .noat "TooMany" "most") rfl),
    xkn_ok X G (c.fac 0 (f := xknB knX ownX isaT fldX) rfl),
    code_of (x := "law") (qual := "law") (st := s_law) F38 (tabs_at (c.fac 1 (f := tabsB ts) rfl) (p := ("law", none)) (by simp [ts])),
    (tabB_ok X G (tabs_at (c.fac 1 (f := tabsB ts) rfl) (p := ("law", none)) (by simp [ts]))).1⟩, trivial⟩
end
theorem rz_NoLot {X : Cx} {c : Pc} {C fI cc : Addr} {k : Nat} {p pos pos' : Pos} (S : SxK X.prog X.K C fI cc s_X_NoLot ["self"]) (hm : X.mg "NoLot" = some (.ref C)) (mS : X.mg "super" = none) (hr : Room (k + 1) X.A) (hc : X.calm = true) (tk : Takes X c.W) (hcm : c.mg "NoLot" = some (.ref C)) (hg : Gl X "NoLot" := by rfl) :
    PS X (.Raise (some (.Call (.Name "NoLot" p) [] [] pos)) none pos') (tWS c (wRaise0 "NoLot")) :=
  ws_raise0 hc tk hcm (pmk0 S hm mS hr hg rfl ⟨_, rfl, rfl⟩ (fun _ _ _ _ _ _ _ _ _ => rfl) (fun _ => ⟨_, rfl⟩))
theorem rz_NoSwitches {X : Cx} {c : Pc} {C fI cc : Addr} {k : Nat} {p pos pos' : Pos} (S : SxK X.prog X.K C fI cc s_X_NoSwitches ["self"]) (hm : X.mg "NoSwitches" = some (.ref C)) (mS : X.mg "super" = none) (hr : Room (k + 1) X.A) (hc : X.calm = true) (tk : Takes X c.W) (hcm : c.mg "NoSwitches" = some (.ref C)) (hg : Gl X "NoSwitches" := by rfl) :
    PS X (.Raise (some (.Call (.Name "NoSwitches" p) [] [] pos)) none pos') (tWS c (wRaise0 "NoSwitches")) :=
  ws_raise0 hc tk hcm (pmk0 S hm mS hr hg rfl ⟨_, rfl, rfl⟩ (fun _ _ _ _ _ _ _ _ _ => rfl) (fun _ => ⟨_, rfl⟩))
theorem rz_TooMany {X : Cx} {c : Pc} {o : OP} {C fI cc : Addr} {k : Nat} {p pos pos' : Pos} {e : Expr} {fe : WE} (hJ : c.J = JO o) (S : SxK X.prog X.K C fI cc s_X_TooMany ["self", "most"]) (hm : X.mg "TooMany" = some (.ref C)) (mS : X.mg "super" = none) (hr : Room (k + 1) X.A) (hc : X.calm = true) (tk : Takes X c.W) (hcm : c.mg "TooMany" = some (.ref C))
    (hno : PySem.W.findIn X.K (.ref C) "most" = some none) (he : PE X e (tWE c fe)) (hg : Gl X "TooMany" := by rfl) (hs : starEach [e] X.env = (false, eval e X.env) :: starEach [] X.env := by rfl) :
    PS X (.Raise (some (.Call (.Name "TooMany" p) [e] [] pos)) none pos') (tWS c (wRaise1 "TooMany" "most" fe)) :=
  ws_raise1 hJ hc tk hcm he hs (fun ha => pmk1 S hm mS hr hg ha rfl ⟨_, rfl, rfl⟩ (fun _ _ _ _ _ _ _ _ _ _ => rfl) (fun _ => ⟨_, rfl⟩) (by decide) (by decide) hno (by decide) hs)
section
variable {p : Around → Prop} {P : Program} {w : World} {K : PySem.W.Frag} {mg : Str → Option Value} {base : Heap}
abbrev N_is_integer : List Str := ["thing"]
theorem sc_is_integer : FnScope N_is_integer ["thing"] (defScope s_is_integer) := ⟨rfl, rfl, rfl, by decide +kernel, rfl, by decide +kernel, by decide +kernel⟩
theorem ok_is_integer (T : Txt P K mg) (kp : Keeps p) : FnG p P w K mg base (L2.CX P w) 1 (He.fAd K ("is_integer", none)) T.d_is_integer ["thing"] (spD (JO (oF K)) mg 1 m_is_integer) :=
  def_ok (jo := joOk (oF K)) T.F_is_integer sc_is_integer kp fun cdv A outer s H E G hr hpa =>
  (ws_one (ws_ret (pd_and (pd_isi (T := "int") (pd_var 0) rfl T.n_isinstance rfl T.n_int bt_int) (pd_one (pd_not (pd_isi (T := "bool") (pd_var 0) rfl T.n_isinstance rfl T.n_bool bt_bool))))))
abbrev N_is_within : List Str := ["thing", "low", "high"]
theorem sc_is_within : FnScope N_is_within ["thing", "low", "high"] (defScope s_is_within) := ⟨rfl, rfl, rfl, by decide +kernel, rfl, by decide +kernel, by decide +kernel⟩
theorem ok_is_within (T : Txt P K mg) (kp : Keeps p) : FnG p P w K mg base (L2.CX P w) 2 (He.fAd K ("is_within", none)) T.d_is_within ["thing", "low", "high"] (spD (JO (oF K)) mg 3 m_is_within) :=
  def_ok (jo := joOk (oF K)) T.F_is_within sc_is_within kp fun cdv A outer s H E G hr hpa =>
  (ws_one (ws_ret (pd_and (pd_call (ok_is_integer T kp) (hr.mono (by decide)) hpa T.g_is_integer T.F_is_integer.kp T.b_is_integer (takes_of rfl rfl rfl rfl) (pa_cons' (pd_var 0) pa_nil')) (pd_one (pd_chain (op_leD hr.units) (op_leD hr.units) (ok_num ok_ord) (ok_num ok_ord) (pd_var 1) (pd_var 0) (pd_var 2))))))
abbrev N_is_tuple : List Str := ["thing", "least", "most"]
theorem sc_is_tuple : FnScope N_is_tuple ["thing", "least", "most"] (defScope s_is_tuple) := ⟨rfl, rfl, rfl, by decide +kernel, rfl, by decide +kernel, by decide +kernel⟩
theorem ok_is_tuple (T : Txt P K mg) (kp : Keeps p) : FnG p P w K mg base (L2.CX P w) 1 (He.fAd K ("is_tuple", none)) T.d_is_tuple ["thing", "least", "most"] (spD (JO (oF K)) mg 3 m_is_tuple) :=
  def_ok (jo := joOk (oF K)) T.F_is_tuple sc_is_tuple kp fun cdv A outer s H E G hr hpa =>
  (ws_one (ws_ret (pd_and (pd_isi (T := "tuple") (pd_var 0) rfl T.n_isinstance rfl T.n_tuple bt_tuple) (pd_one (pd_chain (op_leD hr.units) (op_leD hr.units) (ok_num ok_ord) (ok_num ok_ord) (pd_var 1) (pd_callB cr_len ok_len rfl T.n_len bt_len (pa_cons' (pd_var 0) pa_nil')) (pd_var 2))))))
abbrev N_is_lot : List Str := ["thing", "many", ".0", "one", "other"]
theorem sc_is_lot : FnScope N_is_lot ["thing", "many"] (defScope s_is_lot) := ⟨rfl, rfl, rfl, by decide +kernel, rfl, by decide +kernel, by decide +kernel⟩
theorem ok_is_lot (T : Txt P K mg) (kp : Keeps p) : FnG p P w K mg base (L2.CX P w) 3 (He.fAd K ("is_lot", none)) T.d_is_lot ["thing", "many"] (spD (JO (oF K)) mg 2 m_is_lot) :=
  def_ok (jo := joOk (oF K)) T.F_is_lot sc_is_lot kp fun cdv A outer s H E G hr hpa =>
  (ws_cons (ws_if (PW.pt (pw_orD (pt_notD (pt_bool (pd_isi (T := "tuple") (pd_var 0) rfl T.n_isinstance rfl T.n_tuple bt_tuple))) (pw_or1D (pt_notD (pt_bool (pd_callB (cr_all rfl) ok_all rfl T.n_all bt_all (pa_cons' (pd_lc (own := [(".0", 2), ("one", 3)]) (sl := [3]) rfl sc_is_lot.nd (pi_seq (pd_var 0)) (blkOk_by (N := N_is_lot) (sc := (defScope s_is_lot)) (by decide +kernel)) (fun _ _ _ _ _ => (pg_nameD sc_is_lot.nd)) (fun _ _ _ _ _ => pts_nilD) (fun _ _ _ _ _ => (pd_call (ok_is_within T kp) (hr.mono (by decide)) hpa T.g_is_within T.F_is_within.kp T.b_is_within takes0 (pa_cons' (pd_var 3) (pa_cons' pd_int (pa_cons' (pd_bin op_sub ok_intOp0 (pd_var 1) pd_int) pa_nil')))))) pa_nil'))))))) (ws_one (ws_ret pd_bl)) ws_nil)
  (ws_one (ws_ret (pd_callB (cr_all rfl) ok_all rfl T.n_all bt_all (pa_cons' (pd_lc (own := [(".0", 2), ("one", 3), ("other", 4)]) (sl := [3, 4]) rfl sc_is_lot.nd (pi_zipD rfl T.n_zip (pa_cons' (pd_var 0) (pa_cons' (pd_slice (pd_var 0) (po_yes pd_int) po_no) pa_nil'))) (blkOk_by (N := N_is_lot) (sc := (defScope s_is_lot)) (by decide +kernel)) (fun _ _ _ _ _ => (pg_tupD rfl (pgs_consD sc_is_lot.nd (pgs_consD sc_is_lot.nd pgs_nilD)))) (fun _ _ _ _ _ => pts_nilD) (fun _ _ _ _ _ => (pd_cmp (op_ltD hr.units) (ok_num ok_ord) (pd_var 3) (pd_var 4)))) pa_nil')))))
abbrev N_is_count : List Str := ["thing"]
theorem sc_is_count : FnScope N_is_count ["thing"] (defScope s_is_count) := ⟨rfl, rfl, rfl, by decide +kernel, rfl, by decide +kernel, by decide +kernel⟩
theorem ok_is_count (T : Txt P K mg) (kp : Keeps p) : FnG p P w K mg base (L2.CX P w) 3 (He.fAd K ("is_count", none)) T.d_is_count ["thing"] (spD (JO (oF K)) mg 1 m_is_count) :=
  def_ok (jo := joOk (oF K)) T.F_is_count sc_is_count kp fun cdv A outer s H E G hr hpa =>
  (ws_one (ws_ret (pd_call (ok_is_within T kp) (hr.mono (by decide)) hpa T.g_is_within T.F_is_within.kp T.b_is_within (takes_of rfl rfl rfl rfl) (pa_cons' (pd_var 0) (pa_cons' pd_int (pa_cons' (pd_globI (t := T.t_MOST_POINTS) rfl T.g_MOST_POINTS) pa_nil'))))))
abbrev N_is_lot_of : List Str := ["points", "thing"]
theorem sc_is_lot_of : FnScope N_is_lot_of ["points", "thing"] (defScope s_is_lot_of) := ⟨rfl, rfl, rfl, by decide +kernel, rfl, by decide +kernel, by decide +kernel⟩
theorem ok_is_lot_of (T : Txt P K mg) (kp : Keeps p) : FnG p P w K mg base (L2.CX P w) 4 (He.fAd K ("is_lot_of", none)) T.d_is_lot_of ["points", "thing"] (spD (JO (oF K)) mg 2 m_is_lot_of) :=
  def_ok (jo := joOk (oF K)) T.F_is_lot_of sc_is_lot_of kp fun cdv A outer s H E G hr hpa =>
  (ws_one (ws_ret (pd_call (ok_is_lot T kp) (hr.mono (by decide)) hpa T.g_is_lot T.F_is_lot.kp T.b_is_lot (takes_of rfl rfl rfl rfl) (pa_cons' (pd_var 1) (pa_cons' (pd_var 0) pa_nil')))))
abbrev N_are_lots : List Str := ["points", "thing", ".0", "lot", "one", "other"]
theorem sc_are_lots : FnScope N_are_lots ["points", "thing"] (defScope s_are_lots) := ⟨rfl, rfl, rfl, by decide +kernel, rfl, by decide +kernel, by decide +kernel⟩
theorem ok_are_lots (T : Txt P K mg) (kp : Keeps p) : FnG p P w K mg base (L2.CX P w) 5 (He.fAd K ("are_lots", none)) T.d_are_lots ["points", "thing"] (spD (JO (oF K)) mg 2 m_are_lots) :=
  def_ok (jo := joOk (oF K)) T.F_are_lots sc_are_lots kp fun cdv A outer s H E G hr hpa =>
  (ws_cons (ws_if (PW.pt (pw_orD (pt_notD (pt_bool (pd_isi (T := "tuple") (pd_var 1) rfl T.n_isinstance rfl T.n_tuple bt_tuple))) (pw_or1D (pt_notD (pt_bool (pd_callB (cr_all rfl) ok_all rfl T.n_all bt_all (pa_cons' (pd_lc (own := [(".0", 2), ("lot", 3)]) (sl := [3]) rfl sc_are_lots.nd (pi_seq (pd_var 1)) (blkOk_by (N := N_are_lots) (sc := (defScope s_are_lots)) (by decide +kernel)) (fun _ _ _ _ _ => (pg_nameD sc_are_lots.nd)) (fun _ _ _ _ _ => pts_nilD) (fun _ _ _ _ _ => (pd_call (ok_is_lot_of T kp) (hr.mono (by decide)) hpa T.g_is_lot_of T.F_is_lot_of.kp T.b_is_lot_of takes0 (pa_cons' (pd_var 0) (pa_cons' (pd_var 3) pa_nil'))))) pa_nil'))))))) (ws_one (ws_ret pd_bl)) ws_nil)
  (ws_one (ws_ret (pd_callB (cr_all rfl) ok_all rfl T.n_all bt_all (pa_cons' (pd_lc (own := [(".0", 2), ("one", 4), ("other", 5)]) (sl := [4, 5]) rfl sc_are_lots.nd (pi_zipD rfl T.n_zip (pa_cons' (pd_var 1) (pa_cons' (pd_slice (pd_var 1) (po_yes pd_int) po_no) pa_nil'))) (blkOk_by (N := N_are_lots) (sc := (defScope s_are_lots)) (by decide +kernel)) (fun _ _ _ _ _ => (pg_tupD rfl (pgs_consD sc_are_lots.nd (pgs_consD sc_are_lots.nd pgs_nilD)))) (fun _ _ _ _ _ => pts_nilD) (fun _ _ _ _ _ => (pd_cmp (op_ltD hr.units) (ok_num ok_ord) (pd_var 4) (pd_var 5)))) pa_nil')))))
abbrev N__law_hand : List Str := ["script", "cells", "cell"]
theorem sc__law_hand : FnScope N__law_hand ["script"] (defScope s__law_hand) := ⟨rfl, rfl, rfl, by decide +kernel, rfl, by decide +kernel, by decide +kernel⟩
theorem ok__law_hand (T : Txt P K mg) (kp : Keeps p) (sem : ∀ ms : List Int, ms.length ≤ 63 → ∀ kk : WEnds, kk.rt (.val dHand) → wLcGo (wgName 2) wYes b_hand1 (wipeR (List.replicate N__law_hand.length none) [2]) (ms.map D.int) [] (fun r => wHandRet 1 b_hand2 kk noX ((List.replicate N__law_hand.length none).set 1 (some r)))) :
    FnG p P w K mg base (L2.CX P w) 1 (He.ga K "_law_hand") T.d__law_hand ["script"] (spScr (JO (oF K)) K dHand) :=
  hand_ok (sl := [2]) T.F__law_hand sc__law_hand kp (by decide) rfl
    (fun cdv A outer s H E G hr hpa => ps_setLc (own := [("cell", 2)]) rfl sc__law_hand.nd rfl rfl rfl (pi_seqV (pe_slice sl_list (pv 0) po_none (po_some pe_int))) (blkOk_by (N := N__law_hand) (sc := (defScope s__law_hand)) (by decide +kernel)) (fun _ _ _ _ _ => (pg_nameD sc__law_hand.nd)) (fun _ _ _ _ _ => pts_nilD) (fun _ _ _ _ _ => pdD (pd_callB call_abs ok_abs rfl T.n_abs bt_abs (pa_cons' (pd_callTy call_int1 ok_int rfl T.n_int bt_int (pa_cons' (pd_var 2) pa_nil')) pa_nil'))))
    (fun cdv A outer s H E G hr hpa => ps_ret (pe_lst (pa_cons (pv 1) (pa_cons pe_int (pa_cons pe_int (pa_cons (pdD (pd_bor 1 (pd_bin op_addD ok_addD pd_int (pd_bin op_mulD ok_mulD pd_int (pd_callB cr_len ok_len rfl T.n_len bt_len (pa_cons' (pd_var 1) pa_nil')))))) (pa_cons pe_int pa_nil)))))))
    sem (by decide) (by decide)
abbrev N_Family___init__ : List Str := ["self", "points", "lots"]
theorem sc_Family___init__ : FnScope N_Family___init__ ["self", "points", "lots"] (defScope s_Family___init__) := ⟨rfl, rfl, rfl, by decide +kernel, rfl, by decide +kernel, by decide +kernel⟩
theorem ok_Family___init__ (T : Txt P K mg) (kp : Keeps p) (sem : ∀ dp dl, FamOk dp dl → ∀ Q : Bool → Prop, Q false → b_init1 [none, some (.val dp), some (.val dl)] Q noX ∧ b_init2 [none, some (.val dp), some (.val dl)] Q noX) :
    FnG p P w K mg base (L2.CX P w) 6 (He.fAd K ("Family", some "__init__")) T.d_Family___init__ ["self", "points", "lots"] (spInit (oF K) FamOk) :=
  init_ok T.fam (famMk (oF K)) T.F_Family___init__ sc_Family___init__ kp rfl rfl (fun cdv A outer s H E G hr hpa =>
    ⟨ps_if (pt_notD (pt_bool (pd_call (ok_is_count T kp) (hr.mono (by decide)) hpa T.g_is_count T.F_is_count.kp T.b_is_count (takes_of rfl rfl rfl rfl) (pa_cons' (pd_var 1) pa_nil')))) (pss_never) pss_nil, ps_if (pt_notD (pt_bool (pd_call (ok_are_lots T kp) (hr.mono (by decide)) hpa T.g_are_lots T.F_are_lots.kp T.b_are_lots (takes_of rfl rfl rfl rfl) (pa_cons' (pd_var 1) (pa_cons' (pd_var 2) pa_nil'))))) (pss_never) pss_nil,
     ps_asg (pe_tup (pa_cons (pv 1) (pa_cons (pv 2) pa_nil))) (pg_tup rfl (pgs_cons (pg_fld (pv 0)) (pgs_cons (pg_fld (pv 0)) pgs_nil))), ps_fld (pv 0) pe_dnewK rfl⟩) sem
abbrev N_Family_there : List Str := ["self", ".0", "lot"]
theorem sc_Family_there : FnScope N_Family_there ["self"] (defScope s_Family_there) := ⟨rfl, rfl, rfl, by decide +kernel, rfl, by decide +kernel, by decide +kernel⟩
theorem ok_Family_there (T : Txt P K mg) (kp : Keeps p) : FnG p P w K mg base (L2.CX P w) 1 (He.fAd K ("Family", some "there")) T.d_Family_there ["self"] (spD (JO (oF K)) mg 1 m_Family_there) :=
  def_ok (jo := joOk (oF K)) T.F_Family_there sc_Family_there kp fun cdv A outer s H E G hr hpa =>
  (ws_cacheRet rfl T.fam (ps_if (pt_cmp (pc_dnotin hr.units1 pe_str (pe_fld (pv 0) rfl))) (pss_one (ps_dput hr.units1 (pe_fld (pv 0) rfl) pe_str (pd_callTy (cr_dictP rfl hr.units) ok_rOf rfl T.n_dict bt_dict (pa_cons' (pd_lc (own := [(".0", 1), ("lot", 2)]) (sl := [2]) rfl sc_Family_there.nd (pi_seq (pd_lots T.fam rfl (pd_var 0))) (blkOk_by (N := N_Family_there) (sc := (defScope s_Family_there)) (by decide +kernel)) (fun _ _ _ _ _ => (pg_nameD sc_Family_there.nd)) (fun _ _ _ _ _ => pts_nilD) (fun _ _ _ _ _ => (pd_tup (pa_cons' (pd_var 2) (pa_cons' pd_bl pa_nil')) (by first | decide | simp)))) pa_nil')) rfl)) pss_nil) (ps_ret (pe_dget hr.units1 (pe_fld (pv 0) rfl) pe_str (by intro _ _; rfl))))
abbrev N_check_count : List Str := ["points"]
theorem sc_check_count : FnScope N_check_count ["points"] (defScope s_check_count) := ⟨rfl, rfl, rfl, by decide +kernel, rfl, by decide +kernel, by decide +kernel⟩
theorem ok_check_count (T : Txt P K mg) (kp : Keeps p) : FnG p P w K mg base (L2.CX P w) 4 (He.fAd K ("check_count", none)) T.d_check_count ["points"] (spD (JO (oF K)) mg 1 m_check_count) :=
  def_ok (jo := joOk (oF K)) T.F_check_count sc_check_count kp fun cdv A outer s H E G hr hpa =>
  (ws_one (ws_if (pt_notD (pt_bool (pd_call (ok_is_count T kp) (hr.mono (by decide)) hpa T.g_is_count T.F_is_count.kp T.b_is_count (takes_of rfl rfl rfl rfl) (pa_cons' (pd_var 0) pa_nil')))) (ws_one ws_never) ws_nil))
abbrev N_made : List Str := ["points", "lots"]
theorem sc_made : FnScope N_made ["points", "lots"] (defScope s_made) := ⟨rfl, rfl, rfl, by decide +kernel, rfl, by decide +kernel, by decide +kernel⟩
theorem ok_made (T : Txt P K mg) (kp : Keeps p) : FnG p P w K mg base (L2.CX P w) 8 (He.fAd K ("made", none)) T.d_made ["points", "lots"] (spD (JO (oF K)) mg 2 m_made) :=
  def_ok (jo := joOk (oF K)) T.F_made sc_made kp fun cdv A outer s H E G hr hpa =>
  (ws_one (ws_ret (pd_family rfl T.mkF (ok_Family___init__ T pT_keeps init_sem).ok (hr.mono (by decide)) T.gF T.b_Family___init__ (pa_cons' (pd_var 0) (pa_cons' (pd_callTy call_tuple_of ok_tuple rfl T.n_tuple bt_tuple (pa_cons' (pd_sortSet hr.units rfl rfl T.n_sorted rfl T.n_set (pd_var 1)) pa_nil')) pa_nil')))))
abbrev N_lot_of : List Str := ["number", "found", "point"]
theorem sc_lot_of : FnScope N_lot_of ["number"] (defScope s_lot_of) := ⟨rfl, rfl, rfl, by decide +kernel, rfl, by decide +kernel, by decide +kernel⟩
theorem ok_lot_of (T : Txt P K mg) (kp : Keeps p) : FnG p P w K mg base (L2.CX P w) 1 (He.fAd K ("lot_of", none)) T.d_lot_of ["number"] (spD (JO (oF K)) mg 1 m_lot_of) :=
  def_ok (jo := joOk (oF K)) T.F_lot_of sc_lot_of kp fun cdv A outer s H E G hr hpa =>
  (ws_cons (ws_par (ps_par rfl sc_lot_of.nd rfl rfl (by decide) rfl rfl (pa_cons (pd_lst pa_nil' (by first | decide | simp)) (pa_cons (pd_val pd_int) pa_nil)) (by rfl)))
  (ws_cons (ws_while (passes_of rfl) (pt_cmpD (op_gtD hr.units) (ok_num ok_ord) (pd_var 0) pd_int) (ws_cons (ws_if (pt_cmpD (op_eqP hr.units) ok_eqP (pd_bin op_modD ok_modD (pd_var 0) pd_int) pd_int) (ws_one (ws_app (ps_expr (pe_bm PySem.F.plainAttrs_list PySem.F.slot_list_append PySem.F.type_list_append mt_append (pv 1) (pa_cons (pdD (pd_var 2)) pa_nil))))) ws_nil)
  (ws_one (ws_par (ps_par rfl sc_lot_of.nd rfl rfl (by decide) rfl rfl (pa_cons (pd_val (pd_bin op_fdivD ok_fdivD (pd_var 0) pd_int)) (pa_cons (pd_val (pd_bin op_addD ok_addD (pd_var 2) pd_int)) pa_nil)) (by rfl))))))
  (ws_frz 1 (ws_one (ws_ret (pd_callTy call_tuple_of ok_tuple rfl T.n_tuple bt_tuple (pa_cons' (pd_var 1) pa_nil')))))))
abbrev N_lots_of : List Str := ["points", ".0", "number"]
theorem sc_lots_of : FnScope N_lots_of ["points"] (defScope s_lots_of) := ⟨rfl, rfl, rfl, by decide +kernel, rfl, by decide +kernel, by decide +kernel⟩
theorem ok_lots_of (T : Txt P K mg) (kp : Keeps p) : FnG p P w K mg base (L2.CX P w) 2 (He.fAd K ("lots_of", none)) T.d_lots_of ["points"] (spD (JO (oF K)) mg 1 m_lots_of) :=
  def_ok (jo := joOk (oF K)) T.F_lots_of sc_lots_of kp fun cdv A outer s H E G hr hpa =>
  (ws_one (ws_ret (pd_lc (own := [(".0", 1), ("number", 2)]) (sl := [2]) rfl sc_lots_of.nd (pi_rng1 rfl T.n_range (pa_cons' (pd_bin op_shl ok_intOp pd_int (pd_var 0)) pa_nil')) (blkOk_by (N := N_lots_of) (sc := (defScope s_lots_of)) (by decide +kernel)) (fun _ _ _ _ _ => (pg_nameD sc_lots_of.nd)) (fun _ _ _ _ _ => pts_nilD) (fun _ _ _ _ _ => (pd_call (ok_lot_of T kp) (hr.mono (by decide)) hpa T.g_lot_of T.F_lot_of.kp T.b_lot_of takes0 (pa_cons' (pd_var 2) pa_nil'))))))
abbrev N_common_of : List Str := ["one", "other", ".0", "point"]
theorem sc_common_of : FnScope N_common_of ["one", "other"] (defScope s_common_of) := ⟨rfl, rfl, rfl, by decide +kernel, rfl, by decide +kernel, by decide +kernel⟩
theorem ok_common_of (T : Txt P K mg) (kp : Keeps p) : FnG p P w K mg base (L2.CX P w) 1 (He.fAd K ("common_of", none)) T.d_common_of ["one", "other"] (spD (JO (oF K)) mg 2 m_common_of) :=
  def_ok (jo := joOk (oF K)) T.F_common_of sc_common_of kp fun cdv A outer s H E G hr hpa =>
  (ws_one (ws_ret (pd_callTy call_tuple_of ok_tuple rfl T.n_tuple bt_tuple (pa_cons' (pd_lc (own := [(".0", 2), ("point", 3)]) (sl := [3]) rfl sc_common_of.nd (pi_seq (pd_var 0)) (blkOk_by (N := N_common_of) (sc := (defScope s_common_of)) (by decide +kernel)) (fun _ _ _ _ _ => (pg_nameD sc_common_of.nd)) (fun _ _ _ _ _ => (pts_oneD (pt_cmpD (op_inB hr.units) ok_inB (pd_var 3) (pd_var 1)))) (fun _ _ _ _ _ => (pd_var 3))) pa_nil'))))
abbrev N_check_lot : List Str := ["family", "lot"]
theorem sc_check_lot : FnScope N_check_lot ["family", "lot"] (defScope s_check_lot) := ⟨rfl, rfl, rfl, by decide +kernel, rfl, by decide +kernel, by decide +kernel⟩
theorem ok_check_lot (T : Txt P K mg) (kp : Keeps p) : FnG p P w K mg base (L2.CX P w) 5 (He.fAd K ("check_lot", none)) T.d_check_lot ["family", "lot"] (spD (JO (oF K)) mg 2 m_check_lot) :=
  def_ok (jo := joOk (oF K)) T.F_check_lot sc_check_lot kp fun cdv A outer s H E G hr hpa =>
  (ws_one (ws_if (pt_notD (pt_bool (pd_call (ok_is_lot_of T kp) (hr.mono (by decide)) hpa T.g_is_lot_of T.F_is_lot_of.kp T.b_is_lot_of (takes_of rfl rfl rfl rfl) (pa_cons' (pd_points T.fam rfl (pd_var 0)) (pa_cons' (pd_var 1) pa_nil'))))) (ws_one (rz_NoLot T.x_NoLot T.gx_NoLot T.n_super hr rfl (takes_of rfl rfl rfl rfl) T.gx_NoLot)) ws_nil))
abbrev N_all_of : List Str := ["points"]
theorem sc_all_of : FnScope N_all_of ["points"] (defScope s_all_of) := ⟨rfl, rfl, rfl, by decide +kernel, rfl, by decide +kernel, by decide +kernel⟩
theorem ok_all_of (T : Txt P K mg) (kp : Keeps p) : FnG p P w K mg base (L2.CX P w) 9 (He.fAd K ("all_of", none)) T.d_all_of ["points"] (spD (JO (oF K)) mg 1 m_all_of) :=
  def_ok (jo := joOk (oF K)) T.F_all_of sc_all_of kp fun cdv A outer s H E G hr hpa =>
  (ws_cons (ws_expr (pd_call (ok_check_count T kp) (hr.mono (by decide)) hpa T.g_check_count T.F_check_count.kp T.b_check_count (takes_of rfl rfl rfl rfl) (pa_cons' (pd_var 0) pa_nil')))
  (ws_one (ws_ret (pd_call (ok_made T kp) (hr.mono (by decide)) hpa T.g_made T.F_made.kp T.b_made (takes_of rfl rfl rfl rfl) (pa_cons' (pd_var 0) (pa_cons' (pd_call (ok_lots_of T kp) (hr.mono (by decide)) hpa T.g_lots_of T.F_lots_of.kp T.b_lots_of (takes_of rfl rfl rfl rfl) (pa_cons' (pd_var 0) pa_nil')) pa_nil'))))))
abbrev N_sum_lots : List Str := ["one", "other", "mine", ".0", "point"]
theorem sc_sum_lots : FnScope N_sum_lots ["one", "other"] (defScope s_sum_lots) := ⟨rfl, rfl, rfl, by decide +kernel, rfl, by decide +kernel, by decide +kernel⟩
theorem ok_sum_lots (T : Txt P K mg) (kp : Keeps p) : FnG p P w K mg base (L2.CX P w) 1 (He.fAd K ("sum_lots", none)) T.d_sum_lots ["one", "other"] (spD (JO (oF K)) mg 2 m_sum_lots) :=
  def_ok (jo := joOk (oF K)) T.F_sum_lots sc_sum_lots kp fun cdv A outer s H E G hr hpa =>
  (ws_cons (ws_setLc (ps_setLcD (own := [(".0", 3), ("point", 4)]) (sl := [4]) rfl sc_sum_lots.nd (pi_seq (pd_var 0)) (blkOk_by (N := N_sum_lots) (sc := (defScope s_sum_lots)) (by decide +kernel)) (fun _ _ _ _ _ => (pg_nameD sc_sum_lots.nd)) (fun _ _ _ _ _ => (pts_oneD (pt_cmpD (op_notInB hr.units) ok_inB (pd_var 4) (pd_var 1)))) (fun _ _ _ _ _ => (pd_var 4))))
  (ws_one (ws_ret (pd_callTy call_tuple_of ok_tuple rfl T.n_tuple bt_tuple (pa_cons' (pd_callB (cr_sortD hr.units) ok_rOf rfl T.n_sorted bt_sorted (pa_cons' (pd_bin op_addD ok_addD (pd_var 2) (pd_lc (own := [(".0", 3), ("point", 4)]) (sl := [4]) rfl sc_sum_lots.nd (pi_seq (pd_var 1)) (blkOk_by (N := N_sum_lots) (sc := (defScope s_sum_lots)) (by decide +kernel)) (fun _ _ _ _ _ => (pg_nameD sc_sum_lots.nd)) (fun _ _ _ _ _ => (pts_oneD (pt_cmpD (op_notInB hr.units) ok_inB (pd_var 4) (pd_var 0)))) (fun _ _ _ _ _ => (pd_var 4)))) pa_nil')) pa_nil')))))
abbrev N_are_numbers : List Str := ["family", "thing", ".0", "number"]
theorem sc_are_numbers : FnScope N_are_numbers ["family", "thing"] (defScope s_are_numbers) := ⟨rfl, rfl, rfl, by decide +kernel, rfl, by decide +kernel, by decide +kernel⟩
theorem ok_are_numbers (T : Txt P K mg) (kp : Keeps p) : FnG p P w K mg base (L2.CX P w) 3 (He.fAd K ("are_numbers", none)) T.d_are_numbers ["family", "thing"] (spD (JO (oF K)) mg 2 m_are_numbers) :=
  def_ok (jo := joOk (oF K)) T.F_are_numbers sc_are_numbers kp fun cdv A outer s H E G hr hpa =>
  (ws_one (ws_ret (pd_and (pd_isi (T := "tuple") (pd_var 1) rfl T.n_isinstance rfl T.n_tuple bt_tuple) (pd_one (pd_callB (cr_all rfl) ok_all rfl T.n_all bt_all (pa_cons' (pd_lc (own := [(".0", 2), ("number", 3)]) (sl := [3]) rfl sc_are_numbers.nd (pi_seq (pd_var 1)) (blkOk_by (N := N_are_numbers) (sc := (defScope s_are_numbers)) (by decide +kernel)) (fun _ _ _ _ _ => (pg_nameD sc_are_numbers.nd)) (fun _ _ _ _ _ => pts_nilD) (fun _ _ _ _ _ => (pd_call (ok_is_within T kp) (hr.mono (by decide)) hpa T.g_is_within T.F_is_within.kp T.b_is_within takes0 (pa_cons' (pd_var 3) (pa_cons' pd_int (pa_cons' (pd_bin op_sub ok_intOp0 (pd_callB cr_len ok_len rfl T.n_len bt_len (pa_cons' (pd_lots T.fam rfl (pd_var 0)) pa_nil')) pd_int) pa_nil')))))) pa_nil'))))))
abbrev N_behind : List Str := ["family", "numbers", "lot", "number"]
theorem sc_behind : FnScope N_behind ["family", "numbers", "lot"] (defScope s_behind) := ⟨rfl, rfl, rfl, by decide +kernel, rfl, by decide +kernel, by decide +kernel⟩
theorem ok_behind (T : Txt P K mg) (kp : Keeps p) : FnG p P w K mg base (L2.CX P w) 2 (He.fAd K ("behind", none)) T.d_behind ["family", "numbers", "lot"] (spD (JO (oF K)) mg 3 m_behind) :=
  def_ok (jo := joOk (oF K)) T.F_behind sc_behind kp fun cdv A outer s H E G hr hpa =>
  (ws_cons (ws_for (sl := [3]) (passes_of rfl) rfl (pi_seq (pd_var 1)) (pg_nameD sc_behind.nd)
  (ws_one (ws_set sc_behind.nd (pd_call (ok_sum_lots T kp) (hr.mono (by decide)) hpa T.g_sum_lots T.F_sum_lots.kp T.b_sum_lots (takes_of rfl rfl rfl rfl) (pa_cons' (pd_var 2) (pa_cons' (pd_ix (pd_lots T.fam rfl (pd_var 0)) (pd_var 3)) pa_nil'))))))
  (ws_one (ws_ret (pd_var 2))))
abbrev N_pressed : List Str := ["family", "numbers", "lot"]
theorem sc_pressed : FnScope N_pressed ["family", "numbers", "lot"] (defScope s_pressed) := ⟨rfl, rfl, rfl, by decide +kernel, rfl, by decide +kernel, by decide +kernel⟩
theorem ok_pressed (T : Txt P K mg) (kp : Keeps p) : FnG p P w K mg base (L2.CX P w) 6 (He.fAd K ("pressed", none)) T.d_pressed ["family", "numbers", "lot"] (spD (JO (oF K)) mg 3 m_pressed) :=
  def_ok (jo := joOk (oF K)) T.F_pressed sc_pressed kp fun cdv A outer s H E G hr hpa =>
  (ws_cons (ws_if (pt_notD (pt_bool (pd_call (ok_are_numbers T kp) (hr.mono (by decide)) hpa T.g_are_numbers T.F_are_numbers.kp T.b_are_numbers (takes_of rfl rfl rfl rfl) (pa_cons' (pd_var 0) (pa_cons' (pd_var 1) pa_nil'))))) (ws_one (rz_NoSwitches T.x_NoSwitches T.gx_NoSwitches T.n_super hr rfl (takes_of rfl rfl rfl rfl) T.gx_NoSwitches)) ws_nil)
  (ws_cons (ws_expr (pd_call (ok_check_lot T kp) (hr.mono (by decide)) hpa T.g_check_lot T.F_check_lot.kp T.b_check_lot (takes_of rfl rfl rfl rfl) (pa_cons' (pd_var 0) (pa_cons' (pd_var 2) pa_nil'))))
  (ws_one (ws_ret (pd_call (ok_behind T kp) (hr.mono (by decide)) hpa T.g_behind T.F_behind.kp T.b_behind (takes_of rfl rfl rfl rfl) (pa_cons' (pd_var 0) (pa_cons' (pd_var 1) (pa_cons' (pd_var 2) pa_nil'))))))))
abbrev N_check_few : List Str := ["family"]
theorem sc_check_few : FnScope N_check_few ["family"] (defScope s_check_few) := ⟨rfl, rfl, rfl, by decide +kernel, rfl, by decide +kernel, by decide +kernel⟩
theorem ok_check_few (T : Txt P K mg) (kp : Keeps p) : FnG p P w K mg base (L2.CX P w) 2 (He.fAd K ("check_few", none)) T.d_check_few ["family"] (spD (JO (oF K)) mg 1 m_check_few) :=
  def_ok (jo := joOk (oF K)) T.F_check_few sc_check_few kp fun cdv A outer s H E G hr hpa =>
  (ws_one (ws_if (pt_cmpD (op_gtD hr.units) (ok_num ok_ord) (pd_callB cr_len ok_len rfl T.n_len bt_len (pa_cons' (pd_lots T.fam rfl (pd_var 0)) pa_nil')) (pd_globI (t := T.t_MOST_SWITCHES) rfl T.g_MOST_SWITCHES)) (ws_one (rz_TooMany rfl T.x_TooMany T.gx_TooMany T.n_super hr rfl (takes_of rfl rfl rfl rfl) T.gx_TooMany T.nx_TooMany (pd_globI (t := T.t_MOST_SWITCHES) rfl T.g_MOST_SWITCHES))) ws_nil))
abbrev N_all_presses : List Str := ["family", "found", "number", ".0", "some", "size"]
theorem sc_all_presses : FnScope N_all_presses ["family"] (defScope s_all_presses) := ⟨rfl, rfl, rfl, by decide +kernel, rfl, by decide +kernel, by decide +kernel⟩
theorem ok_all_presses (T : Txt P K mg) (kp : Keeps p) : FnG p P w K mg base (L2.CX P w) 1 (He.fAd K ("all_presses", none)) T.d_all_presses ["family"] (spD (JO (oF K)) mg 1 m_all_presses) :=
  def_ok (jo := joOk (oF K)) T.F_all_presses sc_all_presses kp fun cdv A outer s H E G hr hpa =>
  (ws_cons (ws_set sc_all_presses.nd (pd_lst (pa_cons' (pd_tup pa_nil' (by first | decide | simp)) pa_nil') (by first | decide | simp)))
  (ws_cons (ws_for (sl := [2]) (passes_of rfl) rfl (pi_rng1 rfl T.n_range (pa_cons' (pd_callB cr_len ok_len rfl T.n_len bt_len (pa_cons' (pd_lots T.fam rfl (pd_var 0)) pa_nil')) pa_nil')) (pg_nameD sc_all_presses.nd)
  (ws_one (ws_set sc_all_presses.nd (pd_bin op_addD ok_addD (pd_var 1) (pd_lc (own := [(".0", 3), ("some", 4)]) (sl := [4]) rfl sc_all_presses.nd (pi_seq (pd_var 1)) (blkOk_by (N := N_all_presses) (sc := (defScope s_all_presses)) (by decide +kernel)) (fun _ _ _ _ _ => (pg_nameD sc_all_presses.nd)) (fun _ _ _ _ _ => pts_nilD) (fun _ _ _ _ _ => (pd_bin op_addD ok_addD (pd_var 4) (pd_tup (pa_cons' (pd_var 2) pa_nil') (by first | decide | simp)))))))))
  (ws_one (ws_ret (pd_lc (own := [(".0", 3), ("size", 5), ("some", 4)]) (sl := [5, 4]) rfl sc_all_presses.nd (pi_seq (pd_callB (cr_sortD hr.units) ok_rOf rfl T.n_sorted bt_sorted (pa_cons' (pd_lc (own := [(".0", 3), ("some", 4)]) (sl := [4]) rfl sc_all_presses.nd (pi_seq (pd_var 1)) (blkOk_by (N := N_all_presses) (sc := (defScope s_all_presses)) (by decide +kernel)) (fun _ _ _ _ _ => (pg_nameD sc_all_presses.nd)) (fun _ _ _ _ _ => pts_nilD) (fun _ _ _ _ _ => (pd_tup (pa_cons' (pd_callB cr_len ok_len rfl T.n_len bt_len (pa_cons' (pd_var 4) pa_nil')) (pa_cons' (pd_var 4) pa_nil')) (by first | decide | simp)))) pa_nil'))) (blkOk_by (N := N_all_presses) (sc := (defScope s_all_presses)) (by decide +kernel)) (fun _ _ _ _ _ => (pg_tupD rfl (pgs_consD sc_all_presses.nd (pgs_consD sc_all_presses.nd pgs_nilD)))) (fun _ _ _ _ _ => pts_nilD) (fun _ _ _ _ _ => (pd_var 4)))))))
abbrev N_is_check : List Str := ["family", "lot", "thing", ".0", "member"]
theorem sc_is_check : FnScope N_is_check ["family", "lot", "thing"] (defScope s_is_check) := ⟨rfl, rfl, rfl, by decide +kernel, rfl, by decide +kernel, by decide +kernel⟩
theorem ok_is_check (T : Txt P K mg) (kp : Keeps p) : FnG p P w K mg base (L2.CX P w) 2 (He.fAd K ("is_check", none)) T.d_is_check ["family", "lot", "thing"] (spD (JO (oF K)) mg 3 m_is_check) :=
  def_ok (jo := joOk (oF K)) T.F_is_check sc_is_check kp fun cdv A outer s H E G hr hpa =>
  (ws_cons (ws_if (pt_notD (pt_bool (pd_callB (cr_all rfl) ok_all rfl T.n_all bt_all (pa_cons' (pd_lc (own := [(".0", 3), ("member", 4)]) (sl := [4]) rfl sc_is_check.nd (pi_seq (pd_lots T.fam rfl (pd_var 0))) (blkOk_by (N := N_is_check) (sc := (defScope s_is_check)) (by decide +kernel)) (fun _ _ _ _ _ => (pg_nameD sc_is_check.nd)) (fun _ _ _ _ _ => pts_nilD) (fun _ _ _ _ _ => (pd_cmp (op_eqP hr.units) ok_eqP (pd_bin op_modD ok_modD (pd_callB cr_len ok_len rfl T.n_len bt_len (pa_cons' (pd_call (ok_common_of T kp) (hr.mono (by decide)) hpa T.g_common_of T.F_common_of.kp T.b_common_of takes0 (pa_cons' (pd_var 2) (pa_cons' (pd_var 4) pa_nil'))) pa_nil')) pd_int) pd_int))) pa_nil')))) (ws_one (ws_ret pd_bl)) ws_nil)
  (ws_one (ws_ret (pd_cmp (op_eqP hr.units) ok_eqP (pd_bin op_modD ok_modD (pd_callB cr_len ok_len rfl T.n_len bt_len (pa_cons' (pd_call (ok_common_of T kp) (hr.mono (by decide)) hpa T.g_common_of T.F_common_of.kp T.b_common_of (takes_of rfl rfl rfl rfl) (pa_cons' (pd_var 2) (pa_cons' (pd_var 1) pa_nil'))) pa_nil')) pd_int) pd_int))))
abbrev N_lit : List Str := ["family", "lot", "good", ".0", "numbers", "one"]
theorem sc_lit : FnScope N_lit ["family", "lot"] (defScope s_lit) := ⟨rfl, rfl, rfl, by decide +kernel, rfl, by decide +kernel, by decide +kernel⟩
theorem ok_lit (T : Txt P K mg) (kp : Keeps p) : FnG p P w K mg base (L2.CX P w) 6 (He.fAd K ("lit", none)) T.d_lit ["family", "lot"] (spD (JO (oF K)) mg 2 m_lit) :=
  def_ok (jo := joOk (oF K)) T.F_lit sc_lit kp fun cdv A outer s H E G hr hpa =>
  (ws_cons (ws_expr (pd_call (ok_check_lot T kp) (hr.mono (by decide)) hpa T.g_check_lot T.F_check_lot.kp T.b_check_lot (takes_of rfl rfl rfl rfl) (pa_cons' (pd_var 0) (pa_cons' (pd_var 1) pa_nil'))))
  (ws_cons (ws_expr (pd_call (ok_check_few T kp) (hr.mono (by decide)) hpa T.g_check_few T.F_check_few.kp T.b_check_few (takes_of rfl rfl rfl rfl) (pa_cons' (pd_var 0) pa_nil')))
  (ws_cons (ws_setLc (ps_setLcD (own := [(".0", 3), ("numbers", 4)]) (sl := [4]) rfl sc_lit.nd (pi_seq (pd_call (ok_all_presses T kp) (hr.mono (by decide)) hpa T.g_all_presses T.F_all_presses.kp T.b_all_presses (takes_of rfl rfl rfl rfl) (pa_cons' (pd_var 0) pa_nil'))) (blkOk_by (N := N_lit) (sc := (defScope s_lit)) (by decide +kernel)) (fun _ _ _ _ _ => (pg_nameD sc_lit.nd)) (fun _ _ _ _ _ => (pts_oneD (pt_cmpD (op_eqP hr.units) ok_eqP (pd_call (ok_behind T kp) (hr.mono (by decide)) hpa T.g_behind T.F_behind.kp T.b_behind takes0 (pa_cons' (pd_var 0) (pa_cons' (pd_var 4) (pa_cons' (pd_tup pa_nil' (by first | decide | simp)) pa_nil')))) (pd_var 1)))) (fun _ _ _ _ _ => (pd_var 4))))
  (ws_cons (ws_if (pt_cmpD (op_gtD hr.units) (ok_num ok_ord) (pd_callB cr_len ok_len rfl T.n_len bt_len (pa_cons' (pd_var 2) pa_nil')) pd_int) (ws_one (ws_ret (pd_tup (pa_cons' pd_str (pa_cons' (pd_ix (pd_var 2) pd_int) pa_nil')) (by first | decide | simp)))) ws_nil)
  (ws_one (ws_ret (pd_tup (pa_cons' pd_str (pa_cons' (pd_callB (cr_minB rfl hr.units) ok_minB rfl T.n_min bt_min (pa_cons' (pd_lc (own := [(".0", 3), ("one", 5)]) (sl := [5]) rfl sc_lit.nd (pi_seq (pd_call (ok_lots_of T kp) (hr.mono (by decide)) hpa T.g_lots_of T.F_lots_of.kp T.b_lots_of (takes_of rfl rfl rfl rfl) (pa_cons' (pd_points T.fam rfl (pd_var 0)) pa_nil'))) (blkOk_by (N := N_lit) (sc := (defScope s_lit)) (by decide +kernel)) (fun _ _ _ _ _ => (pg_nameD sc_lit.nd)) (fun _ _ _ _ _ => (pts_oneD (pt_bool (pd_call (ok_is_check T kp) (hr.mono (by decide)) hpa T.g_is_check T.F_is_check.kp T.b_is_check takes0 (pa_cons' (pd_var 0) (pa_cons' (pd_var 1) (pa_cons' (pd_var 5) pa_nil'))))))) (fun _ _ _ _ _ => (pd_var 5))) pa_nil')) pa_nil')) (by first | decide | simp))))))))
abbrev N_is_lit : List Str := ["family", "lot", "thing", ".0", "one", "other"]
theorem sc_is_lit : FnScope N_is_lit ["family", "lot", "thing"] (defScope s_is_lit) := ⟨rfl, rfl, rfl, by decide +kernel, rfl, by decide +kernel, by decide +kernel⟩
theorem ok_is_lit (T : Txt P K mg) (kp : Keeps p) : FnG p P w K mg base (L2.CX P w) 6 (He.fAd K ("is_lit", none)) T.d_is_lit ["family", "lot", "thing"] (spD (JO (oF K)) mg 3 m_is_lit) :=
  def_ok (jo := joOk (oF K)) T.F_is_lit sc_is_lit kp fun cdv A outer s H E G hr hpa =>
  (ws_cons (ws_expr (pd_call (ok_check_lot T kp) (hr.mono (by decide)) hpa T.g_check_lot T.F_check_lot.kp T.b_check_lot (takes_of rfl rfl rfl rfl) (pa_cons' (pd_var 0) (pa_cons' (pd_var 1) pa_nil'))))
  (ws_cons (ws_if (PW.pt (pw_orD (pt_notD (pt_bool (pd_call (ok_is_tuple T kp) (hr.mono (by decide)) hpa T.g_is_tuple T.F_is_tuple.kp T.b_is_tuple (takes_of rfl rfl rfl rfl) (pa_cons' (pd_var 2) (pa_cons' pd_int (pa_cons' pd_int pa_nil')))))) (pw_or1D (pt_notD (pt_bool (pd_isi (T := "str") (pd_ix (pd_var 2) pd_int) rfl T.n_isinstance rfl T.n_str bt_str)))))) (ws_one (ws_ret pd_bl)) ws_nil)
  (ws_cons (ws_if (pt_cmpD (op_eqP hr.units) ok_eqP (pd_ix (pd_var 2) pd_int) pd_str) (ws_one (ws_ret (pd_and (pd_call (ok_is_lot_of T kp) (hr.mono (by decide)) hpa T.g_is_lot_of T.F_is_lot_of.kp T.b_is_lot_of (takes_of rfl rfl rfl rfl) (pa_cons' (pd_points T.fam rfl (pd_var 0)) (pa_cons' (pd_ix (pd_var 2) pd_int) pa_nil'))) (pd_one (pd_call (ok_is_check T kp) (hr.mono (by decide)) hpa T.g_is_check T.F_is_check.kp T.b_is_check (takes_of rfl rfl rfl rfl) (pa_cons' (pd_var 0) (pa_cons' (pd_var 1) (pa_cons' (pd_ix (pd_var 2) pd_int) pa_nil')))))))) ws_nil)
  (ws_cons (ws_if (PW.pt (pw_orD (pt_cmpD (op_neP hr.units) ok_neP (pd_ix (pd_var 2) pd_int) pd_str) (pw_or1D (pt_notD (pt_bool (pd_call (ok_are_numbers T kp) (hr.mono (by decide)) hpa T.g_are_numbers T.F_are_numbers.kp T.b_are_numbers (takes_of rfl rfl rfl rfl) (pa_cons' (pd_var 0) (pa_cons' (pd_ix (pd_var 2) pd_int) pa_nil')))))))) (ws_one (ws_ret pd_bl)) ws_nil)
  (ws_cons (ws_if (pt_notD (pt_bool (pd_callB (cr_all rfl) ok_all rfl T.n_all bt_all (pa_cons' (pd_lc (own := [(".0", 3), ("one", 4), ("other", 5)]) (sl := [4, 5]) rfl sc_is_lit.nd (pi_zipD rfl T.n_zip (pa_cons' (pd_ix (pd_var 2) pd_int) (pa_cons' (pd_slice (pd_ix (pd_var 2) pd_int) (po_yes pd_int) po_no) pa_nil'))) (blkOk_by (N := N_is_lit) (sc := (defScope s_is_lit)) (by decide +kernel)) (fun _ _ _ _ _ => (pg_tupD rfl (pgs_consD sc_is_lit.nd (pgs_consD sc_is_lit.nd pgs_nilD)))) (fun _ _ _ _ _ => pts_nilD) (fun _ _ _ _ _ => (pd_cmp (op_ltD hr.units) (ok_num ok_ord) (pd_var 4) (pd_var 5)))) pa_nil')))) (ws_one (ws_ret pd_bl)) ws_nil)
  (ws_one (ws_ret (pd_cmp (op_eqP hr.units) ok_eqP (pd_call (ok_behind T kp) (hr.mono (by decide)) hpa T.g_behind T.F_behind.kp T.b_behind (takes_of rfl rfl rfl rfl) (pa_cons' (pd_var 0) (pa_cons' (pd_ix (pd_var 2) pd_int) (pa_cons' (pd_tup pa_nil' (by first | decide | simp)) pa_nil')))) (pd_var 1)))))))))
abbrev N__law_draw : List Str := ["hand", "many", "cell", "digit", "number"]
theorem sc__law_draw : FnScope N__law_draw ["hand", "many"] (defScope s__law_draw) := ⟨rfl, rfl, rfl, by decide +kernel, rfl, by decide +kernel, by decide +kernel⟩
theorem ok__law_draw (T : Txt P K mg) (kp : Keeps p) : FnG p P w K mg base (L2.CX P w) 1 (He.fAd K ("_law_draw", none)) T.d__law_draw ["hand", "many"] (spD (JO (oF K)) mg 2 m__law_draw) :=
  def_ok (jo := joOk (oF K)) T.F__law_draw sc__law_draw kp fun cdv A outer s H E G hr hpa =>
  (ws_cons (ws_handIf (j := 2) rfl (PW.pt (pw_and (pt_cmp (pc_eqI (pe_ix ix_list (pv 0) pe_int fun _ _ => rfl) pe_int)) (pw_and1 (pt_cmp (pc_lt (pe_ix ix_list (pv 0) pe_int fun _ _ => rfl) (pe_callB call_len_seq rfl T.n_len bt_len (pa_cons (pe_ix ix_list (pv 0) pe_int fun _ _ => rfl) pa_nil))))))) (ps_set sc__law_draw.nd rfl (Or.inl rfl) (pe_ix ix_list (pe_ix ix_list (pv 0) pe_int fun _ _ => rfl) (pe_ix ix_list (pv 0) pe_int fun _ _ => rfl) fun _ _ => rfl))
  (ws_cons (ws_hput rfl (ps_asg (pdD (pd_bin op_addD ok_addD (pd_hix rfl (pd_var 0) pd_int) pd_int)) (pg_sub (pv 0) pe_int set_list)))
  (ws_cons (ws_hput rfl (ps_asg (pdD (pd_bin op_modD ok_modD (pd_callTy call_int1 ok_int rfl T.n_int bt_int (pa_cons' (pd_bin op_addD ok_addD (pd_bin op_addD ok_addD (pd_bin op_mulD ok_mulD (pd_hix rfl (pd_var 0) pd_int) pd_int) (pd_bin op_mulD ok_mulD (pd_var 2) pd_int)) pd_int) pa_nil')) pd_int)) (pg_sub (pv 0) pe_int set_list)))
  (ws_one (ws_hput rfl (ps_asg (pdD (pd_if (pt_cmpD (op_geD hr.units) (ok_num ok_ord) (pd_var 2) (pd_bin op_pow ok_intOp pd_int pd_int)) (pd_var 2) pd_int)) (pg_sub (pv 0) pe_int set_list)))))))
  (ws_cons (ws_if (pt_cmpD (op_gtD hr.units) (ok_num ok_ord) (pd_hix rfl (pd_var 0) pd_int) pd_int) (ws_cons (ws_set sc__law_draw.nd (pd_bin op_modD ok_modD (pd_callTy call_int1 ok_int rfl T.n_int bt_int (pa_cons' (pd_hix rfl (pd_var 0) pd_int) pa_nil')) (pd_var 1)))
  (ws_cons (ws_hput rfl (ps_asg (pdD (pd_bin op_fdivD ok_fdivD (pd_hix rfl (pd_var 0) pd_int) (pd_var 1))) (pg_sub (pv 0) pe_int set_list)))
  (ws_one (ws_ret (pd_var 3))))) ws_nil)
  (ws_cons (ws_hput rfl (ps_asg (pdD (pd_bin op_addD ok_addD (pd_hix rfl (pd_var 0) pd_int) pd_int)) (pg_sub (pv 0) pe_int set_list)))
  (ws_cons (ws_set sc__law_draw.nd (pd_bin op_modD ok_modD (pd_callTy call_int1 ok_int rfl T.n_int bt_int (pa_cons' (pd_bin op_mulD ok_mulD (pd_callTy call_int1 ok_int rfl T.n_int bt_int (pa_cons' (pd_bin op_addD ok_addD (pd_hix rfl (pd_var 0) pd_int) (pd_bin op_mulD ok_mulD pd_int (pd_hix rfl (pd_var 0) pd_int))) pa_nil')) pd_int) pa_nil')) pd_int))
  (ws_cons (ws_set sc__law_draw.nd (pd_bin op_modD ok_modD (pd_callTy call_int1 ok_int rfl T.n_int bt_int (pa_cons' (pd_bin op_mulD ok_mulD (pd_var 4) (pd_bin op_addD ok_addD (pd_bin op_fdivD ok_fdivD (pd_var 4) pd_int) pd_int)) pa_nil')) pd_int))
  (ws_cons (ws_set sc__law_draw.nd (pd_bin op_modD ok_modD (pd_callTy call_int1 ok_int rfl T.n_int bt_int (pa_cons' (pd_bin op_mulD ok_mulD (pd_var 4) (pd_bin op_addD ok_addD (pd_bin op_fdivD ok_fdivD (pd_var 4) pd_int) pd_int)) pa_nil')) pd_int))
  (ws_one (ws_ret (pd_bin op_modD ok_modD (pd_callTy call_int1 ok_int rfl T.n_int bt_int (pa_cons' (pd_bin op_fdivD ok_fdivD (pd_var 4) pd_int) pa_nil')) (pd_var 1))))))))))
abbrev N__law_some : List Str := ["hand", "things"]
theorem sc__law_some : FnScope N__law_some ["hand", "things"] (defScope s__law_some) := ⟨rfl, rfl, rfl, by decide +kernel, rfl, by decide +kernel, by decide +kernel⟩
theorem ok__law_some (T : Txt P K mg) (kp : Keeps p) : FnG p P w K mg base (L2.CX P w) 2 (He.fAd K ("_law_some", none)) T.d__law_some ["hand", "things"] (spD (JO (oF K)) mg 2 m__law_some) :=
  def_ok (jo := joOk (oF K)) T.F__law_some sc__law_some kp fun cdv A outer s H E G hr hpa =>
  (ws_one (ws_ret (pd_ix (pd_var 1) (pd_call (ok__law_draw T kp) (hr.mono (by decide)) hpa T.g__law_draw T.F__law_draw.kp T.b__law_draw (takes_of rfl rfl rfl rfl) (pa_cons' (pd_var 0) (pa_cons' (pd_callB cr_len ok_len rfl T.n_len bt_len (pa_cons' (pd_var 1) pa_nil')) pa_nil'))))))
abbrev N__law_is_int : List Str := ["thing", "least_now", "most"]
theorem sc__law_is_int : FnScope N__law_is_int ["thing", "least_now", "most"] (defScope s__law_is_int) := ⟨rfl, rfl, rfl, by decide +kernel, rfl, by decide +kernel, by decide +kernel⟩
theorem ok__law_is_int (T : Txt P K mg) (kp : Keeps p) : FnG p P w K mg base (L2.CX P w) 1 (He.fAd K ("_law_is_int", none)) T.d__law_is_int ["thing", "least_now", "most"] (spD (JO (oF K)) mg 3 m__law_is_int) :=
  def_ok (jo := joOk (oF K)) T.F__law_is_int sc__law_is_int kp fun cdv A outer s H E G hr hpa =>
  (ws_cons (ws_if (pt_notD (pt_bool (pd_isi (T := "int") (pd_var 0) rfl T.n_isinstance rfl T.n_int bt_int))) (ws_one (ws_ret pd_bl)) ws_nil)
  (ws_cons (ws_if (pt_bool (pd_isi (T := "bool") (pd_var 0) rfl T.n_isinstance rfl T.n_bool bt_bool)) (ws_one (ws_ret pd_bl)) ws_nil)
  (ws_one (ws_ret (pd_chain (op_leD hr.units) (op_leD hr.units) (ok_num ok_ord) (ok_num ok_ord) (pd_var 1) (pd_var 0) (pd_var 2))))))
abbrev N__law_all : List Str := ["points", "found", "i", ".0", "lot"]
theorem sc__law_all : FnScope N__law_all ["points"] (defScope s__law_all) := ⟨rfl, rfl, rfl, by decide +kernel, rfl, by decide +kernel, by decide +kernel⟩
theorem ok__law_all (T : Txt P K mg) (kp : Keeps p) : FnG p P w K mg base (L2.CX P w) 1 (He.fAd K ("_law_all", none)) T.d__law_all ["points"] (spD (JO (oF K)) mg 1 m__law_all) :=
  def_ok (jo := joOk (oF K)) T.F__law_all sc__law_all kp fun cdv A outer s H E G hr hpa =>
  (ws_cons (ws_set sc__law_all.nd (pd_lst (pa_cons' (pd_tup pa_nil' (by first | decide | simp)) pa_nil') (by first | decide | simp)))
  (ws_cons (ws_for (sl := [2]) (passes_of rfl) rfl (pi_rng1 rfl T.n_range (pa_cons' (pd_var 0) pa_nil')) (pg_nameD sc__law_all.nd)
  (ws_one (ws_set sc__law_all.nd (pd_bin op_addD ok_addD (pd_var 1) (pd_lc (own := [(".0", 3), ("lot", 4)]) (sl := [4]) rfl sc__law_all.nd (pi_seq (pd_var 1)) (blkOk_by (N := N__law_all) (sc := (defScope s__law_all)) (by decide +kernel)) (fun _ _ _ _ _ => (pg_nameD sc__law_all.nd)) (fun _ _ _ _ _ => pts_nilD) (fun _ _ _ _ _ => (pd_bin op_addD ok_addD (pd_var 4) (pd_tup (pa_cons' (pd_var 2) pa_nil') (by first | decide | simp)))))))))
  (ws_one (ws_ret (pd_callB (cr_sortD hr.units) ok_rOf rfl T.n_sorted bt_sorted (pa_cons' (pd_var 1) pa_nil'))))))
abbrev N__law_in : List Str := ["one", "other", ".0", "i"]
theorem sc__law_in : FnScope N__law_in ["one", "other"] (defScope s__law_in) := ⟨rfl, rfl, rfl, by decide +kernel, rfl, by decide +kernel, by decide +kernel⟩
theorem ok__law_in (T : Txt P K mg) (kp : Keeps p) : FnG p P w K mg base (L2.CX P w) 1 (He.fAd K ("_law_in", none)) T.d__law_in ["one", "other"] (spD (JO (oF K)) mg 2 m__law_in) :=
  def_ok (jo := joOk (oF K)) T.F__law_in sc__law_in kp fun cdv A outer s H E G hr hpa =>
  (ws_one (ws_ret (pd_callB (cr_all rfl) ok_all rfl T.n_all bt_all (pa_cons' (pd_lc (own := [(".0", 2), ("i", 3)]) (sl := [3]) rfl sc__law_in.nd (pi_seq (pd_var 0)) (blkOk_by (N := N__law_in) (sc := (defScope s__law_in)) (by decide +kernel)) (fun _ _ _ _ _ => (pg_nameD sc__law_in.nd)) (fun _ _ _ _ _ => pts_nilD) (fun _ _ _ _ _ => (pd_cmp (op_inB hr.units) ok_inB (pd_var 3) (pd_var 1)))) pa_nil'))))
abbrev z__law_family_0 : Scope := { kind := .function, names := [(".0", .local), ("lot", .cell), ("any", .globalImplicit), ("few", .cell)], isGenerator := false, isCoroutine := false, more := [] }
abbrev z__law_family_1 : Scope := { kind := .function, names := [(".0", .local), ("lot", .cell), ("any", .globalImplicit), ("few", .cell)], isGenerator := false, isCoroutine := false, more := [] }
abbrev N__law_family : List Str := ["hand", "points", "every", "kind", "often_now", "some", "size", "few", ".0", "lot", "one"]
theorem sc__law_family : FnScope N__law_family ["hand", "points"] (defScope s__law_family) := ⟨rfl, rfl, rfl, by decide +kernel, rfl, by decide +kernel, by decide +kernel⟩
theorem ok__law_family (T : Txt P K mg) (kp : Keeps p) : FnG p P w K mg base (L2.CX P w) 2 (He.fAd K ("_law_family", none)) T.d__law_family ["hand", "points"] (spD (JO (oF K)) mg 2 m__law_family) :=
  def_ok (jo := joOk (oF K)) T.F__law_family sc__law_family kp fun cdv A outer s H E G hr hpa =>
  (ws_cons (ws_asg (sl := [2, 3, 4]) (pd_tup (pa_cons' (pd_call (ok__law_all T kp) (hr.mono (by decide)) hpa T.g__law_all T.F__law_all.kp T.b__law_all (takes_of rfl rfl rfl rfl) (pa_cons' (pd_var 1) pa_nil')) (pa_cons' (pd_call (ok__law_draw T kp) (hr.mono (by decide)) hpa T.g__law_draw T.F__law_draw.kp T.b__law_draw (takes_of rfl rfl rfl rfl) (pa_cons' (pd_var 0) (pa_cons' pd_int pa_nil'))) (pa_cons' (pd_bin op_addD ok_addD pd_int (pd_call (ok__law_draw T kp) (hr.mono (by decide)) hpa T.g__law_draw T.F__law_draw.kp T.b__law_draw (takes_of rfl rfl rfl rfl) (pa_cons' (pd_var 0) (pa_cons' pd_int pa_nil')))) pa_nil'))) (by first | decide | simp)) (pg_tupD rfl (pgs_consD sc__law_family.nd (pgs_consD sc__law_family.nd (pgs_consD sc__law_family.nd pgs_nilD)))))
  (ws_cons (ws_setLc (ps_setLcD (own := [(".0", 8), ("lot", 9)]) (sl := [9]) rfl sc__law_family.nd (pi_seq (pd_var 2)) (blkOk_by (N := N__law_family) (sc := (defScope s__law_family)) (by decide +kernel)) (fun _ _ _ _ _ => (pg_nameD sc__law_family.nd)) (fun _ _ _ _ _ => (pts_oneD (pt_cmpD (op_eqP hr.units) ok_eqP (pd_call (ok__law_draw T kp) (hr.mono (by decide)) hpa T.g__law_draw T.F__law_draw.kp T.b__law_draw takes0 (pa_cons' (pd_var 0) (pa_cons' (pd_var 4) pa_nil'))) pd_int))) (fun _ _ _ _ _ => (pd_var 9))))
  (ws_cons (ws_if (pt_cmpD (op_eqP hr.units) ok_eqP (pd_var 3) pd_int) (ws_cons (ws_set sc__law_family.nd (pd_call (ok__law_draw T kp) (hr.mono (by decide)) hpa T.g__law_draw T.F__law_draw.kp T.b__law_draw (takes_of rfl rfl rfl rfl) (pa_cons' (pd_var 0) (pa_cons' (pd_bin op_addD ok_addD (pd_var 1) pd_int) pa_nil'))))
  (ws_one (ws_ret (pd_callTy call_tuple_of ok_tuple rfl T.n_tuple bt_tuple (pa_cons' (pd_lc (own := [(".0", 8), ("lot", 9)]) (sl := [9]) rfl sc__law_family.nd (pi_seq (pd_var 2)) (blkOk_by (N := N__law_family) (sc := (defScope s__law_family)) (by decide +kernel)) (fun _ _ _ _ _ => (pg_nameD sc__law_family.nd)) (fun _ _ _ _ _ => (pts_oneD (PW.pt (pw_andD (pt_cmpD (op_eqP hr.units) ok_eqP (pd_callB cr_len ok_len rfl T.n_len bt_len (pa_cons' (pd_var 9) pa_nil')) (pd_var 6)) (pw_and1D (pt_cmpD (op_gtD hr.units) (ok_num ok_ord) (pd_call (ok__law_draw T kp) (hr.mono (by decide)) hpa T.g__law_draw T.F__law_draw.kp T.b__law_draw takes0 (pa_cons' (pd_var 0) (pa_cons' pd_int pa_nil'))) pd_int)))))) (fun _ _ _ _ _ => (pd_var 9))) pa_nil'))))) ws_nil)
  (ws_cons (ws_if (pt_cmpD (op_eqP hr.units) ok_eqP (pd_var 3) pd_int) (ws_cons (ws_set sc__law_family.nd (pd_slice (pd_var 5) po_no (po_yes pd_int)))
  (ws_one (ws_ret (pd_callTy call_tuple_of ok_tuple rfl T.n_tuple bt_tuple (pa_cons' (pd_lc (own := [(".0", 8), ("lot", 9)]) (sl := [9]) rfl sc__law_family.nd (pi_seq (pd_var 2)) (blkOk_by (N := N__law_family) (sc := (defScope s__law_family)) (by decide +kernel)) (fun _ _ _ _ _ => (pg_nameD sc__law_family.nd)) (fun _ _ _ _ _ => (pts_oneD (pt_bool (pd_callB (cr_any rfl) ok_any rfl T.n_any bt_any (pa_cons' (pd_lc (own := [(".0", 8), ("one", 10)]) (sl := [10]) rfl sc__law_family.nd (pi_seq (pd_var 7)) (blkOk_by (N := N__law_family) (sc := z__law_family_0) (by decide +kernel)) (fun _ _ _ _ _ => (pg_nameD sc__law_family.nd)) (fun _ _ _ _ _ => pts_nilD) (fun _ _ _ _ _ => (pd_call (ok__law_in T kp) (hr.mono (by decide)) hpa T.g__law_in T.F__law_in.kp T.b__law_in takes0 (pa_cons' (pd_var 9) (pa_cons' (pd_var 10) pa_nil'))))) pa_nil'))))) (fun _ _ _ _ _ => (pd_var 9))) pa_nil'))))) ws_nil)
  (ws_cons (ws_if (pt_cmpD (op_eqP hr.units) ok_eqP (pd_var 3) pd_int) (ws_cons (ws_set sc__law_family.nd (pd_slice (pd_var 5) po_no (po_yes pd_int)))
  (ws_one (ws_ret (pd_callTy call_tuple_of ok_tuple rfl T.n_tuple bt_tuple (pa_cons' (pd_lc (own := [(".0", 8), ("lot", 9)]) (sl := [9]) rfl sc__law_family.nd (pi_seq (pd_var 2)) (blkOk_by (N := N__law_family) (sc := (defScope s__law_family)) (by decide +kernel)) (fun _ _ _ _ _ => (pg_nameD sc__law_family.nd)) (fun _ _ _ _ _ => (pts_oneD (pt_bool (pd_callB (cr_any rfl) ok_any rfl T.n_any bt_any (pa_cons' (pd_lc (own := [(".0", 8), ("one", 10)]) (sl := [10]) rfl sc__law_family.nd (pi_seq (pd_var 7)) (blkOk_by (N := N__law_family) (sc := z__law_family_1) (by decide +kernel)) (fun _ _ _ _ _ => (pg_nameD sc__law_family.nd)) (fun _ _ _ _ _ => pts_nilD) (fun _ _ _ _ _ => (pd_call (ok__law_in T kp) (hr.mono (by decide)) hpa T.g__law_in T.F__law_in.kp T.b__law_in takes0 (pa_cons' (pd_var 10) (pa_cons' (pd_var 9) pa_nil'))))) pa_nil'))))) (fun _ _ _ _ _ => (pd_var 9))) pa_nil'))))) ws_nil)
  (ws_one (ws_ret (pd_if (pt_cmpD (op_eqP hr.units) ok_eqP (pd_var 3) pd_int) (pd_callTy call_tuple_of ok_tuple rfl T.n_tuple bt_tuple (pa_cons' (pd_slice (pd_var 5) po_no (po_yes (pd_call (ok__law_draw T kp) (hr.mono (by decide)) hpa T.g__law_draw T.F__law_draw.kp T.b__law_draw (takes_of rfl rfl rfl rfl) (pa_cons' (pd_var 0) (pa_cons' pd_int pa_nil'))))) pa_nil')) (pd_callTy call_tuple_of ok_tuple rfl T.n_tuple bt_tuple (pa_cons' (pd_var 5) pa_nil'))))))))))
abbrev N__law_deep : List Str := ["hand", "thing", "turn"]
theorem sc__law_deep : FnScope N__law_deep ["hand"] (defScope s__law_deep) := ⟨rfl, rfl, rfl, by decide +kernel, rfl, by decide +kernel, by decide +kernel⟩
theorem ok__law_deep (T : Txt P K mg) (kp : Keeps p) : FnG p P w K mg base (L2.CX P w) 3 (He.fAd K ("_law_deep", none)) T.d__law_deep ["hand"] (spD (JO (oF K)) mg 1 m__law_deep) :=
  def_ok (jo := joOk (oF K)) T.F__law_deep sc__law_deep kp fun cdv A outer s H E G hr hpa =>
  (ws_cons (ws_set sc__law_deep.nd (pd_call (ok__law_some T kp) (hr.mono (by decide)) hpa T.g__law_some T.F__law_some.kp T.b__law_some (takes_of rfl rfl rfl rfl) (pa_cons' (pd_var 0) (pa_cons' (pd_lst (pa_cons' pd_non (pa_cons' pd_int (pa_cons' pd_str pa_nil'))) (by first | decide | simp)) pa_nil'))))
  (ws_cons (ws_for (sl := [2]) (passes_of rfl) rfl (pi_rng1 rfl T.n_range (pa_cons' (pd_bin op_addD ok_addD pd_int (pd_call (ok__law_draw T kp) (hr.mono (by decide)) hpa T.g__law_draw T.F__law_draw.kp T.b__law_draw (takes_of rfl rfl rfl rfl) (pa_cons' (pd_var 0) (pa_cons' pd_int pa_nil')))) pa_nil')) (pg_nameD sc__law_deep.nd)
  (ws_one (ws_set sc__law_deep.nd (pd_call (ok__law_some T kp) (hr.mono (by decide)) hpa T.g__law_some T.F__law_some.kp T.b__law_some (takes_of rfl rfl rfl rfl) (pa_cons' (pd_var 0) (pa_cons' (pd_lst (pa_cons' (pd_tup (pa_cons' (pd_var 1) pa_nil') (by first | decide | simp)) (pa_cons' (pd_lst (pa_cons' (pd_var 1) pa_nil') (by first | decide | simp)) (pa_cons' (pd_disp1 pd_int (pd_var 1)) pa_nil'))) (by first | decide | simp)) pa_nil'))))))
  (ws_one (ws_ret (pd_var 1)))))
abbrev N__law_lit : List Str := ["lots", "numbers", "found", "at", ".0", "i"]
theorem sc__law_lit : FnScope N__law_lit ["lots", "numbers"] (defScope s__law_lit) := ⟨rfl, rfl, rfl, by decide +kernel, rfl, by decide +kernel, by decide +kernel⟩
theorem ok__law_lit (T : Txt P K mg) (kp : Keeps p) : FnG p P w K mg base (L2.CX P w) 1 (He.fAd K ("_law_lit", none)) T.d__law_lit ["lots", "numbers"] (spD (JO (oF K)) mg 2 m__law_lit) :=
  def_ok (jo := joOk (oF K)) T.F__law_lit sc__law_lit kp fun cdv A outer s H E G hr hpa =>
  (ws_cons (ws_set sc__law_lit.nd (pd_lst pa_nil' (by first | decide | simp)))
  (ws_cons (ws_for (sl := [3]) (passes_of rfl) rfl (pi_seq (pd_var 1)) (pg_nameD sc__law_lit.nd)
  (ws_one (ws_set sc__law_lit.nd (pd_bin op_addD ok_addD (pd_lc (own := [(".0", 4), ("i", 5)]) (sl := [5]) rfl sc__law_lit.nd (pi_seq (pd_var 2)) (blkOk_by (N := N__law_lit) (sc := (defScope s__law_lit)) (by decide +kernel)) (fun _ _ _ _ _ => (pg_nameD sc__law_lit.nd)) (fun _ _ _ _ _ => (pts_oneD (pt_cmpD (op_notInB hr.units) ok_inB (pd_var 5) (pd_ix (pd_var 0) (pd_var 3))))) (fun _ _ _ _ _ => (pd_var 5))) (pd_lc (own := [(".0", 4), ("i", 5)]) (sl := [5]) rfl sc__law_lit.nd (pi_seq (pd_ix (pd_var 0) (pd_var 3))) (blkOk_by (N := N__law_lit) (sc := (defScope s__law_lit)) (by decide +kernel)) (fun _ _ _ _ _ => (pg_nameD sc__law_lit.nd)) (fun _ _ _ _ _ => (pts_oneD (pt_cmpD (op_notInB hr.units) ok_inB (pd_var 5) (pd_var 2)))) (fun _ _ _ _ _ => (pd_var 5)))))))
  (ws_one (ws_ret (pd_callTy call_tuple_of ok_tuple rfl T.n_tuple bt_tuple (pa_cons' (pd_callB (cr_sortD hr.units) ok_rOf rfl T.n_sorted bt_sorted (pa_cons' (pd_var 2) pa_nil')) pa_nil'))))))
abbrev N__law_word : List Str := ["call", "word", "error", "flags"]
theorem sc__law_word : FnScope N__law_word ["call"] (defScope s__law_word) := ⟨rfl, rfl, rfl, by decide +kernel, rfl, by decide +kernel, by decide +kernel⟩
theorem ga__law_word (T : Txt P K mg) {g : Addr} {cdv : Value} {A : Around} {outer : List Env} {s : Shared} {H : Hp} {G : Gh} {act : WA} {tl : XK → Hp → VK → Prop} {f c' : Addr} {q : Str} (hr : Room 2 (A.deeper (envOfC "_law_word" (defScope s__law_word) s.heap.objs.size g cdv))) (gc : G c' = some (.code q)) (ha : ActOf (JO (oF K)) mg G H act tl)
    (hc : CallA (cxOf C8.CX0 P w K mg base N__law_word "_law_word" (defScope s__law_word) g cdv A outer s H C8.E0).nox "call" q f c' tl) : PSs (cxOf C8.CX0 P w K mg base N__law_word "_law_word" (defScope s__law_word) g cdv A outer s H C8.E0).nox (defBody s__law_word) (tWS (pcAct (JO (oF K)) (joOk (oF K)) mg H G) (b__law_word act f)) :=
  (ws_cons (ws_set sc__law_word.nd pd_str)
  (ws_cons (ws_tryA T.xk rfl 2 ha gc hc rfl rfl sc__law_word.nd (fun xy xa xd xoe xpn xG xH sI =>
    (ws_cons (ws_setO sc__law_word.nd (pd_lst pa_nil' (by first | decide | simp)))
  (ws_cons (ws_ext (ps_expr (pe_bm PySem.F.plainAttrs_list PySem.F.slot_list_extend PySem.F.type_list_extend mt_extend (pv 3) (pa_cons (pdD (pd_lst (pa_cons' (pd_isO rfl T.xk sI T.n_isinstance 2) (pa_cons' (pd_isO rfl T.xk sI T.n_isinstance 2) pa_nil')) (by first | decide | simp))) pa_nil))))
  (ws_cons (ws_ext (ps_expr (pe_bm PySem.F.plainAttrs_list PySem.F.slot_list_extend PySem.F.type_list_extend mt_extend (pv 3) (pa_cons (pdD (pd_lst (pa_cons' (pd_isO rfl T.xk sI T.n_isinstance 2) pa_nil') (by first | decide | simp))) pa_nil))))
  (ws_cons (ws_set sc__law_word.nd pd_str)
  (ws_cons (ws_if (pt_bor 3 (PW.pt (pw_andD (pt_cmpD (op_eqP hr.units) ok_eqP (pd_lcount (pd_var 3) pd_bl) pd_int) (pw_and1D (pt_bool (pd_isV rfl T.xk sI T.n_isinstance T.n_ValueError 2)))))) (ws_one (ws_set sc__law_word.nd (pd_bor 3 (pd_ix (pd_lst (pa_cons' pd_str (pa_cons' pd_str (pa_cons' pd_str pa_nil'))) (by first | decide | simp)) (pd_lindex (pd_var 3) pd_bl))))) ws_nil)
  (ws_one (ws_set sc__law_word.nd (pd_if (pt_cmpD (op_eqP hr.units) ok_eqP (pd_var 1) pd_str) (pd_tup (pa_cons' (pd_var 1) (pa_cons' (pd_fldX rfl T.xk sI 2) pa_nil')) (by first | decide | simp)) (pd_var 1)))))))))))
  (ws_one (ws_ret (pd_var 1)))))
abbrev N__law_is_odd : List Str := ["one", "other", ".0", "i"]
theorem sc__law_is_odd : FnScope N__law_is_odd ["one", "other"] (defScope s__law_is_odd) := ⟨rfl, rfl, rfl, by decide +kernel, rfl, by decide +kernel, by decide +kernel⟩
theorem ok__law_is_odd (T : Txt P K mg) (kp : Keeps p) : FnG p P w K mg base (L2.CX P w) 1 (He.fAd K ("_law_is_odd", none)) T.d__law_is_odd ["one", "other"] (spD (JO (oF K)) mg 2 m__law_is_odd) :=
  def_ok (jo := joOk (oF K)) T.F__law_is_odd sc__law_is_odd kp fun cdv A outer s H E G hr hpa =>
  (ws_one (ws_ret (pd_cmp (op_eqP hr.units) ok_eqP (pd_bin op_modD ok_modD (pd_callTy call_int1 ok_int rfl T.n_int bt_int (pa_cons' (pd_callB cr_len ok_len rfl T.n_len bt_len (pa_cons' (pd_lc (own := [(".0", 2), ("i", 3)]) (sl := [3]) rfl sc__law_is_odd.nd (pi_seq (pd_var 0)) (blkOk_by (N := N__law_is_odd) (sc := (defScope s__law_is_odd)) (by decide +kernel)) (fun _ _ _ _ _ => (pg_nameD sc__law_is_odd.nd)) (fun _ _ _ _ _ => (pts_oneD (pt_cmpD (op_inB hr.units) ok_inB (pd_var 3) (pd_var 1)))) (fun _ _ _ _ _ => pd_int)) pa_nil')) pa_nil')) pd_int) pd_int)))
abbrev z__law_checks_0 : Scope := { kind := .function, names := [(".0", .local), ("one", .cell), ("any", .globalImplicit), ("lots", .cell)], isGenerator := false, isCoroutine := false, more := [] }
abbrev N__law_checks : List Str := ["points", "lots", "lot", "every", ".0", "one", "other"]
theorem sc__law_checks : FnScope N__law_checks ["points", "lots", "lot"] (defScope s__law_checks) := ⟨rfl, rfl, rfl, by decide +kernel, rfl, by decide +kernel, by decide +kernel⟩
theorem ok__law_checks (T : Txt P K mg) (kp : Keeps p) : FnG p P w K mg base (L2.CX P w) 2 (He.fAd K ("_law_checks", none)) T.d__law_checks ["points", "lots", "lot"] (spD (JO (oF K)) mg 3 m__law_checks) :=
  def_ok (jo := joOk (oF K)) T.F__law_checks sc__law_checks kp fun cdv A outer s H E G hr hpa =>
  (ws_cons (ws_setLc (ps_setLcD (own := [(".0", 4), ("one", 5)]) (sl := [5]) rfl sc__law_checks.nd (pi_seq (pd_call (ok__law_all T kp) (hr.mono (by decide)) hpa T.g__law_all T.F__law_all.kp T.b__law_all (takes_of rfl rfl rfl rfl) (pa_cons' (pd_var 0) pa_nil'))) (blkOk_by (N := N__law_checks) (sc := (defScope s__law_checks)) (by decide +kernel)) (fun _ _ _ _ _ => (pg_nameD sc__law_checks.nd)) (fun _ _ _ _ _ => (pts_oneD (pt_bool (pd_call (ok__law_is_odd T kp) (hr.mono (by decide)) hpa T.g__law_is_odd T.F__law_is_odd.kp T.b__law_is_odd takes0 (pa_cons' (pd_var 5) (pa_cons' (pd_var 2) pa_nil')))))) (fun _ _ _ _ _ => (pd_var 5))))
  (ws_one (ws_ret (pd_lc (own := [(".0", 4), ("one", 5)]) (sl := [5]) rfl sc__law_checks.nd (pi_seq (pd_var 3)) (blkOk_by (N := N__law_checks) (sc := (defScope s__law_checks)) (by decide +kernel)) (fun _ _ _ _ _ => (pg_nameD sc__law_checks.nd)) (fun _ _ _ _ _ => (pts_oneD (pt_notD (pt_bool (pd_callB (cr_any rfl) ok_any rfl T.n_any bt_any (pa_cons' (pd_lc (own := [(".0", 4), ("other", 6)]) (sl := [6]) rfl sc__law_checks.nd (pi_seq (pd_var 1)) (blkOk_by (N := N__law_checks) (sc := z__law_checks_0) (by decide +kernel)) (fun _ _ _ _ _ => (pg_nameD sc__law_checks.nd)) (fun _ _ _ _ _ => pts_nilD) (fun _ _ _ _ _ => (pd_call (ok__law_is_odd T kp) (hr.mono (by decide)) hpa T.g__law_is_odd T.F__law_is_odd.kp T.b__law_is_odd takes0 (pa_cons' (pd_var 5) (pa_cons' (pd_var 6) pa_nil'))))) pa_nil')))))) (fun _ _ _ _ _ => (pd_var 5))))))
abbrev N__law_is_rising : List Str := ["thing", "below", ".0", "one", "other"]
theorem sc__law_is_rising : FnScope N__law_is_rising ["thing", "below"] (defScope s__law_is_rising) := ⟨rfl, rfl, rfl, by decide +kernel, rfl, by decide +kernel, by decide +kernel⟩
theorem ok__law_is_rising (T : Txt P K mg) (kp : Keeps p) : FnG p P w K mg base (L2.CX P w) 2 (He.fAd K ("_law_is_rising", none)) T.d__law_is_rising ["thing", "below"] (spD (JO (oF K)) mg 2 m__law_is_rising) :=
  def_ok (jo := joOk (oF K)) T.F__law_is_rising sc__law_is_rising kp fun cdv A outer s H E G hr hpa =>
  (ws_cons (ws_if (pt_notD (pt_bool (pd_isi (T := "tuple") (pd_var 0) rfl T.n_isinstance rfl T.n_tuple bt_tuple))) (ws_one (ws_ret pd_bl)) ws_nil)
  (ws_cons (ws_if (pt_notD (pt_bool (pd_callB (cr_all rfl) ok_all rfl T.n_all bt_all (pa_cons' (pd_lc (own := [(".0", 2), ("one", 3)]) (sl := [3]) rfl sc__law_is_rising.nd (pi_seq (pd_var 0)) (blkOk_by (N := N__law_is_rising) (sc := (defScope s__law_is_rising)) (by decide +kernel)) (fun _ _ _ _ _ => (pg_nameD sc__law_is_rising.nd)) (fun _ _ _ _ _ => pts_nilD) (fun _ _ _ _ _ => (pd_call (ok__law_is_int T kp) (hr.mono (by decide)) hpa T.g__law_is_int T.F__law_is_int.kp T.b__law_is_int takes0 (pa_cons' (pd_var 3) (pa_cons' pd_int (pa_cons' (pd_bin op_sub ok_intOp0 (pd_var 1) pd_int) pa_nil')))))) pa_nil')))) (ws_one (ws_ret pd_bl)) ws_nil)
  (ws_one (ws_ret (pd_callB (cr_all rfl) ok_all rfl T.n_all bt_all (pa_cons' (pd_lc (own := [(".0", 2), ("one", 3), ("other", 4)]) (sl := [3, 4]) rfl sc__law_is_rising.nd (pi_zipD rfl T.n_zip (pa_cons' (pd_var 0) (pa_cons' (pd_slice (pd_var 0) (po_yes pd_int) po_no) pa_nil'))) (blkOk_by (N := N__law_is_rising) (sc := (defScope s__law_is_rising)) (by decide +kernel)) (fun _ _ _ _ _ => (pg_tupD rfl (pgs_consD sc__law_is_rising.nd (pgs_consD sc__law_is_rising.nd pgs_nilD)))) (fun _ _ _ _ _ => pts_nilD) (fun _ _ _ _ _ => (pd_cmp (op_ltD hr.units) (ok_num ok_ord) (pd_var 3) (pd_var 4)))) pa_nil'))))))
abbrev N__law_is_told : List Str := ["points", "lots", "lot", "thing"]
theorem sc__law_is_told : FnScope N__law_is_told ["points", "lots", "lot", "thing"] (defScope s__law_is_told) := ⟨rfl, rfl, rfl, by decide +kernel, rfl, by decide +kernel, by decide +kernel⟩
theorem ok__law_is_told (T : Txt P K mg) (kp : Keeps p) : FnG p P w K mg base (L2.CX P w) 3 (He.fAd K ("_law_is_told", none)) T.d__law_is_told ["points", "lots", "lot", "thing"] (spD (JO (oF K)) mg 4 m__law_is_told) :=
  def_ok (jo := joOk (oF K)) T.F__law_is_told sc__law_is_told kp fun cdv A outer s H E G hr hpa =>
  (ws_cons (ws_if (pt_notD (pt_bool (pd_isi (T := "tuple") (pd_var 3) rfl T.n_isinstance rfl T.n_tuple bt_tuple))) (ws_one (ws_ret pd_bl)) ws_nil)
  (ws_cons (ws_if (pt_cmpD (op_neP hr.units) ok_neP (pd_callB cr_len ok_len rfl T.n_len bt_len (pa_cons' (pd_var 3) pa_nil')) pd_int) (ws_one (ws_ret pd_bl)) ws_nil)
  (ws_cons (ws_if (pt_notD (pt_bool (pd_isi (T := "str") (pd_ix (pd_var 3) pd_int) rfl T.n_isinstance rfl T.n_str bt_str))) (ws_one (ws_ret pd_bl)) ws_nil)
  (ws_cons (ws_if (pt_cmpD (op_eqP hr.units) ok_eqP (pd_ix (pd_var 3) pd_int) pd_str) (ws_cons (ws_if (pt_notD (pt_bool (pd_call (ok__law_is_rising T kp) (hr.mono (by decide)) hpa T.g__law_is_rising T.F__law_is_rising.kp T.b__law_is_rising (takes_of rfl rfl rfl rfl) (pa_cons' (pd_ix (pd_var 3) pd_int) (pa_cons' (pd_callB cr_len ok_len rfl T.n_len bt_len (pa_cons' (pd_var 1) pa_nil')) pa_nil'))))) (ws_one (ws_ret pd_bl)) ws_nil)
  (ws_one (ws_ret (pd_cmp (op_eqP hr.units) ok_eqP (pd_call (ok__law_lit T kp) (hr.mono (by decide)) hpa T.g__law_lit T.F__law_lit.kp T.b__law_lit (takes_of rfl rfl rfl rfl) (pa_cons' (pd_var 1) (pa_cons' (pd_ix (pd_var 3) pd_int) pa_nil'))) (pd_var 2))))) ws_nil)
  (ws_cons (ws_if (pt_notD (pt_cmpD (op_eqP hr.units) ok_eqP (pd_ix (pd_var 3) pd_int) pd_str)) (ws_one (ws_ret pd_bl)) ws_nil)
  (ws_cons (ws_if (pt_notD (pt_bool (pd_call (ok__law_is_rising T kp) (hr.mono (by decide)) hpa T.g__law_is_rising T.F__law_is_rising.kp T.b__law_is_rising (takes_of rfl rfl rfl rfl) (pa_cons' (pd_ix (pd_var 3) pd_int) (pa_cons' (pd_var 0) pa_nil'))))) (ws_one (ws_ret pd_bl)) ws_nil)
  (ws_one (ws_ret (pd_cmp (op_inB hr.units) ok_inB (pd_ix (pd_var 3) pd_int) (pd_call (ok__law_checks T kp) (hr.mono (by decide)) hpa T.g__law_checks T.F__law_checks.kp T.b__law_checks (takes_of rfl rfl rfl rfl) (pa_cons' (pd_var 0) (pa_cons' (pd_var 1) (pa_cons' (pd_var 2) pa_nil')))))))))))))
abbrev N__law_bent : List Str := ["hand", "points", "lots", "told", "some"]
theorem sc__law_bent : FnScope N__law_bent ["hand", "points", "lots", "told"] (defScope s__law_bent) := ⟨rfl, rfl, rfl, by decide +kernel, rfl, by decide +kernel, by decide +kernel⟩
theorem ok__law_bent (T : Txt P K mg) (kp : Keeps p) : FnG p P w K mg base (L2.CX P w) 4 (He.fAd K ("_law_bent", none)) T.d__law_bent ["hand", "points", "lots", "told"] (spD (JO (oF K)) mg 4 m__law_bent) :=
  def_ok (jo := joOk (oF K)) T.F__law_bent sc__law_bent kp fun cdv A outer s H E G hr hpa =>
  (ws_cons (ws_set sc__law_bent.nd (pd_bin op_mulD ok_mulD (pd_lst (pa_cons' (pd_tup (pa_cons' pd_str (pa_cons' (pd_call (ok__law_some T kp) (hr.mono (by decide)) hpa T.g__law_some T.F__law_some.kp T.b__law_some (takes_of rfl rfl rfl rfl) (pa_cons' (pd_var 0) (pa_cons' (pd_call (ok__law_all T kp) (hr.mono (by decide)) hpa T.g__law_all T.F__law_all.kp T.b__law_all (takes_of rfl rfl rfl rfl) (pa_cons' (pd_callB cr_len ok_len rfl T.n_len bt_len (pa_cons' (pd_var 2) pa_nil')) pa_nil')) pa_nil'))) pa_nil')) (by first | decide | simp)) (pa_cons' (pd_tup (pa_cons' pd_str (pa_cons' (pd_call (ok__law_some T kp) (hr.mono (by decide)) hpa T.g__law_some T.F__law_some.kp T.b__law_some (takes_of rfl rfl rfl rfl) (pa_cons' (pd_var 0) (pa_cons' (pd_call (ok__law_all T kp) (hr.mono (by decide)) hpa T.g__law_all T.F__law_all.kp T.b__law_all (takes_of rfl rfl rfl rfl) (pa_cons' (pd_var 1) pa_nil')) pa_nil'))) pa_nil')) (by first | decide | simp)) pa_nil')) (by first | decide | simp)) pd_int))
  (ws_cons (ws_set sc__law_bent.nd (pd_bin op_addD ok_addD (pd_var 4) (pd_lst (pa_cons' (pd_tup (pa_cons' pd_str (pa_cons' (pd_ix (pd_var 3) pd_int) pa_nil')) (by first | decide | simp)) (pa_cons' (pd_tup (pa_cons' pd_str (pa_cons' (pd_ix (pd_var 3) pd_int) pa_nil')) (by first | decide | simp)) (pa_cons' (pd_tup (pa_cons' pd_str (pa_cons' (pd_rev (pd_ix (pd_var 3) pd_int)) pa_nil')) (by first | decide | simp)) (pa_cons' (pd_tup (pa_cons' pd_str (pa_cons' (pd_callTy (cr_listB rfl) ok_listB rfl T.n_list bt_list (pa_cons' (pd_ix (pd_var 3) pd_int) pa_nil')) pa_nil')) (by first | decide | simp)) (pa_cons' (pd_rev (pd_var 3)) (pa_cons' (pd_callTy (cr_listB rfl) ok_listB rfl T.n_list bt_list (pa_cons' (pd_var 3) pa_nil')) (pa_cons' (pd_slice (pd_var 3) po_no (po_yes pd_int)) pa_nil'))))))) (by first | decide | simp))))
  (ws_one (ws_ret (pd_call (ok__law_some T kp) (hr.mono (by decide)) hpa T.g__law_some T.F__law_some.kp T.b__law_some (takes_of rfl rfl rfl rfl) (pa_cons' (pd_var 0) (pa_cons' (pd_bin op_addD ok_addD (pd_var 4) (pd_lst (pa_cons' (pd_bin op_addD ok_addD (pd_var 3) (pd_tup (pa_cons' pd_int pa_nil') (by first | decide | simp))) (pa_cons' (pd_tup (pa_cons' pd_str (pa_cons' (pd_ix (pd_var 3) pd_int) pa_nil')) (by first | decide | simp)) (pa_cons' (pd_tup (pa_cons' (pd_ix (pd_var 3) pd_int) (pa_cons' (pd_bin op_addD ok_addD (pd_ix (pd_var 3) pd_int) (pd_tup (pa_cons' pd_bl pa_nil') (by first | decide | simp))) pa_nil')) (by first | decide | simp)) (pa_cons' (pd_tup (pa_cons' (pd_ix (pd_var 3) pd_int) (pa_cons' (pd_tup (pa_cons' pd_int pa_nil') (by first | decide | simp)) pa_nil')) (by first | decide | simp)) (pa_cons' (pd_tup (pa_cons' (pd_ix (pd_var 3) pd_int) (pa_cons' pd_non pa_nil')) (by first | decide | simp)) (pa_cons' pd_non (pa_cons' (pd_tup pa_nil' (by first | decide | simp)) (pa_cons' pd_newT (pa_cons' (pd_call (ok__law_deep T kp) (hr.mono (by decide)) hpa T.g__law_deep T.F__law_deep.kp T.b__law_deep (takes_of rfl rfl rfl rfl) (pa_cons' (pd_var 0) pa_nil')) pa_nil'))))))))) (by first | decide | simp))) pa_nil')))))))
end
end K77
end
section
set_option Elab.async false
set_option linter.all false
set_option maxRecDepth 100000
set_option maxHeartbeats 0
namespace K77
open PySem PySem.Spec L2 PL
open PyProof.Rows hiding St
section
variable {p : Around → Prop} {P : Program} {w : World} {K : PySem.W.Frag} {mg : Str → Option Value} {base : Heap}
abbrev N_law : List Str := ["script", "hand", "words_now", "turn", "points", "lots", "family_now", "lot", "numbers", "there", "turned_now", "goal", "good", "checks", "told", "due", "again", "thing", "none", "odd", "two", ".0", "i", "at", "some"]
theorem sc_law : FnScope N_law ["script"] (defScope s_law) := ⟨rfl, rfl, rfl, by decide +kernel, rfl, by decide +kernel, by decide +kernel⟩
theorem tab_law : (tabA K ("law", none), ("law" : Str) ++ ".<locals>." ++ "<lambda>") ∈ (oF K).tabs := by simp [oF]
theorem ok_law (T : Txt P K mg) (kp : Keeps p) (hpg : ∀ A, p A → A.guards = some []) (sem : b_law { nx := fun _ => False, rt := fun r => r = .val (.bl true), bk := fun _ => False, ct := fun _ => False } noX ((List.replicate N_law.length none).set 1 (some (.val dHand)))) :
    FnG p P w K mg base (L2.CX P w) 14 (He.ga K "law") T.d_law ["script"] (spLaw (JO (oF K)) K) :=
  law_okL (pth := ("law", none)) T.F_law T.cd_law sc_law kp (by decide) rfl
    (fun cdv A outer s H E G hr hpa => ps_set sc_law.nd rfl (by first | exact Or.inl rfl | exact Or.inr rfl) (pe_callG (E := fun σ cls d H' => E cls d H') (ok__law_hand T kp hand_sem) (hr.mono (by decide)) hpa rfl T.g__law_hand T.F__law_hand.kp T.b__law_hand (fun σ => passAt (takes_of rfl rfl rfl rfl) σ) (pa_cons (pv 0) pa_nil) (by decide) rfl rfl))
    (fun cdv A outer s H E G hr hpa hcv =>
  (ws_cons (ws_if (pt_cmpD (op_neP hr.units) ok_neP (pd_call (ok_lit T kp) (hr.mono (by decide)) hpa T.g_lit T.F_lit.kp T.b_lit (takes_of rfl rfl rfl rfl) (pa_cons' (pd_family rfl T.mkF (ok_Family___init__ T pT_keeps init_sem).ok (hr.mono (by decide)) T.gF T.b_Family___init__ (pa_cons' pd_int (pa_cons' (pd_tup (pa_cons' (pd_tup (pa_cons' pd_int (pa_cons' pd_int pa_nil')) (by first | decide | simp)) pa_nil') (by first | decide | simp)) pa_nil'))) (pa_cons' (pd_tup (pa_cons' pd_int pa_nil') (by first | decide | simp)) pa_nil'))) (pd_tup (pa_cons' pd_str (pa_cons' (pd_tup (pa_cons' pd_int (pa_cons' pd_int pa_nil')) (by first | decide | simp)) pa_nil')) (by first | decide | simp))) (ws_one (ws_ret pd_bl)) ws_nil)
  (ws_cons (ws_if (pt_cmpD (op_neP hr.units) ok_neP (pd_call (ok_lit T kp) (hr.mono (by decide)) hpa T.g_lit T.F_lit.kp T.b_lit (takes_of rfl rfl rfl rfl) (pa_cons' (pd_family rfl T.mkF (ok_Family___init__ T pT_keeps init_sem).ok (hr.mono (by decide)) T.gF T.b_Family___init__ (pa_cons' pd_int (pa_cons' (pd_tup (pa_cons' (pd_tup (pa_cons' pd_int pa_nil') (by first | decide | simp)) (pa_cons' (pd_tup (pa_cons' pd_int (pa_cons' pd_int pa_nil')) (by first | decide | simp)) pa_nil')) (by first | decide | simp)) pa_nil'))) (pa_cons' (pd_tup (pa_cons' pd_int pa_nil') (by first | decide | simp)) pa_nil'))) (pd_tup (pa_cons' pd_str (pa_cons' (pd_tup (pa_cons' pd_int (pa_cons' pd_int pa_nil')) (by first | decide | simp)) pa_nil')) (by first | decide | simp))) (ws_one (ws_ret pd_bl)) ws_nil)
  (ws_cons (ws_set sc_law.nd (pd_call (ok__law_some T kp) (hr.mono (by decide)) hpa T.g__law_some T.F__law_some.kp T.b__law_some (takes_of rfl rfl rfl rfl) (pa_cons' (pd_var 1) (pa_cons' (pd_lst (pa_cons' pd_non (pa_cons' (pd_tup (pa_cons' pd_int pa_nil') (by first | decide | simp)) (pa_cons' (pd_tup (pa_cons' (pd_neg pd_int) pa_nil') (by first | decide | simp)) (pa_cons' (pd_tup (pa_cons' pd_bl pa_nil') (by first | decide | simp)) (pa_cons' (pd_lst (pa_cons' pd_int pa_nil') (by first | decide | simp)) (pa_cons' pd_int (pa_cons' pd_str (pa_cons' (pd_tup (pa_cons' pd_non pa_nil') (by first | decide | simp)) (pa_cons' pd_newT (pa_cons' (pd_call (ok__law_deep T kp) (hr.mono (by decide)) hpa T.g__law_deep T.F__law_deep.kp T.b__law_deep (takes_of rfl rfl rfl rfl) (pa_cons' (pd_var 1) pa_nil')) pa_nil')))))))))) (by first | decide | simp)) pa_nil'))))
  (ws_cons (ws_set sc_law.nd (pd_call (ok__law_some T kp) (hr.mono (by decide)) hpa T.g__law_some T.F__law_some.kp T.b__law_some (takes_of rfl rfl rfl rfl) (pa_cons' (pd_var 1) (pa_cons' (pd_lst (pa_cons' pd_non (pa_cons' (pd_tup (pa_cons' pd_int pa_nil') (by first | decide | simp)) (pa_cons' (pd_tup (pa_cons' pd_int (pa_cons' pd_int pa_nil')) (by first | decide | simp)) (pa_cons' (pd_tup (pa_cons' pd_int (pa_cons' pd_int pa_nil')) (by first | decide | simp)) (pa_cons' (pd_tup (pa_cons' pd_bl pa_nil') (by first | decide | simp)) (pa_cons' (pd_lst (pa_cons' pd_int pa_nil') (by first | decide | simp)) (pa_cons' pd_int (pa_cons' pd_str (pa_cons' pd_newT (pa_cons' (pd_call (ok__law_deep T kp) (hr.mono (by decide)) hpa T.g__law_deep T.F__law_deep.kp T.b__law_deep (takes_of rfl rfl rfl rfl) (pa_cons' (pd_var 1) pa_nil')) pa_nil')))))))))) (by first | decide | simp)) pa_nil'))))
  (ws_cons (ws_set sc_law.nd (pd_family rfl T.mkF (ok_Family___init__ T pT_keeps init_sem).ok (hr.mono (by decide)) T.gF T.b_Family___init__ (pa_cons' pd_int (pa_cons' (pd_tup (pa_cons' (pd_tup (pa_cons' pd_int pa_nil') (by first | decide | simp)) (pa_cons' (pd_tup (pa_cons' pd_int (pa_cons' pd_int pa_nil')) (by first | decide | simp)) pa_nil')) (by first | decide | simp)) pa_nil'))))
  (ws_cons (ws_set sc_law.nd (pd_lst (pa_cons' (pd_lamF (k := 6) rfl rfl T.g__law_word T.F__law_word T.b__law_word sc__law_word (fun cdv => gives_w (jo := joOk (oF K)) (b := b__law_word) (by decide) (fun f c' s H G act tl hr gc ha hc => ga__law_word T hr gc ha hc)) T.tb_law hcv tab_law (hr.mono (by decide)) (LamX.lamS_by (by show LamX.lamSB (defScope s_law) _ = true; decide +kernel))
      (fun A outer s H E f c' hr he => by obtain ⟨e1, rfl⟩ := he; have hpa := (fun {k' : Nat} {A' : Around} {e' : Env} (_ : Room k' (A'.deeper e')) (h : p A') => kp _ e' h) hr (kp _ e1 hpa); exact (pd_call (ok_pressed T kp) (hr.mono (by decide)) hpa T.g_pressed T.F_pressed.kp T.b_pressed (takes_of rfl rfl rfl rfl) (pa_cons' (pd_var 20) (pa_cons' (pd_var 19) (pa_cons' (pd_var 18) pa_nil')))))) (pa_cons' (pd_lamF (k := 6) rfl rfl T.g__law_word T.F__law_word T.b__law_word sc__law_word (fun cdv => gives_w (jo := joOk (oF K)) (b := b__law_word) (by decide) (fun f c' s H G act tl hr gc ha hc => ga__law_word T hr gc ha hc)) T.tb_law hcv tab_law (hr.mono (by decide)) (LamX.lamS_by (by show LamX.lamSB (defScope s_law) _ = true; decide +kernel))
      (fun A outer s H E f c' hr he => by obtain ⟨e1, rfl⟩ := he; have hpa := (fun {k' : Nat} {A' : Around} {e' : Env} (_ : Room k' (A'.deeper e')) (h : p A') => kp _ e' h) hr (kp _ e1 hpa); exact (pd_call (ok_pressed T kp) (hr.mono (by decide)) hpa T.g_pressed T.F_pressed.kp T.b_pressed (takes_of rfl rfl rfl rfl) (pa_cons' (pd_var 20) (pa_cons' (pd_tup (pa_cons' pd_int (pa_cons' pd_int pa_nil')) (by first | decide | simp)) (pa_cons' (pd_var 18) pa_nil')))))) (pa_cons' (pd_lamF (k := 6) rfl rfl T.g__law_word T.F__law_word T.b__law_word sc__law_word (fun cdv => gives_w (jo := joOk (oF K)) (b := b__law_word) (by decide) (fun f c' s H G act tl hr gc ha hc => ga__law_word T hr gc ha hc)) T.tb_law hcv tab_law (hr.mono (by decide)) (LamX.lamS_by (by show LamX.lamSB (defScope s_law) _ = true; decide +kernel))
      (fun A outer s H E f c' hr he => by obtain ⟨e1, rfl⟩ := he; have hpa := (fun {k' : Nat} {A' : Around} {e' : Env} (_ : Room k' (A'.deeper e')) (h : p A') => kp _ e' h) hr (kp _ e1 hpa); exact (pd_call (ok_lit T kp) (hr.mono (by decide)) hpa T.g_lit T.F_lit.kp T.b_lit (takes_of rfl rfl rfl rfl) (pa_cons' (pd_var 20) (pa_cons' (pd_var 18) pa_nil'))))) pa_nil'))) (by first | decide | simp)))
  (ws_cons (ws_set sc_law.nd (pd_bin op_addD ok_addD (pd_var 2) (pd_lst (pa_cons' (pd_lamF (k := 9) rfl rfl T.g__law_word T.F__law_word T.b__law_word sc__law_word (fun cdv => gives_w (jo := joOk (oF K)) (b := b__law_word) (by decide) (fun f c' s H G act tl hr gc ha hc => ga__law_word T hr gc ha hc)) T.tb_law hcv tab_law (hr.mono (by decide)) (LamX.lamS_by (by show LamX.lamSB (defScope s_law) _ = true; decide +kernel))
      (fun A outer s H E f c' hr he => by obtain ⟨e1, rfl⟩ := he; have hpa := (fun {k' : Nat} {A' : Around} {e' : Env} (_ : Room k' (A'.deeper e')) (h : p A') => kp _ e' h) hr (kp _ e1 hpa); exact (pd_call (ok_lit T kp) (hr.mono (by decide)) hpa T.g_lit T.F_lit.kp T.b_lit (takes_of rfl rfl rfl rfl) (pa_cons' (pd_call (ok_all_of T kp) (hr.mono (by decide)) hpa T.g_all_of T.F_all_of.kp T.b_all_of (takes_of rfl rfl rfl rfl) (pa_cons' pd_int pa_nil')) (pa_cons' (pd_var 18) pa_nil'))))) (pa_cons' (pd_lamF (k := 9) rfl rfl T.g__law_word T.F__law_word T.b__law_word sc__law_word (fun cdv => gives_w (jo := joOk (oF K)) (b := b__law_word) (by decide) (fun f c' s H G act tl hr gc ha hc => ga__law_word T hr gc ha hc)) T.tb_law hcv tab_law (hr.mono (by decide)) (LamX.lamS_by (by show LamX.lamSB (defScope s_law) _ = true; decide +kernel))
      (fun A outer s H E f c' hr he => by obtain ⟨e1, rfl⟩ := he; have hpa := (fun {k' : Nat} {A' : Around} {e' : Env} (_ : Room k' (A'.deeper e')) (h : p A') => kp _ e' h) hr (kp _ e1 hpa); exact (pd_call (ok_lit T kp) (hr.mono (by decide)) hpa T.g_lit T.F_lit.kp T.b_lit (takes_of rfl rfl rfl rfl) (pa_cons' (pd_call (ok_all_of T kp) (hr.mono (by decide)) hpa T.g_all_of T.F_all_of.kp T.b_all_of (takes_of rfl rfl rfl rfl) (pa_cons' pd_int pa_nil')) (pa_cons' (pd_tup (pa_cons' pd_int pa_nil') (by first | decide | simp)) pa_nil'))))) (pa_cons' (pd_lamF (k := 6) rfl rfl T.g__law_word T.F__law_word T.b__law_word sc__law_word (fun cdv => gives_w (jo := joOk (oF K)) (b := b__law_word) (by decide) (fun f c' s H G act tl hr gc ha hc => ga__law_word T hr gc ha hc)) T.tb_law hcv tab_law (hr.mono (by decide)) (LamX.lamS_by (by show LamX.lamSB (defScope s_law) _ = true; decide +kernel))
      (fun A outer s H E f c' hr he => by obtain ⟨e1, rfl⟩ := he; have hpa := (fun {k' : Nat} {A' : Around} {e' : Env} (_ : Room k' (A'.deeper e')) (h : p A') => kp _ e' h) hr (kp _ e1 hpa); exact (pd_call (ok_is_lit T kp) (hr.mono (by decide)) hpa T.g_is_lit T.F_is_lit.kp T.b_is_lit (takes_of rfl rfl rfl rfl) (pa_cons' (pd_var 20) (pa_cons' (pd_var 18) (pa_cons' pd_non pa_nil')))))) pa_nil'))) (by first | decide | simp))))
  (ws_cons (ws_if (pt_cmpD (op_neP hr.units) ok_neP (pd_var 2) (pd_lst (pa_cons' pd_str (pa_cons' pd_str (pa_cons' pd_str (pa_cons' pd_str (pa_cons' (pd_tup (pa_cons' pd_str (pa_cons' pd_int pa_nil')) (by first | decide | simp)) (pa_cons' pd_str pa_nil')))))) (by first | decide | simp))) (ws_one (ws_ret pd_bl)) ws_nil)
  (ws_cons (ws_for (sl := [3]) (passes_of rfl) rfl (pi_rng1 rfl T.n_range (pa_cons' pd_int pa_nil')) (pg_nameD sc_law.nd)
  (ws_cons (ws_set sc_law.nd (pd_bin op_addD ok_addD pd_int (pd_call (ok__law_draw T kp) (hr.mono (by decide)) hpa T.g__law_draw T.F__law_draw.kp T.b__law_draw (takes_of rfl rfl rfl rfl) (pa_cons' (pd_var 1) (pa_cons' pd_int pa_nil')))))
  (ws_cons (ws_set sc_law.nd (pd_slice (pd_call (ok__law_family T kp) (hr.mono (by decide)) hpa T.g__law_family T.F__law_family.kp T.b__law_family (takes_of rfl rfl rfl rfl) (pa_cons' (pd_var 1) (pa_cons' (pd_var 4) pa_nil'))) po_no (po_yes pd_int)))
  (ws_cons (ws_set sc_law.nd (pd_family rfl T.mkF (ok_Family___init__ T pT_keeps init_sem).ok (hr.mono (by decide)) T.gF T.b_Family___init__ (pa_cons' (pd_var 4) (pa_cons' (pd_var 5) pa_nil'))))
  (ws_cons (ws_set sc_law.nd (pd_callTy call_tuple_of ok_tuple rfl T.n_tuple bt_tuple (pa_cons' (pd_lc (own := [(".0", 21), ("i", 22)]) (sl := [22]) rfl sc_law.nd (pi_rng1 rfl T.n_range (pa_cons' (pd_var 4) pa_nil')) (blkOk_by (N := N_law) (sc := (defScope s_law)) (by decide +kernel)) (fun _ _ _ _ _ => (pg_nameD sc_law.nd)) (fun _ _ _ _ _ => (pts_oneD (pt_cmpD (op_eqP hr.units) ok_eqP (pd_call (ok__law_draw T kp) (hr.mono (by decide)) hpa T.g__law_draw T.F__law_draw.kp T.b__law_draw takes0 (pa_cons' (pd_var 1) (pa_cons' pd_int pa_nil'))) pd_int))) (fun _ _ _ _ _ => (pd_var 22))) pa_nil')))
  (ws_cons (ws_set sc_law.nd (pd_if (pt_cmpD (op_gtD hr.units) (ok_num ok_ord) (pd_callB cr_len ok_len rfl T.n_len bt_len (pa_cons' (pd_var 5) pa_nil')) pd_int) (pd_callTy call_tuple_of ok_tuple rfl T.n_tuple bt_tuple (pa_cons' (pd_lc (own := [(".0", 21), ("at", 23)]) (sl := [23]) rfl sc_law.nd (pi_rng1 rfl T.n_range (pa_cons' (pd_call (ok__law_draw T kp) (hr.mono (by decide)) hpa T.g__law_draw T.F__law_draw.kp T.b__law_draw (takes_of rfl rfl rfl rfl) (pa_cons' (pd_var 1) (pa_cons' pd_int pa_nil'))) pa_nil')) (blkOk_by (N := N_law) (sc := (defScope s_law)) (by decide +kernel)) (fun _ _ _ _ _ => (pg_nameD sc_law.nd)) (fun _ _ _ _ _ => pts_nilD) (fun _ _ _ _ _ => (pd_call (ok__law_draw T kp) (hr.mono (by decide)) hpa T.g__law_draw T.F__law_draw.kp T.b__law_draw takes0 (pa_cons' (pd_var 1) (pa_cons' (pd_callB cr_len ok_len rfl T.n_len bt_len (pa_cons' (pd_var 5) pa_nil')) pa_nil'))))) pa_nil')) (pd_tup pa_nil' (by first | decide | simp))))
  (ws_cons (ws_set sc_law.nd (pd_call (ok__law_lit T kp) (hr.mono (by decide)) hpa T.g__law_lit T.F__law_lit.kp T.b__law_lit (takes_of rfl rfl rfl rfl) (pa_cons' (pd_var 5) (pa_cons' (pd_var 8) pa_nil'))))
  (ws_cons (ws_set sc_law.nd (pd_callTy call_tuple_of ok_tuple rfl T.n_tuple bt_tuple (pa_cons' (pd_lc (own := [(".0", 21), ("i", 22)]) (sl := [22]) rfl sc_law.nd (pi_rng1 rfl T.n_range (pa_cons' (pd_var 4) pa_nil')) (blkOk_by (N := N_law) (sc := (defScope s_law)) (by decide +kernel)) (fun _ _ _ _ _ => (pg_nameD sc_law.nd)) (fun _ _ _ _ _ => (pts_oneD (pt_cmpD (op_neP hr.units) ok_neP (pd_cmp (op_inB hr.units) ok_inB (pd_var 22) (pd_var 7)) (pd_cmp (op_inB hr.units) ok_inB (pd_var 22) (pd_var 9))))) (fun _ _ _ _ _ => (pd_var 22))) pa_nil')))
  (ws_cons (ws_if (pt_cmpD (op_neP hr.units) ok_neP (pd_callB (cr_repr hr.units (hpg _ hpa)) ok_rOf rfl T.n_repr bt_repr (pa_cons' (pd_call (ok_pressed T kp) (hr.mono (by decide)) hpa T.g_pressed T.F_pressed.kp T.b_pressed (takes_of rfl rfl rfl rfl) (pa_cons' (pd_var 6) (pa_cons' (pd_var 8) (pa_cons' (pd_var 7) pa_nil')))) pa_nil')) (pd_callB (cr_repr hr.units (hpg _ hpa)) ok_rOf rfl T.n_repr bt_repr (pa_cons' (pd_var 10) pa_nil'))) (ws_one (ws_ret pd_bl)) ws_nil)
  (ws_one (ws_for (sl := [11]) (passes_of rfl) rfl (pi_seq (pd_tup (pa_cons' (pd_var 7) (pa_cons' (pd_var 9) pa_nil')) (by first | decide | simp))) (pg_nameD sc_law.nd)
  (ws_cons (ws_set sc_law.nd (pd_callB (cr_sortD hr.units) ok_rOf rfl T.n_sorted bt_sorted (pa_cons' (pd_lc (own := [(".0", 21), ("some", 24)]) (sl := [24]) rfl sc_law.nd (pi_seq (pd_call (ok__law_all T kp) (hr.mono (by decide)) hpa T.g__law_all T.F__law_all.kp T.b__law_all (takes_of rfl rfl rfl rfl) (pa_cons' (pd_callB cr_len ok_len rfl T.n_len bt_len (pa_cons' (pd_var 5) pa_nil')) pa_nil'))) (blkOk_by (N := N_law) (sc := (defScope s_law)) (by decide +kernel)) (fun _ _ _ _ _ => (pg_nameD sc_law.nd)) (fun _ _ _ _ _ => (pts_oneD (pt_cmpD (op_eqP hr.units) ok_eqP (pd_call (ok__law_lit T kp) (hr.mono (by decide)) hpa T.g__law_lit T.F__law_lit.kp T.b__law_lit takes0 (pa_cons' (pd_var 5) (pa_cons' (pd_var 24) pa_nil'))) (pd_var 11)))) (fun _ _ _ _ _ => (pd_tup (pa_cons' (pd_callB cr_len ok_len rfl T.n_len bt_len (pa_cons' (pd_var 24) pa_nil')) (pa_cons' (pd_var 24) pa_nil')) (by first | decide | simp)))) pa_nil')))
  (ws_cons (ws_par (ps_par rfl sc_law.nd rfl rfl (by decide) rfl rfl (pa_cons (pd_val (pd_call (ok__law_checks T kp) (hr.mono (by decide)) hpa T.g__law_checks T.F__law_checks.kp T.b__law_checks (takes_of rfl rfl rfl rfl) (pa_cons' (pd_var 4) (pa_cons' (pd_var 5) (pa_cons' (pd_var 11) pa_nil'))))) (pa_cons (pd_val (pd_call (ok_lit T kp) (hr.mono (by decide)) hpa T.g_lit T.F_lit.kp T.b_lit (takes_of rfl rfl rfl rfl) (pa_cons' (pd_var 6) (pa_cons' (pd_var 11) pa_nil')))) pa_nil)) (by rfl)))
  (ws_cons (ws_if (pt_cmpD (op_eqP hr.units) ok_eqP (pd_cmp (op_gtD hr.units) (ok_num ok_ord) (pd_callB cr_len ok_len rfl T.n_len bt_len (pa_cons' (pd_var 12) pa_nil')) pd_int) (pd_cmp (op_gtD hr.units) (ok_num ok_ord) (pd_callB cr_len ok_len rfl T.n_len bt_len (pa_cons' (pd_var 13) pa_nil')) pd_int)) (ws_one (ws_ret pd_bl)) ws_nil)
  (ws_cons (ws_set sc_law.nd (pd_if (pt_cmpD (op_gtD hr.units) (ok_num ok_ord) (pd_callB cr_len ok_len rfl T.n_len bt_len (pa_cons' (pd_var 12) pa_nil')) pd_int) (pd_tup (pa_cons' pd_str (pa_cons' (pd_ix (pd_ix (pd_var 12) pd_int) pd_int) pa_nil')) (by first | decide | simp)) (pd_tup (pa_cons' pd_str (pa_cons' (pd_ix (pd_var 13) pd_int) pa_nil')) (by first | decide | simp))))
  (ws_cons (ws_if (pt_cmpD (op_neP hr.units) ok_neP (pd_callB (cr_repr hr.units (hpg _ hpa)) ok_rOf rfl T.n_repr bt_repr (pa_cons' (pd_var 14) pa_nil')) (pd_callB (cr_repr hr.units (hpg _ hpa)) ok_rOf rfl T.n_repr bt_repr (pa_cons' (pd_var 15) pa_nil'))) (ws_one (ws_ret pd_bl)) ws_nil)
  (ws_cons (ws_if (pt_cmpD op_notBl ok_notBl (pd_call (ok_is_lit T kp) (hr.mono (by decide)) hpa T.g_is_lit T.F_is_lit.kp T.b_is_lit (takes_of rfl rfl rfl rfl) (pa_cons' (pd_var 6) (pa_cons' (pd_var 11) (pa_cons' (pd_var 14) pa_nil')))) pd_bl) (ws_one (ws_ret pd_bl)) ws_nil)
  (ws_one (ws_for (sl := [16]) (passes_of rfl) rfl (pi_rng1 rfl T.n_range (pa_cons' pd_int pa_nil')) (pg_nameD sc_law.nd)
  (ws_cons (ws_set sc_law.nd (pd_call (ok__law_bent T kp) (hr.mono (by decide)) hpa T.g__law_bent T.F__law_bent.kp T.b__law_bent (takes_of rfl rfl rfl rfl) (pa_cons' (pd_var 1) (pa_cons' (pd_var 4) (pa_cons' (pd_var 5) (pa_cons' (pd_var 14) pa_nil'))))))
  (ws_one (ws_if (pt_cmpD (op_neP hr.units) ok_neP (pd_callB (cr_repr hr.units (hpg _ hpa)) ok_rOf rfl T.n_repr bt_repr (pa_cons' (pd_call (ok_is_lit T kp) (hr.mono (by decide)) hpa T.g_is_lit T.F_is_lit.kp T.b_is_lit (takes_of rfl rfl rfl rfl) (pa_cons' (pd_var 6) (pa_cons' (pd_var 11) (pa_cons' (pd_var 17) pa_nil')))) pa_nil')) (pd_callB (cr_repr hr.units (hpg _ hpa)) ok_rOf rfl T.n_repr bt_repr (pa_cons' (pd_call (ok__law_is_told T kp) (hr.mono (by decide)) hpa T.g__law_is_told T.F__law_is_told.kp T.b__law_is_told (takes_of rfl rfl rfl rfl) (pa_cons' (pd_var 4) (pa_cons' (pd_var 5) (pa_cons' (pd_var 11) (pa_cons' (pd_var 17) pa_nil'))))) pa_nil'))) (ws_one (ws_ret pd_bl)) ws_nil))))))))))))))))))))))
  (ws_one (ws_ret pd_bl)))))))))))) sem
end
end K77
end
set_option Elab.async false
set_option linter.all false
set_option maxRecDepth 100000
set_option maxHeartbeats 0
namespace K77
open PySem PySem.Spec L2 PL
open PyProof.Rows hiding St
theorem keepG : Keeps pG := pG_keeps
theorem law_facts {K : PySem.W.Frag} {h : Heap} {mg : Str → Option Value} {f : Addr} (X : K.In h) (G : h.Ns mainGlobals mg) (hfa : mg ("law" : Str) = some (.ref f)) (c : SaysX fa fn xs xa K) {P : Program} (hPf : ((P.main.file : Str) == "/claim/cut.py") = true) (hPt : (P.main.scope.names.lookup ("super" : Str)).isSome = false) :
    ∃ T : Txt P K mg, f = He.ga K "law" := by
  obtain ⟨T, _⟩ := txt_of X G c hPf hPt
  refine ⟨T, ?_⟩
  have e := hfa.symm.trans T.g_law
  cases e; rfl
end K77
open PySem PySem.W PySem.Calls PyProof.Rows
theorem PySem.Challenge.cw_pointlots_k77_whole_lamps_lit_by_switche_holds : PySem.Challenge.rw_pointlots_k77_whole_lamps_lit_by_switche.Holds := by
  w_on; o_law
  refine HandSHeadRun.head_any (r := OpenLaw.row PySem.Challenge.rw_pointlots_k77_whole_lamps_lit_by_switche) (q := view (OpenLaw.row PySem.Challenge.rw_pointlots_k77_whole_lamps_lit_by_switche).prog [52]) (H := K77.hk) (ob := K77.ob) (M := 4000) (loose := K77.loose) (d := HandSHeadRun.topDef (OpenLaw.row PySem.Challenge.rw_pointlots_k77_whole_lamps_lit_by_switche).prog 52) (kwd := []) K77.ob_eq
    (by kernel_rfl) (fun s => by kernel_rfl) K77.run (by kernel_rfl) (by kernel_rfl) (by kernel_rfl) (by rfl) (by first | assumption | decide +kernel) (by decide +kernel) ⟨rfl, rfl, rfl, rfl, rfl, by decide +kernel⟩ ?hw ?hc
  case hw => w_witness2
  case hc =>
    refine PL.walk_lawT (l := PySem.Challenge.rw_pointlots_k77_whole_lamps_lit_by_switche) (n := 63) (k := 14) rfl (by decide) (by kernel_rfl) ⟨rfl, by decide, by decide⟩ ?F
    intro w mg fa h Y G hmg0
    obtain ⟨K, KX, c, ht⟩ := Y
    have hmg : mg ("law" : PySem.Str) = some (.ref fa) := by
      have e : (HandSHeadRun.topDef (OpenLaw.row PySem.Challenge.rw_pointlots_k77_whole_lamps_lit_by_switche).prog 52).name = ("law" : PySem.Str) := by kernel_rfl
      rw [← e]
      exact hmg0
    obtain ⟨T, rfl⟩ := K77.law_facts KX G hmg c (P := (PySem.Challenge.rw_pointlots_k77_whole_lamps_lit_by_switche).prog) (by kernel_rfl) (by kernel_rfl)
    exact ⟨K, T.d_law, K77.oF K, of_decide_eq_true (c.fac 2 (f := PL.nodupB K77.ts) rfl), PL.tabs_all KX G (c.fac 1 (f := PL.tabsB K77.ts) rfl) ht, KX, fun s u => T.F_law.bindsA (ps := ["script"]) (fun _ _ _ _ _ _ us hl => match us, hl with | [_], _ => rfl) s [u] rfl, fun base _ _ => K77.ok_law T K77.keepG (fun _ h => h) K77.law_sem⟩
