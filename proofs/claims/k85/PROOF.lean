import PyProof.Rows.All
import Wide.All
import OpenK.AllK
import Wide.FinOn
import HandS.ForMost
import HandS.Exc
import HandS.TryOnly
import HandS.ExcOwn
import HandS.TupAny
import HandS.Style
import HandS.SortInts
import HandS.IsInst
import HandS.Zip
import HandS.More
import HandS.Deep
import KE.DataEq
import KE.DataFind
import KE.DataMinMax
import KE.SortData
import HandS.WordsExc
import HandS.CallSlots
import HandS.Flow
import KE.GoesEnum
import HandS.Small
import HandS.Words
import HandS.Defaults
import HandS.Head0
import HandS.Head1
import HandS.Head2
import HandS.HeadEnd
import HandS.HeadHook1
import HandS.HeadHook2
import PySem.Challenge.RW_columndays_k85_first_plans_by_trying
set_option Elab.async false
set_option linter.all false
set_option maxRecDepth 100000
set_option maxHeartbeats 4000000
/-! The data layer, part 1: data, stores, what stands for what. -/
namespace DL
open PySem PySem.Spec PyProof.Rows L2

inductive Dat where
  | non | bl (b : Bool) | int (i : Int) | str (x : Str) | ref (a : Addr) | ty (n : String) | scr (l : List Int) | tup (l : List Dat)
  deriving Inhabited

/-- a list that nobody writes: the script -/
def SqF (K : PySem.W.Frag) (H : Hp) (a : Addr) (xs : List V) : Prop :=
  (∃ o, H a = some (.frz o (.lst xs))) ∨
    ∃ (o : Obj) (its : Array Value) (n : Nat), K.lookup a = some o ∧ o.cls = .type "list" ∧ o.dict = none ∧ o.data = .seq its n ∧ its.size ≤ sizeLine ∧ Vals xs its.toList
theorem SqF.sq {K : PySem.W.Frag} {H : Hp} {a : Addr} {xs : List V} (h : SqF K H a xs) : SqL K H a xs := by
  rcases h with ⟨o, h⟩ | h
  · exact .inl (.inr ⟨o, h⟩)
  · exact .inr h
/-- a tuple whose object has no dict of its own -/
def SqN (K : PySem.W.Frag) (H : Hp) (a : Addr) (xs : List V) : Prop :=
  (∃ o, H a = some (.frz o (.tup xs)) ∧ o.dict = none) ∨
    ∃ (o : Obj) (its : Array Value) (n : Nat), K.lookup a = some o ∧ o.cls = .type "tuple" ∧ o.dict = none ∧ o.data = .seq its n ∧ its.size ≤ sizeLine ∧ Vals xs its.toList
theorem SqN.sq {K : PySem.W.Frag} {H : Hp} {a : Addr} {xs : List V} (h : SqN K H a xs) : SqT K H a xs := by
  rcases h with ⟨o, h, _⟩ | ⟨o, its, n, h1, h2, _, h3⟩
  · exact .inl (.inr ⟨o, h⟩)
  · exact .inr ⟨o, its, n, h1, h2, h3⟩
mutual
def Rp (K : PySem.W.Frag) (H : Hp) : Dat → V → Prop
  | .non, v => v = .non
  | .bl b, v => v = .bl b
  | .int i, v => v = .int i
  | .str x, v => v = .str x
  | .ref a, v => v = .ref a
  | .ty n, v => v = .ty n
  | .scr l, v => ∃ p, v = .ref p ∧ SqF K H p (l.map V.int)
  | .tup l, v => ∃ p vs, v = .ref p ∧ SqN K H p vs ∧ RpL K H l vs
def RpL (K : PySem.W.Frag) (H : Hp) : List Dat → List V → Prop
  | [], vs => vs = []
  | d :: l, vs => ∃ v r, vs = v :: r ∧ Rp K H d v ∧ RpL K H l r
end

inductive MO where
  | lst (l : List Dat) | dct (kvs : List (Key × Dat)) | fdct (kvs : List (Key × Dat)) | ins (C : Addr) (fs : List (Str × Dat))
abbrev Sto := Addr → Option MO
def supd (S : Sto) (a : Addr) (o : MO) : Sto := fun b => if b = a then some o else S b
theorem supd_same {S : Sto} {a : Addr} {o : MO} : supd S a o a = some o := by unfold supd; rw [if_pos rfl]
theorem supd_ne {S : Sto} {a b : Addr} {o : MO} (h : b ≠ a) : supd S a o b = S b := by unfold supd; rw [if_neg h]

/-- pairs, key by key -/
def KR {κ : Type} (K : PySem.W.Frag) (H : Hp) (ds : List (κ × Dat)) (vs : List (κ × V)) : Prop := vs.map (·.1) = ds.map (·.1) ∧ RpL K H (ds.map (·.2)) (vs.map (·.2))
def RpO (K : PySem.W.Frag) (H : Hp) (a : Addr) : MO → Prop
  | .lst l => ∃ vs, H a = some (.lst vs) ∧ RpL K H l vs
  | .dct kvs => ∃ vs, H a = some (.dK vs) ∧ KR K H kvs vs
  | .fdct kvs => ∃ o vs, H a = some (.frz o (.dK vs)) ∧ KR K H kvs vs
  | .ins C fs => ∃ dx vs, H a = some (.ins C dx vs) ∧ KR K H fs vs
def Rel (K : PySem.W.Frag) (S : Sto) (H : Hp) : Prop := ∀ a o, S a = some o → RpO K H a o
/-- what S does not know stays; nothing that is tracked is lost -/
structure Fr (S : Sto) (H : Hp) (S' : Sto) (H' : Hp) : Prop where
  keep : ∀ a o, H a = some o → S a = none → H' a = some o ∧ S' a = none
  dom : ∀ a, H' a = none → H a = none
  frz : ∀ a o u, H a = some (.frz o u) → H' a = some (.frz o u)

inductive XD where
  | d (d : Dat) | l (ds : List Dat)
/-- H0: where the evaluation began -/
def RpX (K : PySem.W.Frag) (H0 H : Hp) (S : Sto) : XD → V → Prop
  | .d d, v => Rp K H d v
  | .l ds, v => ∃ p vs, v = .ref p ∧ H p = some (.lst vs) ∧ RpL K H ds vs ∧ S p = none ∧ H0 p = none
/-- slots -/
abbrev SD := List (Option Dat)
def RpS (K : PySem.W.Frag) (H : Hp) (δ : SD) (σ : L2.St) : Prop := δ.length = σ.length ∧ ∀ (i : Nat) (d : Dat), δ[i]? = some (some d) → ∃ v, σ[i]? = some (some v) ∧ Rp K H d v

section
variable {K : PySem.W.Frag} {S S' S1 S2 : Sto} {H H' H1 H2 : Hp} {a p : Addr} {d : Dat} {v : V}

theorem Fr.refl : Fr S H S H := ⟨fun _ _ h s => ⟨h, s⟩, fun _ h => h, fun _ _ _ h => h⟩
theorem Fr.trans (x : Fr S H S1 H1) (y : Fr S1 H1 S2 H2) : Fr S H S2 H2 := ⟨fun a o h s => let ⟨h1, s1⟩ := x.keep a o h s; y.keep a o h1 s1, fun a h => x.dom a (y.dom a h), fun a o u h => y.frz a o u (x.frz a o u h)⟩
theorem upd_none {o : HO} (h : upd H p o a = none) : H a = none := by
  unfold upd at h
  split at h
  · cases h
  · exact h
theorem Fr.new {mo : MO} {o : HO} (h : H p = none) : Fr S H (supd S p mo) (upd H p o) := ⟨fun a u e s => by
  have n : a ≠ p := ne_of_none e h
  exact ⟨by rw [upd_ne n]; exact e, by rw [supd_ne n]; exact s⟩, fun _ h => upd_none h, fun a o u e => by rw [upd_ne (ne_of_none e h)]; exact e⟩
theorem Fr.newH {o : HO} (h : H p = none) : Fr S H S (upd H p o) := ⟨fun a u e s => ⟨by rw [upd_ne (ne_of_none e h)]; exact e, s⟩, fun _ h => upd_none h, fun a o u e => by rw [upd_ne (ne_of_none e h)]; exact e⟩
theorem Fr.mut {mo mo' : MO} {o : HO} (h : S p = some mo) (nf : ∀ o u, H p ≠ some (.frz o u)) : Fr S H (supd S p mo') (upd H p o) := ⟨fun a u e s => by
  have n : a ≠ p := by intro z; rw [z, h] at s; cases s
  exact ⟨by rw [upd_ne n]; exact e, by rw [supd_ne n]; exact s⟩, fun _ h => upd_none h, fun a o u e => by rw [upd_ne (by intro z; rw [z] at e; exact nf _ _ e)]; exact e⟩
theorem Fr.less (h : ∀ b, S b = none → S1 b = none) : Fr S H S1 H := ⟨fun a o e s => ⟨e, h a s⟩, fun _ h => h, fun _ _ _ h => h⟩
/-- a list made since H becomes known -/
theorem Fr.learn {mo : MO} (f : Fr S H S1 H1) (h : H p = none) : Fr S H (supd S1 p mo) H1 := ⟨fun a o e s => by
  obtain ⟨e1, s1⟩ := f.keep a o e s
  exact ⟨e1, by rw [supd_ne (ne_of_none e h)]; exact s1⟩, f.dom, f.frz⟩
/-- what was made since H is changed -/
theorem Fr.own {o : HO} (f : Fr S H S1 H1) (h : H p = none) : Fr S H S1 (upd H1 p o) := ⟨fun a u e s => by
  obtain ⟨e1, s1⟩ := f.keep a u e s
  exact ⟨by rw [upd_ne (ne_of_none e h)]; exact e1, s1⟩, fun a e => f.dom a (upd_none e), fun a o u e => by rw [upd_ne (ne_of_none e h)]; exact f.frz a o u e⟩

theorem RpO.notTup {o : MO} {vs : List V} (h : RpO K H a o) (e : Rd H a (.tup vs)) : False := by
  cases o with
  | lst l => obtain ⟨_, q, _⟩ := h; rcases e with e | ⟨_, e⟩ <;> (rw [q] at e; cases e)
  | dct l => obtain ⟨_, q, _⟩ := h; rcases e with e | ⟨_, e⟩ <;> (rw [q] at e; cases e)
  | fdct l => obtain ⟨_, _, q, _⟩ := h; rcases e with e | ⟨_, e⟩ <;> (rw [q] at e; cases e)
  | ins C fs => obtain ⟨_, _, q, _⟩ := h; rcases e with e | ⟨_, e⟩ <;> (rw [q] at e; cases e)
theorem RpO.notScr {o : MO} {vs : List V} {ob : Obj} (h : RpO K H a o) (e : H a = some (.frz ob (.lst vs))) : False := by
  cases o with
  | lst l => obtain ⟨_, q, _⟩ := h; rw [q] at e; cases e
  | dct l => obtain ⟨_, q, _⟩ := h; rw [q] at e; cases e
  | fdct l => obtain ⟨_, _, q, _⟩ := h; rw [q] at e; cases e
  | ins C fs => obtain ⟨_, _, q, _⟩ := h; rw [q] at e; cases e
theorem RpO.there {o : MO} (h : RpO K H a o) : H a ≠ none := by
  intro e
  cases o with
  | lst l => obtain ⟨_, q, _⟩ := h; rw [q] at e; cases e
  | dct l => obtain ⟨_, q, _⟩ := h; rw [q] at e; cases e
  | fdct l => obtain ⟨_, _, q, _⟩ := h; rw [q] at e; cases e
  | ins C fs => obtain ⟨_, _, q, _⟩ := h; rw [q] at e; cases e
theorem Rel.free (r : Rel K S H) (h : H a = none) : S a = none := by
  cases q : S a with
  | none => rfl
  | some o => exact ((r a o q).there h).elim
theorem Rel.noTup {vs : List V} (r : Rel K S H) (e : Rd H a (.tup vs)) : S a = none := by
  cases q : S a with
  | none => rfl
  | some o => exact ((r a o q).notTup e).elim
theorem Rel.noScr {vs : List V} {ob : Obj} (r : Rel K S H) (e : H a = some (.frz ob (.lst vs))) : S a = none := by
  cases q : S a with
  | none => rfl
  | some o => exact ((r a o q).notScr e).elim

/-- tuples (and the script) are kept -/
structure TK (K : PySem.W.Frag) (H H' : Hp) : Prop where
  tup : ∀ q vs, SqN K H q vs → SqN K H' q vs
  scr : ∀ q vs, SqF K H q vs → SqF K H' q vs
theorem TK.refl : TK K H H := ⟨fun _ _ h => h, fun _ _ h => h⟩
theorem TK.trans (x : TK K H H1) (y : TK K H1 H2) : TK K H H2 := ⟨fun q vs h => y.tup q vs (x.tup q vs h), fun q vs h => y.scr q vs (x.scr q vs h)⟩
theorem TK.of (k : ∀ q o, H q = some o → (∃ vs, o = .tup vs ∨ ∃ ob, o = .frz ob (.tup vs) ∨ o = .frz ob (.lst vs)) → H' q = some o) : TK K H H' :=
  ⟨fun q vs h => by
    rcases h with ⟨o, h, z⟩ | h
    · exact .inl ⟨o, k q _ h ⟨vs, .inr ⟨o, .inl rfl⟩⟩, z⟩
    · exact .inr h, fun q vs h => by
    rcases h with ⟨o, h⟩ | h
    · exact .inl ⟨o, k q _ h ⟨vs, .inr ⟨o, .inr rfl⟩⟩⟩
    · exact .inr h⟩
theorem Rel.no (r : Rel K S H) {o : HO} (e : H a = some o) (h : ∃ vs, o = .tup vs ∨ ∃ ob, o = .frz ob (.tup vs) ∨ o = .frz ob (.lst vs)) : S a = none := by
  obtain ⟨vs, h | ⟨ob, h | h⟩⟩ := h
  · subst h; exact r.noTup (.inl e)
  · subst h; exact r.noTup (.inr ⟨ob, e⟩)
  · subst h; exact r.noScr e
theorem TK.of_fr (r : Rel K S H) (f : Fr S H S' H') : TK K H H' := .of fun q o e h => (f.keep q o e (r.no e h)).1
theorem TK.new {o : HO} (h : H p = none) : TK K H (upd H p o) := .of fun q u e _ => by rw [upd_ne (ne_of_none e h)]; exact e
theorem TK.mut {o : HO} {mo : MO} (r : Rel K S H) (h : S p = some mo) : TK K H (upd H p o) := .of fun q u e z => by
  have n := r.no e z
  have ne : q ≠ p := by intro z; rw [z, h] at n; cases n
  rw [upd_ne ne]; exact e
theorem TK.lst {vs ws : List V} (e : H p = some (.lst vs)) : TK K H (upd H p (.lst ws)) := .of fun q o h z => by
  have ne : q ≠ p := by
    intro y; subst y; rw [e] at h; cases h
    obtain ⟨_, z | ⟨_, z | z⟩⟩ := z <;> cases z
  rw [upd_ne ne]; exact h
mutual
theorem Rp.keep (k : TK K H H') : ∀ (d : Dat) (v : V), Rp K H d v → Rp K H' d v
  | .non, _, h => h
  | .bl _, _, h => h
  | .int _, _, h => h
  | .str _, _, h => h
  | .ref _, _, h => h
  | .ty _, _, h => h
  | .scr l, v, h => let ⟨p, e, s⟩ := h; ⟨p, e, k.scr _ _ s⟩
  | .tup l, v, h => let ⟨p, vs, e, s, r⟩ := h; ⟨p, vs, e, k.tup _ _ s, RpL.keep k l vs r⟩
theorem RpL.keep (k : TK K H H') : ∀ (l : List Dat) (vs : List V), RpL K H l vs → RpL K H' l vs
  | [], _, h => h
  | d :: l, vs, h => let ⟨v, r, e, h1, h2⟩ := h; ⟨v, r, e, Rp.keep k d v h1, RpL.keep k l r h2⟩
end
theorem KR.keep {κ : Type} {ds : List (κ × Dat)} {vs : List (κ × V)} (k : TK K H H') (h : KR K H ds vs) : KR K H' ds vs := ⟨h.1, RpL.keep k _ _ h.2⟩
theorem SqL.keepL {vs : List V} (h : SqL K H a vs) (e : H' a = H a) : SqL K H' a vs := by
  rcases h with (h | ⟨o, h⟩) | h
  · exact .inl (.inl (e.trans h))
  · exact .inl (.inr ⟨o, e.trans h⟩)
  · exact .inr h
theorem RpO.keep {o : MO} (h : RpO K H a o) (e : H' a = H a) (k : TK K H H') : RpO K H' a o := by
  cases o with
  | lst l => obtain ⟨vs, q, r⟩ := h; exact ⟨vs, e.trans q, RpL.keep k _ _ r⟩
  | dct l => obtain ⟨vs, q, r⟩ := h; exact ⟨vs, e.trans q, r.keep k⟩
  | fdct l => obtain ⟨o, vs, q, r⟩ := h; exact ⟨o, vs, e.trans q, r.keep k⟩
  | ins C fs => obtain ⟨dx, vs, q, r⟩ := h; exact ⟨dx, vs, e.trans q, r.keep k⟩
theorem Rel.new {mo : MO} {o : HO} (r : Rel K S H) (h : H p = none) (n : RpO K (upd H p o) p mo) : Rel K (supd S p mo) (upd H p o) := fun a u e => by
  by_cases q : a = p
  · subst q; rw [supd_same] at e; cases e; exact n
  · rw [supd_ne q] at e
    exact (r a u e).keep (upd_ne q) (TK.new h)
theorem Rel.newH {o : HO} (r : Rel K S H) (h : H p = none) : Rel K S (upd H p o) := fun a u e =>
  (r a u e).keep (upd_ne (by intro z; rw [z, r.free h] at e; cases e)) (TK.new h)
theorem Rel.mut {mo mo' : MO} {o : HO} (r : Rel K S H) (h : S p = some mo) (n : RpO K (upd H p o) p mo') : Rel K (supd S p mo') (upd H p o) := fun a u e => by
  by_cases q : a = p
  · subst q; rw [supd_same] at e; cases e; exact n
  · rw [supd_ne q] at e
    exact (r a u e).keep (upd_ne q) (TK.mut r h)
theorem Rel.own {vs ws : List V} (r : Rel K S H) (e : H p = some (.lst vs)) (n : S p = none) : Rel K S (upd H p (.lst ws)) := fun a u q =>
  (r a u q).keep (upd_ne (by intro z; rw [z, n] at q; cases q)) (TK.lst e)
theorem Rel.less (r : Rel K S H) (h : ∀ b o, S1 b = some o → S b = some o) : Rel K S1 H := fun a o e => r a o (h a o e)
theorem RpX.keep {H0 : Hp} {x : XD} (r : Rel K S H) (f : Fr S H S' H') (h : RpX K H0 H S x v) : RpX K H0 H' S' x v := by
  cases x with
  | d d => exact Rp.keep (TK.of_fr r f) d v h
  | l ds =>
    obtain ⟨p, vs, e, q, rr, n, z⟩ := h
    obtain ⟨q', n'⟩ := f.keep p _ q n
    exact ⟨p, vs, e, q', RpL.keep (TK.of_fr r f) _ _ rr, n', z⟩
theorem RpX.base {H0 H1 : Hp} {x : XD} (h : RpX K H1 H S x v) (f : ∀ a, H1 a = none → H0 a = none) : RpX K H0 H S x v := by
  cases x with
  | d d => exact h
  | l ds =>
    obtain ⟨p, vs, e, q, rr, n, z⟩ := h
    exact ⟨p, vs, e, q, rr, n, f p z⟩
theorem Rel.learn {l : List Dat} {vs : List V} (r : Rel K S H) (e : H p = some (.lst vs)) (rr : RpL K H l vs) : Rel K (supd S p (.lst l)) H := fun a o q => by
  by_cases z : a = p
  · subst z; rw [supd_same] at q; cases q; exact ⟨vs, e, rr⟩
  · rw [supd_ne z] at q; exact r a o q
theorem RpS.keep {δ : SD} {σ : L2.St} (k : TK K H H') (h : RpS K H δ σ) : RpS K H' δ σ := ⟨h.1, fun i d e => let ⟨v, q, r⟩ := h.2 i d e; ⟨v, q, Rp.keep k d v r⟩⟩
theorem RpS.set {δ : SD} {σ : L2.St} (h : RpS K H δ σ) (r : Rp K H d v) (i : Nat) : RpS K H (δ.set i (some d)) (σ.set i (some v)) := by
  refine ⟨by rw [List.length_set, List.length_set]; exact h.1, fun j e q => ?_⟩
  by_cases z : i = j
  · subst z
    by_cases hl : i < δ.length
    · rw [List.getElem?_set_self hl] at q
      cases q
      exact ⟨v, List.getElem?_set_self (by rw [← h.1]; exact hl), r⟩
    · rw [List.getElem?_eq_none (by simpa using hl)] at q; cases q
  · rw [List.getElem?_set_ne z] at q
    obtain ⟨u, e1, e2⟩ := h.2 j e q
    exact ⟨u, by rw [List.getElem?_set_ne z]; exact e1, e2⟩
/-- the slots of a block's own names, forgotten -/
def wipeD (δ : SD) : List Nat → SD
  | [] => δ
  | v :: vs => (wipeD δ vs).set v none
theorem RpS.setNone {δ : SD} {σ : L2.St} (h : RpS K H δ σ) (i : Nat) : RpS K H (δ.set i none) (σ.set i none) := by
  refine ⟨by rw [List.length_set, List.length_set]; exact h.1, fun j e q => ?_⟩
  by_cases z : i = j
  · subst z
    by_cases hl : i < δ.length
    · rw [List.getElem?_set_self hl] at q; cases q
    · rw [List.getElem?_eq_none (by simpa using hl)] at q; cases q
  · rw [List.getElem?_set_ne z] at q
    obtain ⟨u, e1, e2⟩ := h.2 j e q
    exact ⟨u, by rw [List.getElem?_set_ne z]; exact e1, e2⟩
theorem RpS.wipe {δ : SD} {σ : L2.St} (h : RpS K H δ σ) : ∀ vs : List Nat, RpS K H (wipeD δ vs) (wipe σ vs)
  | [] => h
  | v :: vs => (RpS.wipe h vs).setNone v

theorem RpL.length : ∀ {l : List Dat} {vs : List V}, RpL K H l vs → vs.length = l.length
  | [], _, h => by have e : _ = [] := h; rw [e] <;> rfl
  | d :: l, _, h => by obtain ⟨v, r, e, _, h2⟩ := h; rw [e, List.length_cons, List.length_cons, RpL.length h2]
theorem RpL.nil : RpL K H [] [] := rfl
theorem RpL.cons {l : List Dat} {vs : List V} (h : Rp K H d v) (t : RpL K H l vs) : RpL K H (d :: l) (v :: vs) := ⟨v, vs, rfl, h, t⟩
theorem RpL.one (h : Rp K H d v) : RpL K H [d] [v] := .cons h .nil
theorem RpL.get : ∀ {l : List Dat} {vs : List V} {i : Nat} {d : Dat}, RpL K H l vs → l[i]? = some d → ∃ v, vs[i]? = some v ∧ Rp K H d v
  | [], _, _, _, _, e => by simp at e
  | d :: l, _, 0, _, h, e => by
    obtain ⟨v, r, rfl, h1, _⟩ := h
    simp at e; subst e
    exact ⟨v, rfl, h1⟩
  | d :: l, _, i + 1, x, h, e => by
    obtain ⟨v, r, rfl, _, h2⟩ := h
    obtain ⟨u, e1, e2⟩ := RpL.get (i := i) (d := x) h2 (by simpa using e)
    exact ⟨u, by simpa using e1, e2⟩
theorem RpL.getV : ∀ {l : List Dat} {vs : List V} {i : Nat} {v : V}, RpL K H l vs → vs[i]? = some v → ∃ d, l[i]? = some d ∧ Rp K H d v
  | [], _, _, _, h, e => by have z : _ = [] := h; rw [z] at e; simp at e
  | d :: l, _, 0, _, h, e => by
    obtain ⟨v, r, rfl, h1, _⟩ := h
    simp at e; subst e
    exact ⟨d, rfl, h1⟩
  | d :: l, _, i + 1, x, h, e => by
    obtain ⟨v, r, rfl, _, h2⟩ := h
    obtain ⟨u, e1, e2⟩ := RpL.getV (i := i) (v := x) h2 (by simpa using e)
    exact ⟨u, by simpa using e1, e2⟩
theorem RpL.append : ∀ {l m : List Dat} {vs ws : List V}, RpL K H l vs → RpL K H m ws → RpL K H (l ++ m) (vs ++ ws)
  | [], _, _, _, h, t => by have z : _ = [] := h; rw [z]; exact t
  | d :: l, m, _, ws, h, t => by
    obtain ⟨v, r, rfl, h1, h2⟩ := h
    exact ⟨v, r ++ ws, rfl, h1, RpL.append h2 t⟩
theorem RpL.set : ∀ {l : List Dat} {vs : List V} (i : Nat), RpL K H l vs → Rp K H d v → RpL K H (l.set i d) (vs.set i v)
  | [], _, i, h, _ => by have z : _ = [] := h; rw [z]; simp [RpL]
  | d :: l, _, 0, h, r => by
    obtain ⟨u, t, rfl, h1, h2⟩ := h
    exact ⟨_, t, rfl, r, h2⟩
  | d :: l, _, i + 1, h, r => by
    obtain ⟨u, t, rfl, h1, h2⟩ := h
    exact ⟨u, t.set i _, rfl, h1, RpL.set i h2 r⟩
theorem RpL.take : ∀ {l : List Dat} {vs : List V} (n : Nat), RpL K H l vs → RpL K H (l.take n) (vs.take n)
  | [], _, n, h => by have z : _ = [] := h; rw [z]; simp [RpL]
  | d :: l, _, 0, h => by simp [RpL]
  | d :: l, _, n + 1, h => by
    obtain ⟨u, t, rfl, h1, h2⟩ := h
    exact ⟨u, t.take n, rfl, h1, RpL.take n h2⟩
theorem RpL.drop : ∀ {l : List Dat} {vs : List V} (n : Nat), RpL K H l vs → RpL K H (l.drop n) (vs.drop n)
  | [], _, n, h => by have z : _ = [] := h; rw [z]; simp [RpL]
  | d :: l, _, 0, h => h
  | d :: l, _, n + 1, h => by
    obtain ⟨u, t, rfl, h1, h2⟩ := h
    exact RpL.drop n h2
theorem RpL.erase : ∀ {l : List Dat} {vs : List V} (n : Nat), RpL K H l vs → RpL K H (l.eraseIdx n) (vs.eraseIdx n)
  | [], _, n, h => by have z : _ = [] := h; rw [z]; simp [RpL]
  | d :: l, _, 0, h => by
    obtain ⟨u, t, rfl, h1, h2⟩ := h
    exact h2
  | d :: l, _, n + 1, h => by
    obtain ⟨u, t, rfl, h1, h2⟩ := h
    exact ⟨u, t.eraseIdx n, rfl, h1, RpL.erase n h2⟩
theorem RpL.dropLast {l : List Dat} {vs : List V} (h : RpL K H l vs) : RpL K H l.dropLast vs.dropLast := by
  rw [List.dropLast_eq_take, List.dropLast_eq_take, h.length]
  exact RpL.take _ h
theorem RpL.ints : ∀ {ns : List Int} {vs : List V}, RpL K H (ns.map Dat.int) vs → vs = ns.map V.int
  | [], _, h => h
  | n :: ns, _, h => by
    obtain ⟨v, r, rfl, h1, h2⟩ := h
    rw [RpL.ints h2, show v = V.int n from h1] <;> rfl
theorem RpL.ofInts : ∀ (ns : List Int), RpL K H (ns.map Dat.int) (ns.map V.int)
  | [] => rfl
  | n :: ns => ⟨_, _, rfl, rfl, RpL.ofInts ns⟩
theorem RpL.strs : ∀ {ns : List Str} {vs : List V}, RpL K H (ns.map Dat.str) vs → vs = ns.map V.str
  | [], _, h => h
  | n :: ns, _, h => by
    obtain ⟨v, r, rfl, h1, h2⟩ := h
    rw [RpL.strs h2, show v = V.str n from h1] <;> rfl
theorem RpL.bls : ∀ {ns : List Bool} {vs : List V}, RpL K H (ns.map Dat.bl) vs → vs = ns.map V.bl
  | [], _, h => h
  | n :: ns, _, h => by
    obtain ⟨v, r, rfl, h1, h2⟩ := h
    rw [RpL.bls h2, show v = V.bl n from h1] <;> rfl
theorem RpL.mem {l : List Dat} {vs : List V} (h : RpL K H l vs) (hv : v ∈ vs) : ∃ d ∈ l, Rp K H d v := by
  obtain ⟨i, e⟩ := List.getElem?_of_mem hv
  obtain ⟨d, q, r⟩ := h.getV e
  exact ⟨d, List.mem_of_getElem? q, r⟩

/-! ### data as PyData -/
mutual
def toPy : Dat → PyData
  | .non => .none
  | .bl b => .bool b
  | .int i => .int i
  | .str x => .str x
  | .ref _ => .none
  | .ty _ => .none
  | .scr _ => .none
  | .tup l => .tuple (toPyL l)
def toPyL : List Dat → List PyData
  | [] => []
  | d :: l => toPy d :: toPyL l
end
mutual
/-- no references -/
def pur : Dat → Bool
  | .ref _ => false
  | .ty _ => false
  | .scr _ => false
  | .tup l => purL l
  | _ => true
def purL : List Dat → Bool
  | [] => true
  | d :: l => pur d && purL l
end
theorem toPyL_map (l : List Dat) : toPyL l = l.map toPy := by
  induction l with
  | nil => rfl
  | cons d l ih => rw [toPyL, ih]; rfl
theorem purL_all (l : List Dat) : purL l = l.all pur := by
  induction l with
  | nil => rfl
  | cons d l ih => rw [purL, ih]; rfl
mutual
theorem toPy_plain : ∀ d : Dat, (toPy d).plain = true
  | .non => rfl
  | .bl _ => rfl
  | .int _ => rfl
  | .str _ => rfl
  | .ref _ => rfl
  | .ty _ => rfl
  | .scr _ => rfl
  | .tup l => by rw [toPy, PyData.plain]; exact toPyL_plain l
theorem toPyL_plain : ∀ l : List Dat, PyData.plainAll (toPyL l) = true
  | [] => rfl
  | d :: l => by rw [toPyL, PyData.plainAll, toPy_plain d, toPyL_plain l]; rfl
end
mutual
theorem Rp.dp : ∀ (d : Dat) (v : V), Rp K H d v → pur d = true → Dp K H v (toPy d)
  | .non, _, h, _ => by cases h; exact .non
  | .bl _, _, h, _ => by cases h; exact .bl _
  | .int _, _, h, _ => by cases h; exact .int _
  | .str _, _, h, _ => by cases h; exact .str _
  | .ref _, _, _, p => by cases p
  | .ty _, _, _, p => by cases p
  | .scr _, _, _, p => by cases p
  | .tup l, _, h, p => by
    obtain ⟨q, vs, rfl, s, r⟩ := h
    exact .tup s.sq (RpL.dp l vs r p)
theorem RpL.dp : ∀ (l : List Dat) (vs : List V), RpL K H l vs → purL l = true → DpAll K H vs (toPyL l)
  | [], _, h, _ => by have z : _ = [] := h; rw [z]; exact .nil
  | d :: l, _, h, p => by
    obtain ⟨v, r, rfl, h1, h2⟩ := h
    rw [purL, Bool.and_eq_true] at p
    exact .cons (Rp.dp d v h1 p.1) (RpL.dp l r h2 p.2)
end
/-- how deep -/
def dep (d : Dat) : Nat := (toPy d).depth
def depL (l : List Dat) : Nat := PyData.depthAll (toPyL l)
/-- == of data -/
def eqD (a b : Dat) : Bool := PyData.eqv (toPy a) (toPy b)
def eqDL (a b : List Dat) : Bool := PyData.eqvAll (toPyL a) (toPyL b)
/-- data that == may be asked of -/
def okD (d : Dat) : Prop := pur d = true ∧ dep d ≤ 60
def okDL (l : List Dat) : Prop := purL l = true ∧ depL l ≤ 60
end
end DL
/-! The data layer, part 2: the small syntax, what it asks. -/
namespace DL
open PySem PySem.Spec PyProof.Rows L2

structure Exn where
  cls : Addr
  fs : List (Str × Dat)
abbrev QX := XD → Sto → Prop
abbrev QE := Exn → SD → Sto → Prop
/-- a def's promise over data -/
abbrev DSp := List Dat → Sto → QX → (Exn → Sto → Prop) → Prop

inductive BOp where
  | add | sub | mul | fdiv | mod | pow
  deriving DecidableEq
inductive Blt where
  | len | abs | int | str | max | min | sum | sorted | list | tuple | all | any
  deriving DecidableEq
inductive Mth where
  | append | extend | pop | popAt | remove | insert | count | index
  deriving DecidableEq
inductive Ty where
  | int | bool | str | tuple | list
  deriving DecidableEq
mutual
inductive Tg where
  | n (i : Nat) | t (l : Tgs)
inductive Tgs where
  | nil | cons (t : Tg) (r : Tgs)
end
mutual
inductive E where
  | v (i : Nat)
  | c (d : Dat)
  | g (x : Str) (d : Dat)
  | bin (op : BOp) (a b : E)
  | neg (a : E)
  | cmp (op : CmpOp) (a b : E)
  | cmp2 (o p : CmpOp) (a b c : E)
  | bool (isAnd : Bool) (a : E) (es : Es)
  | not (a : E)
  | ite (c a b : E)
  | tup (es : Es)
  | lst (es : Es)
  | dct0
  | ix (a b : E)
  | ixn (a : E) (n : Nat)
  | ixm (a : E)
  | sl (a : E) (lo hi : Eo)
  | call (f : Str) (sp : DSp) (es : Es)
  | blt (b : Blt) (es : Es)
  | isi (a : E) (t : Ty)
  | mth (m : Mth) (o : E) (es : Es)
  | comp (elt : E) (tg : Tg) (src : Src) (cond : Eo)
  | compK (elt : E) (tg : Nat) (d : Nat) (cond : Eo)
inductive Es where
  | nil | cons (e : E) (es : Es)
inductive Eo where
  | no | yes (e : E)
inductive Src where
  | seq (e : E) | rng1 (a : E) | rng2 (a b : E) | enum (a : E) | zip (a b : E)
end

/-! ### what is asked of values -/
def settle : XD → Sto → (Dat → Sto → Prop) → Prop
  | .d d, S, k => k d S
  | .l ds, S, k => ∀ p, S p = none → k (.ref p) (supd S p (.lst ds))
def getL (S : Sto) (x : XD) (k : List Dat → Prop) : Prop := match x with
  | .l ds => k ds
  | .d (.ref a) => (match S a with | some (.lst ds) => k ds | _ => False)
  | _ => False
def getSq (S : Sto) (x : XD) (k : List Dat → Prop) : Prop := match x with
  | .l ds => k ds
  | .d (.tup ds) => k ds
  | .d (.ref a) => (match S a with | some (.lst ds) => k ds | _ => False)
  | _ => False
def getI (x : XD) (k : Int → Prop) : Prop := match x with
  | .d (.int i) => k i
  | _ => False
def getB (x : XD) (k : Bool → Prop) : Prop := match x with
  | .d (.bl b) => k b
  | _ => False
def opAdd (x y : XD) (S : Sto) (Q : QX) : Prop := match x, y with
  | .d (.int i), .d (.int j) => Q (.d (.int (i + j))) S
  | .d (.str a), .d (.str b) => a.length + b.length ≤ sizeLine ∧ Q (.d (.str (a ++ b))) S
  | .d (.tup a), .d (.tup b) => a.length + b.length ≤ sizeLine ∧ Q (.d (.tup (a ++ b))) S
  | x, y => getL S x fun a => getL S y fun b => a.length + b.length ≤ sizeLine ∧ Q (.l (a ++ b)) S
def opBin (op : BOp) (x y : XD) (S : Sto) (Q : QX) : Prop := match op with
  | .add => opAdd x y S Q
  | .sub => getI x fun i => getI y fun j => Q (.d (.int (i - j))) S
  | .mul => getI x fun i => getI y fun j => CMul i j ∧ Q (.d (.int (i * j))) S
  | .fdiv => getI x fun i => getI y fun j => CDiv i j ∧ Q (.d (.int (i / j))) S
  | .mod => getI x fun i => getI y fun j => 0 < j ∧ Q (.d (.int (i % j))) S
  | .pow => getI x fun i => getI y fun j => CPow i j ∧ Q (.d (.int (i ^ j.toNat))) S
/-- in place -/
def opAug (op : BOp) (x y : XD) (S : Sto) (Q : QX) : Prop := match op with
  | .add => (match x, y with
    | .d (.int i), .d (.int j) => Q (.d (.int (i + j))) S
    | .d (.str a), .d (.str b) => a.length + b.length ≤ sizeLine ∧ Q (.d (.str (a ++ b))) S
    | .d (.ref a), y => (match S a with
      | some (.lst ds) => getL S y fun es => ds.length + es.length ≤ sizeLine ∧ Q (.d (.ref a)) (supd S a (.lst (ds ++ es)))
      | _ => False)
    | _, _ => False)
  | .sub => getI x fun i => getI y fun j => Q (.d (.int (i - j))) S
  | .fdiv => getI x fun i => getI y fun j => CDiv i j ∧ Q (.d (.int (i / j))) S
  | _ => False
def valP (S : Sto) (x : XD) (k : PyData → Prop) : Prop := match x with
  | .l ds => okDL ds ∧ k (.list (toPyL ds))
  | .d (.ref a) => (match S a with | some (.lst ds) => okDL ds ∧ k (.list (toPyL ds)) | _ => False)
  | .d d => okD d ∧ k (toPy d)
def eqX (x y : XD) (S : Sto) (k : Bool → Prop) : Prop := valP S x fun p => valP S y fun q => k (PyData.eqv p q)
def keyOf : Dat → Option Key
  | .int i => some (.inl i)
  | .str x => some (.inr x)
  | _ => none
def lookK (kvs : List (Key × Dat)) (k : Key) : Option Dat := (kvs.find? fun kv => decide (kv.1 = k)).map (·.2)
def hasK (kvs : List (Key × Dat)) (k : Key) : Bool := (lookK kvs k).isSome
def putD (kvs : List (Key × Dat)) (k : Key) (v : Dat) : List (Key × Dat) :=
  if kvs.any (fun kv => decide (kv.1 = k)) then kvs.map (fun kv => if kv.1 = k then (kv.1, v) else kv) else kvs ++ [(k, v)]
def keyD : Key → Dat
  | .inl i => .int i
  | .inr x => .str x
def inL (d : Dat) (ds : List Dat) : Bool := ds.any fun z => eqD z d
def inX (x y : XD) (S : Sto) (k : Bool → Prop) : Prop := match x, y with
  | .d d, .d (.ref a) => (match S a with
    | some (.lst ds) => okD d ∧ okDL ds ∧ k (inL d ds)
    | some (.dct kvs) => (match keyOf d with | some key => k (hasK kvs key) | none => False)
    | some (.fdct kvs) => (match keyOf d with | some key => k (hasK kvs key) | none => False)
    | _ => False)
  | .d d, .l ds => okD d ∧ okDL ds ∧ k (inL d ds)
  | .d d, .d (.tup ds) => okD d ∧ okDL ds ∧ k (inL d ds)
  | _, _ => False
def isNonX : XD → Bool
  | .d .non => true
  | _ => false
def opCmp (op : CmpOp) (x y : XD) (S : Sto) (k : Bool → Prop) : Prop := match op with
  | .Eq => eqX x y S k
  | .NotEq => eqX x y S fun b => k (!b)
  | .Lt => getI x fun i => getI y fun j => k (decide (i < j))
  | .LtE => getI x fun i => getI y fun j => k (decide (i ≤ j))
  | .Gt => getI x fun i => getI y fun j => k (decide (j < i))
  | .GtE => getI x fun i => getI y fun j => k (decide (j ≤ i))
  | .Is => (match y with | .d .non => k (isNonX x) | _ => False)
  | .IsNot => (match y with | .d .non => k (!isNonX x) | _ => False)
  | .In => inX x y S k
  | .NotIn => inX x y S fun b => k (!b)
def truthX (x : XD) (S : Sto) (k : Bool → Prop) : Prop := match x with
  | .l ds => k (!ds.isEmpty)
  | .d .non => k false
  | .d (.bl b) => k b
  | .d (.int i) => k (i != 0)
  | .d (.str y) => y.length ≤ sizeLine ∧ k ((y.length : Int) != 0)
  | .d (.tup l) => k (!l.isEmpty)
  | .d (.ref a) => (match S a with
    | some (.lst ds) => k (!ds.isEmpty)
    | some (.dct kvs) => k (!kvs.isEmpty)
    | _ => False)
  | .d (.ty _) => False
  | .d (.scr _) => False
def opIx (x y : XD) (S : Sto) (Q : QX) : Prop := match x, y with
  | .d (.ref a), .d k => (match S a with
    | some (.lst ds) => (match k with | .int i => (match atI ds i with | some d => Q (.d d) S | none => False) | _ => False)
    | some (.dct kvs) => (match keyOf k with | some key => (match lookK kvs key with | some d => Q (.d d) S | none => False) | none => False)
    | some (.fdct kvs) => (match keyOf k with | some key => (match lookK kvs key with | some d => Q (.d d) S | none => False) | none => False)
    | _ => False)
  | .l ds, .d (.int i) => (match atI ds i with | some d => Q (.d d) S | none => False)
  | .d (.tup ds), .d (.int i) => (match atI ds i with | some d => Q (.d d) S | none => False)
  | .d (.str z), .d (.int i) => z.length ≤ sizeLine ∧ (match atI z.cps.toList i with | some c => Q (.d (.str ⟨#[c]⟩)) S | none => False)
  | _, _ => False
/-- a written place -/
def opIxn (x : XD) (n : Nat) (S : Sto) (Q : QX) : Prop := match x with
  | .d (.tup ds) => (match ds[n]? with | some d => Q (.d d) S | none => False)
  | .l ds => (match ds[n]? with | some d => Q (.d d) S | none => False)
  | .d (.ref a) => (match S a with
    | some (.lst ds) => (match ds[n]? with | some d => Q (.d d) S | none => False)
    | _ => False)
  | .d (.str z) => z.length ≤ sizeLine ∧ (match z.cps.toList[n]? with | some c => Q (.d (.str ⟨#[c]⟩)) S | none => False)
  | _ => False
def opIxm (x : XD) (S : Sto) (Q : QX) : Prop := getSq S x fun ds => match ds.getLast? with | some d => Q (.d d) S | none => False
def cutD {α : Type} (xs : List α) (lo hi : Option Int) : List α := (xs.drop (HT.sIx xs.length 0 lo)).take (HT.sIx xs.length xs.length hi - HT.sIx xs.length 0 lo)
def opSl (x : XD) (lo hi : Option Int) (S : Sto) (Q : QX) : Prop := match x with
  | .d (.tup ds) => Q (.d (.tup (cutD ds lo hi))) S
  | .l ds => Q (.l (cutD ds lo hi)) S
  | .d (.ref a) => (match S a with
    | some (.lst ds) => Q (.l (cutD ds lo hi)) S
    | _ => False)
  | .d (.scr l) => Q (.l (cutD (l.map Dat.int) lo hi)) S
  | .d (.str z) => z.length ≤ sizeLine ∧ Q (.d (.str (cutS z lo hi))) S
  | _ => False
def intsOf : List Dat → Option (List Int)
  | [] => some []
  | .int i :: r => (intsOf r).map (i :: ·)
  | _ :: _ => none
def blsOf : List Dat → Option (List Bool)
  | [] => some []
  | .bl i :: r => (blsOf r).map (i :: ·)
  | _ :: _ => none
def leD (a b : Dat) : Bool := !PySem.W.dataLt (toPy b) (toPy a)
def sortD (ds : List Dat) : List Dat := ds.mergeSort leD
def sortable (ds : List Dat) : Prop := okDL ds ∧ PySem.W.AllAlike (toPyL ds) ∧ PySem.W.Sortable (toPyL ds)
def kvInts : List (Key × Dat) → Option (List Int)
  | [] => some []
  | (.inl i, _) :: r => (kvInts r).map (i :: ·)
  | _ :: _ => none
def opBlt (b : Blt) (xs : List XD) (S : Sto) (Q : QX) : Prop := match b, xs with
  | .len, [x] => (match x with
    | .d (.str z) => z.length ≤ sizeLine ∧ Q (.d (.int z.length)) S
    | .d (.ref a) => (match S a with
      | some (.lst ds) => Q (.d (.int ds.length)) S
      | some (.dct kvs) => Q (.d (.int kvs.length)) S
      | _ => False)
    | x => getSq S x fun ds => Q (.d (.int ds.length)) S)
  | .abs, [x] => getI x fun i => Q (.d (.int (if i < 0 then -i else i))) S
  | .int, [x] => (match x with
    | .d (.int i) => Q (.d (.int i)) S
    | .d (.bl k) => Q (.d (.int (if k then 1 else 0))) S
    | _ => False)
  | .str, [x] => getI x fun i => i.natAbs.log2 < 1920 ∧ Q (.d (.str (toString i))) S
  | .max, [x, y] => getI x fun i => getI y fun j => Q (.d (.int (if j > i then j else i))) S
  | .min, [x, y] => getI x fun i => getI y fun j => Q (.d (.int (if j < i then j else i))) S
  | .max, [x] => getSq S x fun ds => (match intsOf ds with | some (n :: ns) => Q (.d (.int (ns.foldl max n))) S | _ => False)
  | .min, [x] => getSq S x fun ds => (match intsOf ds with | some (n :: ns) => Q (.d (.int (ns.foldl min n))) S | _ => False)
  | .sum, [x] => getL S x fun ds => (match intsOf ds with | some ns => Q (.d (.int ns.sum)) S | none => False)
  | .sorted, [x] => (match x with
    | .d (.ref a) => (match S a with
      | some (.lst ds) => sortable ds ∧ Q (.l (sortD ds)) S
      | some (.dct kvs) => (match kvInts kvs with | some ns => ns.length < 64 ∧ Q (.l (sortD (ns.map Dat.int))) S | none => False)
      | _ => False)
    | x => getL S x fun ds => sortable ds ∧ Q (.l (sortD ds)) S)
  | .list, [x] => getSq S x fun ds => Q (.l ds) S
  | .tuple, [x] => getSq S x fun ds => Q (.d (.tup ds)) S
  | .all, [x] => getL S x fun ds => (match blsOf ds with | some bs => Q (.d (.bl (bs.all id))) S | none => False)
  | .any, [x] => getL S x fun ds => (match blsOf ds with | some bs => Q (.d (.bl (bs.any id))) S | none => False)
  | _, _ => False
def isTy (t : Ty) (x : XD) (S : Sto) (k : Bool → Prop) : Prop := match x with
  | .d .non => k false
  | .d (.bl _) => k (t == .bool || t == .int)
  | .d (.int _) => k (t == .int)
  | .d (.str _) => k (t == .str)
  | .d (.tup _) => k (t == .tuple)
  | .l _ => k (t == .list)
  | .d (.ref a) => (match S a with
    | some (.lst _) => k (t == .list)
    | some (.dct _) => k false
    | _ => False)
  | .d (.ty _) => False
  | .d (.scr _) => False
def x1 (xs : List XD) (k : XD → Prop) : Prop := match xs with
  | [y] => k y
  | _ => False
def asRef (x : XD) (k : Addr → Prop) : Prop := match x with
  | .d (.ref a) => k a
  | _ => False
def getD (x : XD) (k : Dat → Prop) : Prop := match x with
  | .d d => k d
  | _ => False
def atL (S : Sto) (a : Addr) (k : List Dat → Prop) : Prop := match S a with
  | some (.lst ds) => k ds
  | _ => False
def opMth (m : Mth) (x : XD) (xs : List XD) (S : Sto) (Q : QX) : Prop := match m with
  | .append => asRef x fun a => x1 xs fun y => settle y S fun d S2 => atL S2 a fun ds => ds.length < sizeLine ∧ Q (.d .non) (supd S2 a (.lst (ds ++ [d])))
  | .extend => asRef x fun a => x1 xs fun y => atL S a fun ds => getL S y fun es => ds.length + es.length ≤ sizeLine ∧ Q (.d .non) (supd S a (.lst (ds ++ es)))
  | .pop => asRef x fun a => xs = [] ∧ atL S a fun ds => (match ds.getLast? with | some d => Q (.d d) (supd S a (.lst ds.dropLast)) | none => False)
  | .popAt => asRef x fun a => x1 xs fun y => getI y fun i => i = 0 ∧ atL S a fun ds => (match ds with | d :: ds => Q (.d d) (supd S a (.lst ds)) | [] => False)
  | .remove => asRef x fun a => x1 xs fun y => getD y fun d => atL S a fun ds => okD d ∧ okDL ds ∧ (match ds.findIdx? (fun z => eqD z d) with | some j => Q (.d .non) (supd S a (.lst (ds.eraseIdx j))) | none => False)
  | .count => x1 xs fun y => getD y fun d => getSq S x fun ds => okD d ∧ okDL ds ∧ Q (.d (.int (ds.countP fun z => eqD z d))) S
  | _ => False
def opSet (y : XD) (z : XD) (d : Dat) (S : Sto) (k : Sto → Prop) : Prop := match y, z with
  | .d (.ref a), .d kd => (match S a with
    | some (.lst ds) => (match kd with | .int i => (match ixN ds.length i with | some j => k (supd S a (.lst (ds.set j d))) | none => False) | _ => False)
    | some (.dct kvs) => (match keyOf kd with | some key => kvs.length < sizeLine ∧ k (supd S a (.dct (putD kvs key d))) | none => False)
    | _ => False)
  | _, _ => False
mutual
def bindTg : Tg → Dat → SD → (SD → Prop) → Prop
  | .n i, d, δ, k => k (δ.set i (some d))
  | .t ts, d, δ, k => (match d with | .tup ds => bindTgs ts ds δ k | _ => False)
def bindTgs : Tgs → List Dat → SD → (SD → Prop) → Prop
  | .nil, ds, δ, k => (match ds with | [] => k δ | _ => False)
  | .cons t r, ds, δ, k => (match ds with | d :: es => bindTg t d δ fun δ' => bindTgs r es δ' k | [] => False)
end
mutual
def slotsT : Tg → List Nat
  | .n i => [i]
  | .t ts => slotsTs ts
def slotsTs : Tgs → List Nat
  | .nil => []
  | .cons t r => slotsT t ++ slotsTs r
end
/-- a receiver -/
def mthOk (m : Mth) (x : XD) (S : Sto) : Prop := match x with
  | .l _ => True
  | .d (.tup _) => m = .count ∨ m = .index
  | .d (.ref a) => (match S a with | some (.lst _) => True | _ => False)
  | _ => False
/-- the turns of a comprehension -/
def compW (T : Dat → Sto → (Option Dat → Sto → Prop) → Prop) : List Dat → (Sto → Prop) → Sto → List Dat → (List Dat → Sto → Prop) → Prop
  | [], G, S, acc, k => G S ∧ k acc S
  | d :: ds, G, S, acc, k => G S ∧ T d S fun o S1 => (match o with | some y => compW T ds G S1 (acc ++ [y]) k | none => compW T ds G S1 acc k)
abbrev E0 : QE := fun _ _ _ => False
def strDs (z : Str) : List Dat := z.cps.toList.map fun c => Dat.str ⟨#[c]⟩
def srcX (x : XD) (S : Sto) (k : List Dat → (Sto → Prop) → Sto → Prop) : Prop := match x with
  | .l ds => ds.length ≤ sizeLine ∧ k ds (fun _ => True) S
  | .d (.tup ds) => ds.length ≤ sizeLine ∧ k ds (fun _ => True) S
  | .d (.str z) => z.length ≤ sizeLine ∧ k (strDs z) (fun _ => True) S
  | .d (.ref a) => (match S a with
    | some (.lst ds) => ds.length ≤ sizeLine ∧ k ds (fun S => S a = some (.lst ds)) S
    | _ => False)
  | _ => False
def srcE (x : XD) (S : Sto) (k : List Dat → (Sto → Prop) → Sto → Prop) : Prop := match x with
  | .d (.str _) => False
  | x => srcX x S k
mutual
def wpX : E → QE → SD → Sto → QX → Prop
  | .v i, _, δ, S, Q => (match δ[i]? with | some (some d) => Q (.d d) S | _ => False)
  | .c d, _, _, S, Q => Q (.d d) S
  | .g _ d, _, _, S, Q => Q (.d d) S
  | .bin op a b, X, δ, S, Q => wpX a X δ S fun x S1 => wpX b X δ S1 fun y S2 => opBin op x y S2 Q
  | .neg a, X, δ, S, Q => wpX a X δ S fun x S1 => getI x fun i => Q (.d (.int (-i))) S1
  | .cmp op a b, X, δ, S, Q => wpX a X δ S fun x S1 => wpX b X δ S1 fun y S2 => opCmp op x y S2 fun k => Q (.d (.bl k)) S2
  | .cmp2 o p a b c, X, δ, S, Q => wpX a X δ S fun x S1 => wpX b X δ S1 fun y S2 => opCmp o x y S2 fun k =>
      if k = true then wpX c X δ S2 fun z S3 => opCmp p y z S3 fun k => Q (.d (.bl k)) S3 else Q (.d (.bl false)) S2
  | .bool isAnd a es, X, δ, S, Q => wpX a X δ S fun x S1 => wpB isAnd es X δ x S1 Q
  | .not a, X, δ, S, Q => wpX a X δ S fun x S1 => truthX x S1 fun k => Q (.d (.bl (!k))) S1
  | .ite c a b, X, δ, S, Q => wpX c X δ S fun x S1 => truthX x S1 fun k => if k = true then wpX a X δ S1 Q else wpX b X δ S1 Q
  | .tup es, X, δ, S, Q => wpA es X δ S fun ds S1 => ds.length ≤ sizeLine ∧ Q (.d (.tup ds)) S1
  | .lst es, X, δ, S, Q => wpA es X δ S fun ds S1 => ds.length ≤ sizeLine ∧ Q (.l ds) S1
  | .dct0, _, _, S, Q => ∀ p, S p = none → Q (.d (.ref p)) (supd S p (.dct []))
  | .ix a b, X, δ, S, Q => wpX a X δ S fun x S1 => wpX b X δ S1 fun y S2 => opIx x y S2 Q
  | .ixn a n, X, δ, S, Q => wpX a X δ S fun x S1 => opIxn x n S1 Q
  | .ixm a, X, δ, S, Q => wpX a X δ S fun x S1 => opIxm x S1 Q
  | .sl a lo hi, X, δ, S, Q => wpX a X δ S fun x S1 => wpO lo X δ S1 fun l S2 => wpO hi X δ S2 fun h S3 => opSl x l h S3 Q
  | .call _ sp es, X, δ, S, Q => wpA es X δ S fun ds S1 => sp ds S1 Q fun x S2 => X x δ S2
  | .blt b es, X, δ, S, Q => wpXs es X δ S fun xs S1 => opBlt b xs S1 Q
  | .isi a t, X, δ, S, Q => wpX a X δ S fun x S1 => isTy t x S1 fun k => Q (.d (.bl k)) S1
  | .mth m o es, X, δ, S, Q => wpX o X δ S fun x S1 => mthOk m x S1 ∧ wpXs es X δ S1 fun xs S2 => opMth m x xs S2 Q
  | .comp elt tg src cond, X, δ, S, Q => wpSrc src X δ S fun ds G S1 =>
      compW (fun d S k => bindTg tg d (wipeD δ (slotsT tg)) fun δ' => wpC cond δ' S fun b S2 => if b = true then wpX elt E0 δ' S2 fun x S3 => settle x S3 fun y S4 => k (some y) S4 else k none S2) ds G S1 [] fun l S2 => Q (.l l) S2
  | .compK elt i j cond, X, δ, S, Q => (match δ[j]? with
    | some (some (.ref a)) => (match S a with
      | some (.dct kvs) => kvs.length ≤ sizeLine ∧
          compW (fun d S k => wpC cond ((wipeD δ [i]).set i (some d)) S fun b S2 => if b = true then wpX elt E0 ((wipeD δ [i]).set i (some d)) S2 fun x S3 => settle x S3 fun y S4 => k (some y) S4 else k none S2) (kvs.map fun kv => keyD kv.1) (fun _ => True) (supd S a (.fdct kvs)) [] fun l S2 => Q (.l l) (supd S2 a (.dct kvs))
      | _ => False)
    | _ => False)
def wpB : Bool → Es → QE → SD → XD → Sto → QX → Prop
  | _, .nil, _, _, x, S, Q => Q x S
  | isAnd, .cons e es, X, δ, x, S, Q => getB x fun k => if k = isAnd then wpX e X δ S fun y S1 => wpB isAnd es X δ y S1 Q else Q (.d (.bl k)) S
def wpA : Es → QE → SD → Sto → (List Dat → Sto → Prop) → Prop
  | .nil, _, _, S, k => k [] S
  | .cons e es, X, δ, S, k => wpX e X δ S fun x S1 => settle x S1 fun d S2 => wpA es X δ S2 fun ds S3 => k (d :: ds) S3
def wpXs : Es → QE → SD → Sto → (List XD → Sto → Prop) → Prop
  | .nil, _, _, S, k => k [] S
  | .cons e es, X, δ, S, k => wpX e X δ S fun x S1 => wpXs es X δ S1 fun xs S2 => k (x :: xs) S2
def wpO : Eo → QE → SD → Sto → (Option Int → Sto → Prop) → Prop
  | .no, _, _, S, k => k none S
  | .yes e, X, δ, S, k => wpX e X δ S fun x S1 => getI x fun i => k (some i) S1
def wpC : Eo → SD → Sto → (Bool → Sto → Prop) → Prop
  | .no, _, S, k => k true S
  | .yes e, δ, S, k => wpX e E0 δ S fun x S1 => truthX x S1 fun b => k b S1
def wpSrc : Src → QE → SD → Sto → (List Dat → (Sto → Prop) → Sto → Prop) → Prop
  | .seq e, X, δ, S, k => wpX e X δ S fun x S1 => srcX x S1 k
  | .rng1 a, X, δ, S, k => wpX a X δ S fun x S1 => getI x fun j => j ≤ 16777216 ∧ -(2 ^ 62) ≤ j ∧ k ((List.range j.toNat).map fun (i : Nat) => Dat.int (i : Int)) (fun _ => True) S1
  | .rng2 a b, X, δ, S, k => wpX a X δ S fun x S1 => wpX b X δ S1 fun y S2 => getI x fun i => getI y fun j => (-(2 ^ 60) ≤ i ∧ i < 2 ^ 60 ∧ -(2 ^ 60) ≤ j ∧ j < 2 ^ 60 ∧ j - i ≤ 16777216) ∧ k ((List.range (j - i).toNat).map fun (t : Nat) => Dat.int (i + (t : Int))) (fun _ => True) S2
  | .enum a, X, δ, S, k => wpX a X δ S fun x S1 => srcE x S1 fun ds G S2 => k (ds.mapIdx fun i d => Dat.tup [.int i, d]) G S2
  | .zip a b, X, δ, S, k => wpX a X δ S fun x S1 => wpX b X δ S1 fun y S2 => (match x, y with
    | .d (.tup ds), .d (.tup es) => ds.length ≤ sizeLine ∧ k ((ds.zip es).map fun p => Dat.tup [p.1, p.2]) (fun _ => True) S2
    | _, _ => False)
end

/-! ### statements -/
mutual
inductive Sm where
  | asg (tg : Tg) (e : E)
  | setIx (o i v : E)
  | aug (i : Nat) (op : BOp) (e : E)
  | augIx (o i : E) (op : BOp) (e : E)
  | ex (e : E)
  | ret (e : E)
  | retN
  | ite (c : E) (a b : Ss)
  | wh (c : E) (b : Ss)
  | fr (tg : Tg) (src : Src) (b : Ss)
  | brk
  | cont
  | pass
inductive Ss where
  | nil | cons (s : Sm) (r : Ss)
end
structure EndsD where
  nx : SD → Sto → Prop
  rt : QX
  bk : SD → Sto → Prop
  ct : SD → Sto → Prop
def forW (B : Dat → EndsD → SD → Sto → Prop) (D : EndsD) : List Dat → (Sto → Prop) → SD → Sto → Prop
  | [], G, δ, S => G S ∧ D.nx δ S
  | d :: ds, G, δ, S => G S ∧ B d ⟨fun δ S => forW B D ds G δ S, D.rt, D.nx, fun δ S => forW B D ds G δ S⟩ δ S
mutual
def wpS : Sm → QE → EndsD → SD → Sto → Prop
  | .asg tg e, X, D, δ, S => wpX e X δ S fun x S1 => settle x S1 fun d S2 => bindTg tg d δ fun δ' => D.nx δ' S2
  | .setIx o i v, X, D, δ, S => wpX v X δ S fun x S1 => settle x S1 fun d S2 => wpX o X δ S2 fun y S3 => wpX i X δ S3 fun z S4 => opSet y z d S4 fun S5 => D.nx δ S5
  | .aug i op e, X, D, δ, S => (match δ[i]? with
    | some (some d) => wpX e X δ S fun y S1 => opAug op (.d d) y S1 fun z S2 => settle z S2 fun d' S3 => D.nx (δ.set i (some d')) S3
    | _ => False)
  | .augIx o i op e, X, D, δ, S => wpX o X δ S fun y S1 => wpX i X δ S1 fun z S2 => asRef y fun _ => opIx y z S2 fun w S3 => wpX e X δ S3 fun u S4 => opAug op w u S4 fun r S5 => settle r S5 fun d S6 => opSet y z d S6 fun S7 => D.nx δ S7
  | .ex e, X, D, δ, S => wpX e X δ S fun _ S1 => D.nx δ S1
  | .ret e, X, D, δ, S => wpX e X δ S D.rt
  | .retN, _, D, _, S => D.rt (.d .non) S
  | .ite c a b, X, D, δ, S => wpX c X δ S fun x S1 => truthX x S1 fun k => if k = true then wpSs a X D δ S1 else wpSs b X D δ S1
  | .wh c b, X, D, δ, S => ∃ W : Nat → SD → Sto → Prop, (∃ m, W m δ S) ∧ ∀ m δ S, W m δ S → wpX c X δ S fun x S1 => truthX x S1 fun k =>
      if k = true then wpSs b X ⟨fun δ' S' => ∃ m', m' < m ∧ W m' δ' S', D.rt, D.nx, fun δ' S' => ∃ m', m' < m ∧ W m' δ' S'⟩ δ S1 else D.nx δ S1
  | .fr tg src b, X, D, δ, S => wpSrc src X δ S fun ds G S1 => forW (fun d D' δ S => bindTg tg d δ fun δ' => wpSs b X D' δ' S) D ds G δ S1
  | .brk, _, D, δ, S => D.bk δ S
  | .cont, _, D, δ, S => D.ct δ S
  | .pass, _, D, δ, S => D.nx δ S
def wpSs : Ss → QE → EndsD → SD → Sto → Prop
  | .nil, _, D, δ, S => D.nx δ S
  | .cons s r, X, D, δ, S => wpS s X ⟨fun δ S => wpSs r X D δ S, D.rt, D.bk, D.ct⟩ δ S
end
end DL
/-! The data layer, part 3: whether the small syntax is that of a text. -/
namespace DL
open PySem PySem.Spec PyProof.Rows L2

structure Sc where
  N : List Str
  sc : Scope
  fn : Str → Bool
def visB (sc : Scope) (x : Str) : Bool := match sc.names.lookup x with
  | some .local => true | some .cell => true | some .free => true | _ => false
def glB (sc : Scope) (x : Str) : Bool := match sc.names.lookup x with
  | some .globalImplicit => true | _ => false
def locB (c : Sc) (x : Str) : Bool := match c.sc.names.lookup x with
  | some .local => true | some .cell => c.fn x | _ => false
def opOf : BOp → Operator
  | .add => .Add | .sub => .Sub | .mul => .Mult | .fdiv => .FloorDiv | .mod => .Mod | .pow => .Pow
def bltName : Blt → Str
  | .len => "len" | .abs => "abs" | .int => "int" | .str => "str" | .max => "max" | .min => "min" | .sum => "sum" | .sorted => "sorted"
  | .list => "list" | .tuple => "tuple" | .all => "all" | .any => "any"
def tyName : Ty → Str
  | .int => "int" | .bool => "bool" | .str => "str" | .tuple => "tuple" | .list => "list"
def mthName : Mth → Str
  | .append => "append" | .extend => "extend" | .pop => "pop" | .popAt => "pop" | .remove => "remove" | .insert => "insert" | .count => "count" | .index => "index"
/-- no star, no slice, no set, no super() -/
def plainE : Expr → Bool
  | .Starred _ _ => false
  | .Slice _ _ _ _ => false
  | .Set _ _ _ => false
  | _ => true
def noSup : Expr → Bool
  | .Call (.Name _ _) [] [] _ => false
  | _ => true
def isLc : Expr → Bool
  | .ListComp _ _ _ _ => true
  | .SetComp _ _ _ _ => true
  | .DictComp _ _ _ _ _ => true
  | _ => false
mutual
def ckT (c : Sc) : Tg → Expr → Bool
  | .n i, ex => (match ex with | .Name x _ => decide (c.N[i]? = some x) && locB c x | _ => false)
  | .t ts, ex => (match ex with | .Tuple es _ _ => ckTs c ts es | _ => false)
def ckTs (c : Sc) : Tgs → List Expr → Bool
  | .nil, es => es.isEmpty
  | .cons t r, es => (match es with | e :: es' => ckT c t e && ckTs c r es' | [] => false)
end
def isTupE : Expr → Bool
  | .Tuple _ _ _ => true
  | _ => false
def ownOf (N : List Str) (l : List Nat) : List (Str × Nat) := l.map fun i => (N.getD i Str.empty, i)
def inner (c : Sc) (scope : Scope) : Sc := ⟨c.N, relS scope c.sc, fun x => scope.names.lookup x == some .cell⟩
mutual
def ckE : E → Sc → Expr → Bool
  | .v i, c, ex => (match ex with | .Name x _ => decide (c.N[i]? = some x) && visB c.sc x && !(x == ("__debug__" : Str)) && !(x == ("__classdict__" : Str)) | _ => false)
  | .c d, _, ex => (match ex with
    | .Constant k _ _ => (match d, k with | .non, .none => true | .bl b, .bool b' => b == b' | .int i, .int j => i == j | .str x, .str y => x == y | _, _ => false)
    | _ => false)
  | .g x _, c, ex => (match ex with | .Name y _ => x == y && glB c.sc x && !(x == ("__debug__" : Str)) | _ => false)
  | .bin op a b, c, ex => (match ex with | .BinOp l o r _ => decide (opOf op = o) && ckE a c l && ckE b c r | _ => false)
  | .neg a, c, ex => (match ex with | .UnaryOp .USub l _ => ckE a c l | _ => false)
  | .cmp op a b, c, ex => (match ex with | .Compare l [o] [r] _ => decide (op = o) && ckE a c l && ckE b c r && plainE r | _ => false)
  | .cmp2 o p a b d, c, ex => (match ex with | .Compare l [o', p'] [m, r] _ => decide (o = o') && decide (p = p') && ckE a c l && ckE b c m && ckE d c r && plainE r | _ => false)
  | .bool isAnd a es, c, ex => (match ex with | .BoolOp o (x :: y :: xs) _ => decide (o = if isAnd = true then .And else .Or) && ckE a c x && ckEs es c (y :: xs) | _ => false)
  | .not a, c, ex => (match ex with | .UnaryOp .Not l _ => ckE a c l | _ => false)
  | .ite k a b, c, ex => (match ex with | .IfExp t x y _ => ckE k c t && ckE a c x && ckE b c y | _ => false)
  | .tup es, c, ex => (match ex with | .Tuple xs _ _ => ckEs es c xs | _ => false)
  | .lst es, c, ex => (match ex with | .List xs _ => ckEs es c xs | _ => false)
  | .dct0, _, ex => (match ex with | .Dict [] [] _ => true | _ => false)
  | .ix a b, c, ex => (match ex with | .Subscript l r _ => ckE a c l && ckE b c r && plainE r | _ => false)
  | .ixn a n, c, ex => (match ex with | .Subscript l (.Constant (.int i) _ _) _ => decide (i = (n : Int)) && ckE a c l | _ => false)
  | .ixm a, c, ex => (match ex with | .Subscript l (.UnaryOp .USub (.Constant (.int 1) _ _) _) _ => ckE a c l | _ => false)
  | .sl a lo hi, c, ex => (match ex with | .Subscript l (.Slice x y none _) _ => ckE a c l && ckEo lo c x && ckEo hi c y | _ => false)
  | .call f _ es, c, ex => (match ex with | .Call (.Name x _) xs [] _ => x == f && glB c.sc x && !(x == ("__debug__" : Str)) && ckEs es c xs | _ => false)
  | .blt b es, c, ex => (match ex with | .Call (.Name x _) (e :: xs) [] _ => x == bltName b && glB c.sc x && ckEs es c (e :: xs) | _ => false)
  | .isi a t, c, ex => (match ex with | .Call (.Name x _) [e, .Name y _] [] _ => x == ("isinstance" : Str) && glB c.sc x && y == tyName t && glB c.sc y && plainE e && ckE a c e | _ => false)
  | .mth m o es, c, ex => (match ex with | .Call (.Attribute l x ap) xs [] cp => x == mthName m && (ap.endLine == cp.line) && noSup l && decide (xs.length < 20) && ckE o c l && ckEs es c xs | _ => false)
  | .comp elt tg src cond, c, ex => (match ex with
    | .ListComp e [⟨t, iter, ifs, a⟩] scope _ => a == 0 && blkC c.N c.sc scope (ownOf c.N (slotsT tg)) && ckT (inner c scope) tg t && ckSrc src c t iter
        && ckC cond (inner c scope) ifs && ckE elt (inner c scope) e
    | _ => false)
  | .compK elt i j cond, c, ex => (match ex with
    | .ListComp e [⟨.Name t tp, .Name d dp, ifs, a⟩] scope _ => a == 0 && blkC c.N c.sc scope (ownOf c.N [i]) && ckT (inner c scope) (.n i) (.Name t tp)
        && decide (c.N[j]? = some d) && visB c.sc d && !(d == ("__debug__" : Str)) && !(d == ("__classdict__" : Str)) && ckC cond (inner c scope) ifs && ckE elt (inner c scope) e
    | _ => false)
def ckEs : Es → Sc → List Expr → Bool
  | .nil, _, xs => xs.isEmpty
  | .cons e es, c, xs => (match xs with | x :: r => plainE x && ckE e c x && ckEs es c r | [] => false)
def ckEo : Eo → Sc → Option Expr → Bool
  | .no, _, x => x.isNone
  | .yes e, c, x => (match x with | some y => ckE e c y | none => false)
def ckC : Eo → Sc → List Expr → Bool
  | .no, _, xs => xs.isEmpty
  | .yes e, c, xs => (match xs with | [y] => ckE e c y | _ => false)
def ckSrc : Src → Sc → Expr → Expr → Bool
  | .seq e, c, _, ex => plainE ex && ckE e c ex
  | .rng1 a, c, _, ex => (match ex with | .Call (.Name x _) [y] [] _ => x == ("range" : Str) && glB c.sc x && plainE y && ckE a c y | _ => false)
  | .rng2 a b, c, _, ex => (match ex with | .Call (.Name x _) [y, z] [] _ => x == ("range" : Str) && glB c.sc x && plainE y && plainE z && ckE a c y && ckE b c z | _ => false)
  | .enum a, c, t, ex => (match ex with | .Call (.Name x _) [y] [] _ => x == ("enumerate" : Str) && glB c.sc x && plainE y && ckE a c y && isTupE t | _ => false)
  | .zip a b, c, t, ex => (match ex with | .Call (.Name x _) [y, z] [] _ => x == ("zip" : Str) && glB c.sc x && plainE y && plainE z && ckE a c y && ckE b c z && isTupE t | _ => false)
end
mutual
def ckS : Sm → Sc → Stmt → Bool
  | .asg tg e, c, st => (match st with
    | .Assign [t] v _ => ckT c tg t && ckE e c v && !(isTupE t && isTupE v)
    | _ => false)
  | .setIx o i v, c, st => (match st with | .Assign [.Subscript a b _] x _ => ckE o c a && ckE i c b && plainE b && ckE v c x && !(isLc x) | _ => false)
  | .aug i op e, c, st => (match st with | .AugAssign (.Name x _) o v _ => decide (c.N[i]? = some x) && locB c x && decide (opOf op = o) && ckE e c v | _ => false)
  | .augIx a i op e, c, st => (match st with | .AugAssign (.Subscript x y _) o v _ => ckE a c x && ckE i c y && plainE y && decide (opOf op = o) && ckE e c v | _ => false)
  | .ex e, c, st => (match st with | .Expr v _ => ckE e c v && !(isLc v) | _ => false)
  | .ret e, c, st => (match st with | .Return (some v) _ => ckE e c v | _ => false)
  | .retN, _, st => (match st with | .Return none _ => true | _ => false)
  | .ite k a b, c, st => (match st with | .If t x y _ => ckE k c t && ckSs a c x && ckSs b c y | _ => false)
  | .wh k b, c, st => (match st with | .While t x [] _ => ckE k c t && ckSs b c x | _ => false)
  | .fr tg src b, c, st => (match st with | .For t iter x [] _ => ckT c tg t && ckSrc src c t iter && ckSs b c x | _ => false)
  | .brk, _, st => (match st with | .Break _ => true | _ => false)
  | .cont, _, st => (match st with | .Continue _ => true | _ => false)
  | .pass, _, st => (match st with | .Pass _ => true | _ => false)
def ckSs : Ss → Sc → List Stmt → Bool
  | .nil, _, l => l.isEmpty
  | .cons s r, c, l => (match l with | x :: xs => ckS s c x && ckSs r c xs | [] => false)
end
mutual
/-- what is asked of the calls -/
def okE (P : Str → DSp → Prop) (G : Str → Dat → Prop) : E → Prop
  | .v _ => True
  | .c _ => True
  | .g x d => G x d
  | .bin _ a b => okE P G a ∧ okE P G b
  | .neg a => okE P G a
  | .cmp _ a b => okE P G a ∧ okE P G b
  | .cmp2 _ _ a b c => okE P G a ∧ okE P G b ∧ okE P G c
  | .bool _ a es => okE P G a ∧ okEs P G es
  | .not a => okE P G a
  | .ite c a b => okE P G c ∧ okE P G a ∧ okE P G b
  | .tup es => okEs P G es
  | .lst es => okEs P G es
  | .dct0 => True
  | .ix a b => okE P G a ∧ okE P G b
  | .ixn a _ => okE P G a
  | .ixm a => okE P G a
  | .sl a lo hi => okE P G a ∧ okEo P G lo ∧ okEo P G hi
  | .call f sp es => P f sp ∧ okEs P G es
  | .blt _ es => okEs P G es
  | .isi a _ => okE P G a
  | .mth _ o es => okE P G o ∧ okEs P G es
  | .comp elt _ src cond => okE P G elt ∧ okSrc P G src ∧ okEo P G cond
  | .compK elt _ _ cond => okE P G elt ∧ okEo P G cond
def okEs (P : Str → DSp → Prop) (G : Str → Dat → Prop) : Es → Prop
  | .nil => True
  | .cons e es => okE P G e ∧ okEs P G es
def okEo (P : Str → DSp → Prop) (G : Str → Dat → Prop) : Eo → Prop
  | .no => True
  | .yes e => okE P G e
def okSrc (P : Str → DSp → Prop) (G : Str → Dat → Prop) : Src → Prop
  | .seq e => okE P G e
  | .rng1 a => okE P G a
  | .rng2 a b => okE P G a ∧ okE P G b
  | .enum a => okE P G a
  | .zip a b => okE P G a ∧ okE P G b
end
mutual
def okS (P : Str → DSp → Prop) (G : Str → Dat → Prop) : Sm → Prop
  | .asg _ e => okE P G e
  | .setIx o i v => okE P G o ∧ okE P G i ∧ okE P G v
  | .aug _ _ e => okE P G e
  | .augIx o i _ e => okE P G o ∧ okE P G i ∧ okE P G e
  | .ex e => okE P G e
  | .ret e => okE P G e
  | .retN => True
  | .ite c a b => okE P G c ∧ okSs P G a ∧ okSs P G b
  | .wh c b => okE P G c ∧ okSs P G b
  | .fr _ src b => okSrc P G src ∧ okSs P G b
  | .brk => True
  | .cont => True
  | .pass => True
def okSs (P : Str → DSp → Prop) (G : Str → Dat → Prop) : Ss → Prop
  | .nil => True
  | .cons s r => okS P G s ∧ okSs P G r
end
end DL
/-! The data layer, part 4: what the operations on values ask, by the hand layer's rules. -/
namespace DL
open PySem PySem.Spec PyProof.Rows L2

section
variable {K : PySem.W.Frag} {S S' : Sto} {H0 H H' : Hp} {x y : XD} {v u : V} {Q : VK} {q : QX}

/-- what is behind -/
def Fin (K : PySem.W.Frag) (S : Sto) (H0 H : Hp) (q : QX) (Q : VK) : Prop := ∀ v' H' z S', Rel K S' H' → RpX K H0 H' S' z v' → Fr S H S' H' → q z S' → Q v' H'
/-- nothing tracked is lost since H0 -/
abbrev Old (H0 H : Hp) : Prop := ∀ a, H a = none → H0 a = none
theorem Fin.same (f : Fin K S H0 H q Q) (r : Rel K S H) {d : Dat} (h : Rp K H d v) (k : q (.d d) S) : Q v H := f v H (.d d) S r h Fr.refl k
theorem Fin.int (f : Fin K S H0 H q Q) (r : Rel K S H) {i : Int} (k : q (.d (.int i)) S) : Q (.int i) H := f.same r (d := .int i) rfl k
theorem Fin.bl (f : Fin K S H0 H q Q) (r : Rel K S H) {i : Bool} (k : q (.d (.bl i)) S) : Q (.bl i) H := f.same r (d := .bl i) rfl k
theorem Fin.str (f : Fin K S H0 H q Q) (r : Rel K S H) {i : Str} (k : q (.d (.str i)) S) : Q (.str i) H := f.same r (d := .str i) rfl k
theorem Fin.tup (f : Fin K S H0 H q Q) (r : Rel K S H) {ds : List Dat} {vs : List V} (h : RpL K H ds vs) (k : q (.d (.tup ds)) S) {p : Addr} {o : Obj} (hp : H p = none) (ho : o.dict = none) : Q (.ref p) (upd H p (.frz o (.tup vs))) :=
  f _ _ (.d (.tup ds)) S (r.newH hp) ⟨p, vs, rfl, .inl ⟨o, upd_same, ho⟩, RpL.keep (TK.new hp) _ _ h⟩ (Fr.newH hp) k
theorem Fin.lst (f : Fin K S H0 H q Q) (r : Rel K S H) (o : Old H0 H) {ds : List Dat} {vs : List V} (h : RpL K H ds vs) (k : q (.l ds) S) {p : Addr} (hp : H p = none) : Q (.ref p) (upd H p (.lst vs)) :=
  f _ _ (.l ds) S (r.newH hp) ⟨p, vs, rfl, upd_same, RpL.keep (TK.new hp) _ _ h, r.free hp, o p hp⟩ (Fr.newH hp) k

/-- a new tuple, its object without a dict -/
abbrev nT (o : Obj) (vs : List V) : HO := .frz o (.tup vs)
theorem tup_new {X : Cx} {pins : List (Addr × Obj)} {σ : L2.St} {H : Hp} {s : Shared} {xs : List V} {us : List Value} {Q : VK} {h' : Heap} {t' : Nat} (I : Inv X pins σ H s) (r : Vals xs us) (hz : xs.length ≤ sizeLine)
    (kp : ∀ b o, s.heap.get? b = some o → h'.get? b = some o) {a : Addr} (ha : s.heap.objs.size ≤ a) (he : h'.get? a = some { cls := .type "tuple", data := .seq us.toArray })
    (q : ∀ p o, H p = none → o.dict = none → Q (.ref p) (upd H p (nT o xs))) : EP X pins σ Q (.ref a) { s with heap := h', toks := t' } :=
  ⟨.ref a, _, I.laid (t' := t') (o := nT { cls := .type "tuple", data := .seq us.toArray } xs) kp ha ⟨he, hz, us, r, ⟨_, he, rfl, _, rfl⟩⟩, rfl, q _ _ (I.hok.fresh ha) rfl⟩
def tTupN (t : TA) : TE := fun σ H Q => t σ H fun xs H1 => xs.length ≤ sizeLine ∧ ∀ p o, H1 p = none → o.dict = none → Q (.ref p) (upd H1 p (nT o xs))
theorem pe_tupN {X : Cx} {es : List Expr} {t : TA} {pos : Pos} {x1} (h : PA X es t) : PE X (.Tuple es x1 pos) (tTupN t) := by
  refine ⟨fun pins s σ H Q I hq => ?_⟩
  refine wpAny_Tuple_spliced (thn (h.run pos pins s σ H _ I hq) fun us s1 ⟨xs, H1, I1, r, z, q⟩ => ⟨by rw [← r.length]; exact z, ?_⟩)
  exact tup_new (t' := s1.toks) I1 r z (fun b u e => Heap.get?_push_of_some _ e) (Nat.le_refl _) (Heap.get?_push_size _ rfl) q
def rCatN (K : PySem.W.Frag) : R2 := fun x y H Q => ∃ a b xs ys, x = .ref a ∧ y = .ref b ∧ SqT K H a xs ∧ SqT K H b ys ∧ xs.length + ys.length ≤ sizeLine ∧
  (xs = [] → Q (.ref b) H) ∧ (xs ≠ [] → ys = [] → Q (.ref a) H) ∧ (xs ≠ [] → ys ≠ [] → ∀ p o, H p = none → o.dict = none → Q (.ref p) (upd H p (nT o (xs ++ ys))))
theorem op_catN {X : Cx} : OpR X (binaryOp .Add) (rCatN X.K) := by
  intro pins s σ H x y v u Q I rx ry h
  obtain ⟨a, b, xs, ys, rfl, rfl, ha, hb, hz, q0, q1, q2⟩ := h
  cases rx
  cases ry
  obtain ⟨its, r1, p1, _⟩ := I.tuple ha
  obtain ⟨its2, r2, p2, _⟩ := I.tuple hb
  by_cases hx : xs = []
  · subst hx
    cases r1
    exact cat_tup0 p1 p2 ⟨.ref b, H, I, rfl, q0 rfl⟩
  · refine HT.cat_tup p1 p2 (fun z => hx (r1.nil_iff.mp z)) (fun z => ⟨.ref a, H, I, rfl, q1 hx (r2.nil_iff.mp z)⟩) (fun z => ?_) (by rw [← r1.length, ← r2.length]; exact hz)
    exact tup_new (t' := s.toks) I (r1.append r2) (by rw [List.length_append]; exact hz) (fun b ob q => Heap.get?_push_of_some _ q) (Nat.le_refl _) (Heap.get?_push_size _ rfl) (q2 hx fun w => z (r2.nil_iff.mpr w))
def rSlN (K : PySem.W.Frag) : V → Option Int → Option Int → Hp → VK → Prop := fun x lo hi H Q => ∃ a xs, x = .ref a ∧ SqT K H a xs ∧
  (HT.sIx xs.length 0 lo = 0 ∧ HT.sIx xs.length xs.length hi = xs.length → Q (.ref a) H) ∧ (∀ p o, H p = none → o.dict = none → Q (.ref p) (upd H p (nT o (cutV xs lo hi))))
theorem sl_tupN {X : Cx} : SlR X (rSlN X.K) := by
  intro pins s σ H x v vl vu lo hi sl Q I rx hs pl pu h
  obtain ⟨a, xs, rfl, hx, q1, q2⟩ := h
  cases rx
  obtain ⟨its, r, ht, hz⟩ := I.tuple hx
  have hlen : its.toArray.size = xs.length := by rw [List.size_toArray]; exact r.length.symm
  refine ⟨"tuple", _, PyProof.Rows.slot_tuple_getitem.lookup, ht.typeIs, ?_⟩
  by_cases hw : HT.sIx xs.length 0 lo = 0 ∧ HT.sIx xs.length xs.length hi = xs.length
  · exact getItem_tuple_whole ht hs pl pu (by rw [hlen]; exact hw) ⟨.ref a, H, I, rfl, q1 hw⟩
  · refine HT.getItem_tuple_cut ht hs pl pu (by rw [hlen]; exact hw) ?_ (by rw [hlen]; exact hz)
    rw [hlen]
    exact tup_new (t' := s.toks) I ((r.drop (HT.sIx xs.length 0 lo)).take (HT.sIx xs.length xs.length hi - HT.sIx xs.length 0 lo)) (Nat.le_trans (cutV_length xs lo hi) hz) (fun b ob q => Heap.get?_push_of_some _ q) (Nat.le_refl _) (Heap.get?_push_size _ rfl) q2
theorem call_tupleN {X : Cx} : CallR X (.type "tuple") (fun xs H Q => ∃ p ys, xs = [.ref p] ∧ ((SqL X.K H p ys ∧ ∀ l o, H l = none → o.dict = none → Q (.ref l) (upd H l (nT o ys))) ∨ (SqT X.K H p ys ∧ Q (.ref p) H))) := by
  intro pins s σ H xs us Q I r h
  obtain ⟨p, ys, rfl, h⟩ := h
  obtain ⟨u, rfl, rx⟩ := vals1 r
  cases rx
  rcases h with ⟨hq, q⟩ | ⟨hq, q⟩
  · obtain ⟨its, r', pl, hz⟩ := I.list hq
    have hlen := r'.length
    refine call_tuple_list pl.isList (fun h' kp => ?_) (by simp only [List.size_toArray] <;> omega)
    have I1 : Inv X pins σ H { s with heap := h' } := I.kept (t' := s.toks) kp
    exact tup_new (t' := s.toks) I1 r' hz (fun b o e => Heap.get?_push_of_some _ e) (Nat.le_refl _) (Heap.get?_push_size _ rfl) q
  · obtain ⟨its, r', pl, hz⟩ := I.tuple hq
    exact call_tuple_same pl ⟨.ref p, H, I, rfl, q⟩

/-! ### what a value must be -/
theorem getL_of {k : List Dat → Prop} (r : Rel K S H) (rx : RpX K H0 H S x v) (h : getL S x k) : ∃ p vs ds, v = .ref p ∧ H p = some (.lst vs) ∧ RpL K H ds vs ∧ k ds := by
  cases x with
  | l ds => obtain ⟨p, vs, e, q, rr, _, _⟩ := rx; exact ⟨p, vs, ds, e, q, rr, h⟩
  | d d =>
    cases d with
    | ref a =>
      simp only [getL] at h
      split at h
      · rename_i ds e
        obtain ⟨vs, q, rr⟩ := r a _ e
        exact ⟨a, vs, ds, rx, q, rr, h⟩
      · cases h
    | _ => cases h
theorem getSq_of {k : List Dat → Prop} (r : Rel K S H) (rx : RpX K H0 H S x v) (h : getSq S x k) : ∃ p vs ds, v = .ref p ∧ (SqL K H p vs ∨ SqT K H p vs) ∧ RpL K H ds vs ∧ k ds := by
  cases x with
  | l ds => obtain ⟨p, vs, e, q, rr, _, _⟩ := rx; exact ⟨p, vs, ds, e, .inl (SqL.of q), rr, h⟩
  | d d =>
    cases d with
    | ref a =>
      simp only [getSq] at h
      split at h
      · rename_i ds e
        obtain ⟨vs, q, rr⟩ := r a _ e
        exact ⟨a, vs, ds, rx, .inl (SqL.of q), rr, h⟩
      · cases h
    | tup ds =>
      obtain ⟨p, vs, e, s, rr⟩ := rx
      exact ⟨p, vs, ds, e, .inr s.sq, rr, h⟩
    | _ => cases h
theorem getI_of {k : Int → Prop} (rx : RpX K H0 H S x v) (h : getI x k) : ∃ i, v = .int i ∧ x = .d (.int i) ∧ k i := by
  cases x with
  | l ds => cases h
  | d d =>
    cases d with
    | int i => exact ⟨i, rx, rfl, h⟩
    | _ => cases h
theorem getB_of {k : Bool → Prop} (rx : RpX K H0 H S x v) (h : getB x k) : ∃ i, v = .bl i ∧ x = .d (.bl i) ∧ k i := by
  cases x with
  | l ds => cases h
  | d d =>
    cases d with
    | bl i => exact ⟨i, rx, rfl, h⟩
    | _ => cases h

/-! ### arithmetic -/
def rAddAll (K : PySem.W.Frag) : R2 := fun x y H Q => (∃ i j, x = .int i ∧ y = .int j ∧ Q (.int (i + j)) H) ∨ (∃ i j, x = .str i ∧ y = .str j ∧ i.length + j.length ≤ sizeLine ∧ Q (.str (i ++ j)) H) ∨ rCatN K x y H Q ∨ rCat x y H Q
theorem op_addAll {X : Cx} : OpR X (binaryOp .Add) (rAddAll X.K) := op_add.or (op_add_str.or (op_catN.or op_cat))
theorem RpL.nil_iff {l : List Dat} {vs : List V} (h : RpL K H l vs) : vs = [] → l = [] := fun e => by
  have z := h.length
  rw [e] at z
  exact List.length_eq_zero_iff.mp z.symm
theorem rAdd_of (r : Rel K S H) (o : Old H0 H) (rx : RpX K H0 H S x v) (ry : RpX K H0 H S y u) (h : opAdd x y S q) (f : Fin K S H0 H q Q) : rAddAll K v u H Q := by
  have lists : getL S x (fun a => getL S y fun b => a.length + b.length ≤ sizeLine ∧ q (.l (a ++ b)) S) → rAddAll K v u H Q := fun h => by
    obtain ⟨p, vs, ds, rfl, e1, r1, h⟩ := getL_of r rx h
    obtain ⟨p', ws, es, rfl, e2, r2, hz, h⟩ := getL_of r ry h
    exact .inr (.inr (.inr ⟨p, p', vs, ws, rfl, rfl, e1, e2, by rw [r1.length, r2.length]; exact hz, fun p hp => f.lst r o (r1.append r2) h hp⟩))
  unfold opAdd at h
  split at h
  · exact .inl ⟨_, _, rx, ry, f.int r h⟩
  · exact .inr (.inl ⟨_, _, rx, ry, h.1, f.str r h.2⟩)
  · rename_i ds es
    obtain ⟨p, vs, rfl, s1, r1⟩ := rx
    obtain ⟨p', ws, rfl, s2, r2⟩ := ry
    obtain ⟨hz, h⟩ := h
    refine .inr (.inr (.inl ⟨p, p', vs, ws, rfl, rfl, s1.sq, s2.sq, by rw [r1.length, r2.length]; exact hz, fun e => ?_, fun e1 e2 => ?_, fun _ _ p o hp ho => f.tup r (r1.append r2) h hp ho⟩))
    · have z := r1.nil_iff e
      subst z
      exact f.same r (d := .tup es) ⟨p', ws, rfl, s2, r2⟩ h
    · have z := r2.nil_iff e2
      subst z
      rw [List.append_nil] at h
      exact f.same r (d := .tup ds) ⟨p, vs, rfl, s1, r1⟩ h
  · exact lists h
def rBin (K : PySem.W.Frag) : BOp → R2
  | .add => rAddAll K
  | .sub => rI0 fun i j => .int (i - j)
  | .mul => rI CMul fun i j => .int (i * j)
  | .fdiv => rI CDiv fun i j => .int (i / j)
  | .mod => rI (fun _ j => 0 < j) fun i j => .int (i % j)
  | .pow => rI CPow fun i j => .int (i ^ j.toNat)
theorem op_bin {X : Cx} (op : BOp) : OpR X (binaryOp (opOf op)) (rBin X.K op) := by
  cases op with
  | add => exact op_addAll
  | sub => exact op_sub
  | mul => exact op_mul
  | fdiv => exact op_fdiv
  | mod => exact op_mod
  | pow => exact op_pow
theorem rBin_of {op : BOp} (r : Rel K S H) (o : Old H0 H) (rx : RpX K H0 H S x v) (ry : RpX K H0 H S y u) (h : opBin op x y S q) (f : Fin K S H0 H q Q) : rBin K op v u H Q := by
  cases op with
  | add => exact rAdd_of r o rx ry h f
  | sub =>
    obtain ⟨i, rfl, _, h⟩ := getI_of rx h
    obtain ⟨j, rfl, _, h⟩ := getI_of ry h
    exact ⟨i, j, rfl, rfl, f.int r h⟩
  | mul =>
    obtain ⟨i, rfl, _, h⟩ := getI_of rx h
    obtain ⟨j, rfl, _, hc, h⟩ := getI_of ry h
    exact ⟨i, j, rfl, rfl, hc, f.int r h⟩
  | fdiv =>
    obtain ⟨i, rfl, _, h⟩ := getI_of rx h
    obtain ⟨j, rfl, _, hc, h⟩ := getI_of ry h
    exact ⟨i, j, rfl, rfl, hc, f.int r h⟩
  | mod =>
    obtain ⟨i, rfl, _, h⟩ := getI_of rx h
    obtain ⟨j, rfl, _, hc, h⟩ := getI_of ry h
    exact ⟨i, j, rfl, rfl, hc, f.int r h⟩
  | pow =>
    obtain ⟨i, rfl, _, h⟩ := getI_of rx h
    obtain ⟨j, rfl, _, hc, h⟩ := getI_of ry h
    exact ⟨i, j, rfl, rfl, hc, f.int r h⟩
/-- a list extended in place, by any list -/
def rExt3 : R2 := fun x y H Q => ∃ l b xs zs, x = .ref l ∧ y = .ref b ∧ H l = some (.lst xs) ∧ H b = some (.lst zs) ∧ xs.length + zs.length ≤ sizeLine ∧ Q (.ref l) (upd H l (.lst (xs ++ zs)))
def rAug : BOp → R2
  | .add => fun x y H Q => (∃ i j, x = .int i ∧ y = .int j ∧ Q (.int (i + j)) H) ∨ (∃ i j, x = .str i ∧ y = .str j ∧ i.length + j.length ≤ sizeLine ∧ Q (.str (i ++ j)) H) ∨ rExt2 x y H Q
  | .sub => rI0 fun i j => .int (i - j)
  | .fdiv => rI CDiv fun i j => .int (i / j)
  | _ => fun _ _ _ _ => False
theorem op_aug {X : Cx} (op : BOp) : OpR X (inplaceOp (opOf op)) (rAug op) := by
  cases op with
  | add => exact iop_add.or (iop_add_str.or iop_ext)
  | sub => exact iop_sub
  | fdiv => exact iop_fdiv
  | mul => exact fun _ _ _ _ _ _ _ _ _ _ _ _ h => h.elim
  | mod => exact fun _ _ _ _ _ _ _ _ _ _ _ _ h => h.elim
  | pow => exact fun _ _ _ _ _ _ _ _ _ _ _ _ h => h.elim
theorem nofrzL {H : Hp} {a : Addr} {vs : List V} (e : H a = some (.lst vs)) : ∀ o u, H a ≠ some (.frz o u) := fun o u z => by rw [e] at z; cases z
theorem nofrzK {H : Hp} {a : Addr} {vs : List (Key × V)} (e : H a = some (.dK vs)) : ∀ o u, H a ≠ some (.frz o u) := fun o u z => by rw [e] at z; cases z
theorem Fin.mut (f : Fin K S H0 H q Q) (r : Rel K S H) {a : Addr} {mo mo' : MO} {o : HO} (hs : S a = some mo) (nf : ∀ o u, H a ≠ some (.frz o u)) (n : RpO K (upd H a o) a mo') {d : Dat} (h : Rp K (upd H a o) d v) (k : q (.d d) (supd S a mo')) : Q v (upd H a o) :=
  f _ _ (.d d) _ (r.mut hs n) h (Fr.mut hs nf) k
theorem rAug_of {op : BOp} (r : Rel K S H) (o : Old H0 H) (rx : RpX K H0 H S x v) (ry : RpX K H0 H S y u) (h : opAug op x y S q) (f : Fin K S H0 H q Q) : rAug op v u H Q := by
  cases op with
  | add =>
    unfold opAug at h
    simp only at h
    split at h
    · exact .inl ⟨_, _, rx, ry, f.int r h⟩
    · exact .inr (.inl ⟨_, _, rx, ry, h.1, f.str r h.2⟩)
    · split at h
      · rename_i ds e
        obtain ⟨vs, q1, rr⟩ := r _ _ e
        obtain ⟨p', ws, es, rfl, e2, r2, hz, h⟩ := getL_of r ry h
        refine .inr (.inr ⟨_, p', vs, ws, rx, rfl, q1, e2, by rw [rr.length, r2.length]; exact hz, ?_⟩)
        have k := TK.mut (o := .lst (vs ++ ws)) r e
        exact f.mut (mo' := .lst (ds ++ es)) r e (nofrzL q1) ⟨_, upd_same, RpL.keep k _ _ (rr.append r2)⟩ (d := .ref _) rfl h
      · cases h
    · cases h
  | sub =>
    obtain ⟨i, rfl, _, h⟩ := getI_of rx h
    obtain ⟨j, rfl, _, h⟩ := getI_of ry h
    exact ⟨i, j, rfl, rfl, f.int r h⟩
  | fdiv =>
    obtain ⟨i, rfl, _, h⟩ := getI_of rx h
    obtain ⟨j, rfl, _, hc, h⟩ := getI_of ry h
    exact ⟨i, j, rfl, rfl, hc, f.int r h⟩
  | mul => exact h.elim
  | mod => exact h.elim
  | pow => exact h.elim

/-! ### comparisons -/
theorem valP_of {k : PyData → Prop} (r : Rel K S H) (rx : RpX K H0 H S x v) (h : valP S x k) : ∃ d, Dp K H v d ∧ d.plain = true ∧ d.depth ≤ 61 ∧ k d := by
  have ls : ∀ (ds : List Dat) (vs : List V) (p : Addr), H p = some (.lst vs) → RpL K H ds vs → okDL ds → k (.list (toPyL ds)) → ∃ d, Dp K H (.ref p) d ∧ d.plain = true ∧ d.depth ≤ 61 ∧ k d := fun ds vs p e rr o h =>
    ⟨_, .lst (SqL.of e) (RpL.dp ds vs rr o.1), by rw [PyData.plain]; exact toPyL_plain ds, by rw [PyData.depth]; have := o.2; unfold depL at this; omega, h⟩
  have ss : ∀ d : Dat, okD d → Rp K H d v → k (toPy d) → ∃ d, Dp K H v d ∧ d.plain = true ∧ d.depth ≤ 61 ∧ k d := fun d o rp h =>
    ⟨_, Rp.dp d v rp o.1, toPy_plain d, by have := o.2; unfold dep at this; omega, h⟩
  cases x with
  | l ds =>
    obtain ⟨p, vs, rfl, e, rr, _, _⟩ := rx
    exact ls ds vs p e rr h.1 h.2
  | d d =>
    cases d with
    | ref a =>
      simp only [valP] at h
      split at h
      · rename_i ds e
        obtain ⟨vs, q1, rr⟩ := r a _ e
        obtain rfl : v = .ref a := rx
        exact ls ds vs a q1 rr h.1 h.2
      · cases h
    | non => exact ss _ h.1 rx h.2
    | bl b => exact ss _ h.1 rx h.2
    | int b => exact ss _ h.1 rx h.2
    | str b => exact ss _ h.1 rx h.2
    | ty b => exact ss _ h.1 rx h.2
    | scr b => exact ss _ h.1 rx h.2
    | tup b => exact ss _ h.1 rx h.2
def rEqP (K : PySem.W.Frag) (neg : Bool) : R2 := fun x y H Q => ∃ d e, Dp K H x d ∧ Dp K H y e ∧ d.plain = true ∧ e.plain = true ∧ d.depth ≤ 61 ∧ Q (.bl (if neg then !PyData.eqv d e else PyData.eqv d e)) H
theorem op_eqP {X : Cx} (hu : X.A.units + 64 < cLine) : OpR X (compareOp .Eq) (rEqP X.K false) := by
  intro pins s σ H x y v u Q I rx ry h
  obtain ⟨d, e, hd, he, sd, se, dd, q⟩ := h
  obtain ⟨as, r1⟩ := Dp.reads I d x v hd rx
  obtain ⟨bs, r2⟩ := Dp.reads I e y u he ry
  exact SeqAt.eq_plain r1 r2 sd se (by have := Nat.min_le_left d.depth e.depth; omega) ⟨.bl _, H, I, rfl, q⟩
theorem op_neP {X : Cx} (hu : X.A.units + 64 < cLine) : OpR X (compareOp .NotEq) (rEqP X.K true) := by
  intro pins s σ H x y v u Q I rx ry h
  obtain ⟨d, e, hd, he, sd, se, dd, q⟩ := h
  obtain ⟨as, r1⟩ := Dp.reads I d x v hd rx
  obtain ⟨bs, r2⟩ := Dp.reads I e y u he ry
  exact SeqAt.ne_plain r1 r2 sd se (by have := Nat.min_le_left d.depth e.depth; omega) ⟨.bl _, H, I, rfl, q⟩
/-- in a list or tuple of data; in a dict -/
def rInP (K : PySem.W.Frag) (neg : Bool) : R2 := fun x y H Q => (∃ d ds, Dp K H x d ∧ (Dp K H y (.list ds) ∨ Dp K H y (.tuple ds)) ∧ d.plain = true ∧ PyData.plainAll ds = true ∧ d.depth ≤ 61 ∧ Q (.bl (if neg then !(ds.any fun z => PyData.eqv z d) else ds.any fun z => PyData.eqv z d)) H) ∨
  ∃ a o, y = .ref a ∧ DGet H a x o ∧ Q (.bl (if neg then !o.isSome else o.isSome)) H
theorem op_inP {X : Cx} (hu : X.A.units + 64 < cLine) : OpR X (compareOp .In) (rInP X.K false) := by
  intro pins s σ H x y v u Q I rx ry h
  rcases h with ⟨d, ds, hd, he, sd, se, dd, q⟩ | ⟨a, o, rfl, g, q⟩
  · obtain ⟨as, r1⟩ := Dp.reads I d x v hd rx
    rcases he with he | he
    · obtain ⟨bs, r2⟩ := Dp.reads I _ y u he ry
      exact SeqAt.in_list_data r2 r1 se sd (by have := Nat.min_le_right (PyData.depthAll ds) d.depth; omega) ⟨.bl _, H, I, rfl, q⟩
    · obtain ⟨bs, r2⟩ := Dp.reads I _ y u he ry
      exact SeqAt.in_tuple_data r2 r1 se sd (by have := Nat.min_le_right (PyData.depthAll ds) d.depth; omega) ⟨.bl _, H, I, rfl, q⟩
  · obtain rfl : u = Value.ref a := ry
    exact d_in (by omega) I g rx fun s3 I3 => ⟨.bl o.isSome, H, I3, rfl, q⟩
theorem op_notInP {X : Cx} (hu : X.A.units + 64 < cLine) : OpR X (compareOp .NotIn) (rInP X.K true) := by
  intro pins s σ H x y v u Q I rx ry h
  rcases h with ⟨d, ds, hd, he, sd, se, dd, q⟩ | ⟨a, o, rfl, g, q⟩
  · obtain ⟨as, r1⟩ := Dp.reads I d x v hd rx
    rcases he with he | he
    · obtain ⟨bs, r2⟩ := Dp.reads I _ y u he ry
      exact SeqAt.notIn_list_data r2 r1 se sd (by have := Nat.min_le_right (PyData.depthAll ds) d.depth; omega) ⟨.bl _, H, I, rfl, q⟩
    · obtain ⟨bs, r2⟩ := Dp.reads I _ y u he ry
      exact SeqAt.notIn_tuple_data r2 r1 se sd (by have := Nat.min_le_right (PyData.depthAll ds) d.depth; omega) ⟨.bl _, H, I, rfl, q⟩
  · obtain rfl : u = Value.ref a := ry
    exact d_notIn (by omega) I g rx fun s3 I3 => ⟨.bl (!o.isSome), H, I3, rfl, q⟩
theorem keyOf_V {d : Dat} {k : Key} (h : keyOf d = some k) (rp : Rp K H d v) : v = kV k := by
  cases d with
  | int i => cases h; exact rp
  | str i => cases h; exact rp
  | _ => cases h
theorem keyOf_eq {d : Dat} {k : Key} (h : keyOf d = some k) : d = keyD k := by
  cases d with
  | int i => cases h; rfl
  | str i => cases h; rfl
  | _ => cases h
/-- what is found -/
theorem KR.look : ∀ {ds : List (Key × Dat)} {vs : List (Key × V)} (k : Key), KR K H ds vs → (∀ d, lookK ds k = some d → ∃ v, valV vs k = some v ∧ Rp K H d v) ∧ (lookK ds k = none → valV vs k = none)
  | [], vs, k, h => by
    have e : vs = [] := by
      have := h.1
      simpa using this
    subst e
    exact ⟨fun d z => by simp [lookK] at z, fun _ => rfl⟩
  | (k0, d0) :: ds, vs, k, h => by
    obtain ⟨h1, h2⟩ := h
    cases vs with
    | nil => simp at h1
    | cons p vs =>
      obtain ⟨k1, v1⟩ := p
      simp only [List.map_cons, List.cons.injEq] at h1
      obtain ⟨rfl, h1⟩ := h1
      obtain ⟨v, r, e, g1, g2⟩ := h2
      simp only [List.map_cons, List.cons.injEq] at e
      obtain ⟨rfl, rfl⟩ := e
      have ih := KR.look k ⟨h1, g2⟩
      by_cases hk : k1 = k
      · subst hk
        refine ⟨fun d z => ⟨v1, ?_, ?_⟩, fun z => ?_⟩
        · simp [valV]
        · have : d0 = d := by simpa [lookK] using z
          subst this; exact g1
        · simp [lookK] at z
      · have e1 : lookK ((k1, d0) :: ds) k = lookK ds k := by simp [lookK, hk]
        have e2 : valV ((k1, v1) :: vs) k = valV vs k := by simp [valV, hk]
        rw [e1, e2]; exact ih
theorem KR.has {ds : List (Key × Dat)} {vs : List (Key × V)} (k : Key) (h : KR K H ds vs) : hasK ds k = (valV vs k).isSome := by
  have z := h.look k
  unfold hasK
  cases e : lookK ds k with
  | none => rw [z.2 e]; rfl
  | some d => obtain ⟨v, e2, _⟩ := z.1 d e; rw [e2]; rfl
theorem RpO.dget {a : Addr} {kvs : List (Key × Dat)} {k : Key} (h : RpO K H a (.dct kvs) ∨ RpO K H a (.fdct kvs)) : ∃ vs, KR K H kvs vs ∧ DGet H a (kV k) (valV vs k) := by
  rcases h with ⟨vs, e, kr⟩ | ⟨o, vs, e, kr⟩
  · exact ⟨vs, kr, .inl ⟨vs, k, .inl e, rfl, rfl⟩⟩
  · exact ⟨vs, kr, .inl ⟨vs, k, .inr ⟨o, e⟩, rfl, rfl⟩⟩
theorem depAll_any {ds : List Dat} {d : Dat} : ((toPyL ds).any fun z => PyData.eqv z (toPy d)) = inL d ds := by
  rw [toPyL_map, List.any_map]
  rfl
theorem rIn_of {neg : Bool} {k : Bool → Prop} (r : Rel K S H) (rx : RpX K H0 H S x v) (ry : RpX K H0 H S y u) (h : inX x y S fun b => k (if neg then !b else b)) (f : ∀ b, k b → Q (.bl b) H) : rInP K neg v u H Q := by
  have ls : ∀ (d : Dat) (ds : List Dat) (vs : List V) (p : Addr), Rp K H d v → (SqL K H p vs ∨ SqT K H p vs) → RpL K H ds vs → okD d → okDL ds → k (if neg then !(inL d ds) else inL d ds) → rInP K neg v (.ref p) H Q := fun d ds vs p rp e rr o1 o2 h => by
    refine .inl ⟨toPy d, toPyL ds, Rp.dp d v rp o1.1, e.imp (fun e => .lst e (RpL.dp ds vs rr o2.1)) (fun e => .tup e (RpL.dp ds vs rr o2.1)), toPy_plain d, toPyL_plain ds, by have := o1.2; unfold dep at this; omega, f _ ?_⟩
    rw [depAll_any]; exact h
  have dc : ∀ (d : Dat) (kvs : List (Key × Dat)) (a : Addr), Rp K H d v → (RpO K H a (.dct kvs) ∨ RpO K H a (.fdct kvs)) → (match keyOf d with | some key => k (if neg then !(hasK kvs key) else hasK kvs key) | none => False) → rInP K neg v (.ref a) H Q := fun d kvs a rp e h => by
    split at h
    · rename_i key ek
      obtain ⟨vs, kr, g⟩ := RpO.dget (k := key) e
      rw [keyOf_V ek rp]
      refine .inr ⟨a, _, rfl, g, f _ ?_⟩
      rw [← kr.has key]; exact h
    · cases h
  unfold inX at h
  split at h
  · rename_i d a
    obtain rfl : u = .ref a := ry
    split at h
    · rename_i ds e
      obtain ⟨vs, q1, rr⟩ := r a _ e
      exact ls d ds vs a rx (.inl (SqL.of q1)) rr h.1 h.2.1 h.2.2
    · rename_i kvs e
      exact dc d kvs a rx (.inl (r a _ e)) h
    · rename_i kvs e
      exact dc d kvs a rx (.inr (r a _ e)) h
    · cases h
  · rename_i d ds
    obtain ⟨p, vs, rfl, e, rr, _, _⟩ := ry
    exact ls d ds vs p rx (.inl (SqL.of e)) rr h.1 h.2.1 h.2.2
  · rename_i d ds
    obtain ⟨p, vs, rfl, e, rr⟩ := ry
    exact ls d ds vs p rx (.inr e.sq) rr h.1 h.2.1 h.2.2
  · cases h
def rIsP (neg : Bool) : R2 := fun x y H Q => y = .non ∧ Q (.bl (if neg then !decide (x = .non) else decide (x = .non))) H
theorem isNon_of (rx : RpX K H0 H S x v) : decide (v = .non) = isNonX x := by
  cases x with
  | l ds => obtain ⟨p, vs, rfl, _⟩ := rx; rfl
  | d d =>
    cases d with
    | non => obtain rfl : v = .non := rx; rfl
    | bl b => obtain rfl : v = .bl b := rx; rfl
    | int b => obtain rfl : v = .int b := rx; rfl
    | str b => obtain rfl : v = .str b := rx; rfl
    | ref b => obtain rfl : v = .ref b := rx; rfl
    | ty b => obtain rfl : v = .ty b := rx; rfl
    | scr b => obtain ⟨p, rfl, _⟩ := rx; rfl
    | tup b => obtain ⟨p, vs, rfl, _⟩ := rx; rfl
def rCmp (K : PySem.W.Frag) : CmpOp → R2
  | .Eq => rEqP K false
  | .NotEq => rEqP K true
  | .Lt => rI0 fun i j => .bl (decide (i < j))
  | .LtE => rI0 fun i j => .bl (decide (i ≤ j))
  | .Gt => rI0 fun i j => .bl (decide (j < i))
  | .GtE => rI0 fun i j => .bl (decide (j ≤ i))
  | .Is => rIsP false
  | .IsNot => rIsP true
  | .In => rInP K false
  | .NotIn => rInP K true
theorem op_cmp {X : Cx} (hu : X.A.units + 64 < cLine) (op : CmpOp) : OpR X (compareOp op) (rCmp X.K op) := by
  cases op with
  | Eq => exact op_eqP hu
  | NotEq => exact op_neP hu
  | Lt => exact op_lt
  | LtE => exact op_le
  | Gt => exact op_gt
  | GtE => exact op_ge
  | Is => exact op_isN
  | IsNot => exact op_notN
  | In => exact op_inP hu
  | NotIn => exact op_notInP hu
theorem rCmp_of {op : CmpOp} {k : Bool → Prop} (r : Rel K S H) (rx : RpX K H0 H S x v) (ry : RpX K H0 H S y u) (h : opCmp op x y S k) (f : ∀ b, k b → Q (.bl b) H) : rCmp K op v u H Q := by
  have ii : ∀ (g : Int → Int → Bool), getI x (fun i => getI y fun j => k (g i j)) → rI0 (fun i j => .bl (g i j)) v u H Q := fun g h => by
    obtain ⟨i, rfl, _, h⟩ := getI_of rx h
    obtain ⟨j, rfl, _, h⟩ := getI_of ry h
    exact ⟨i, j, rfl, rfl, f _ h⟩
  cases op with
  | Eq =>
    have h : valP S x fun p => valP S y fun q => k (PyData.eqv p q) := h
    obtain ⟨d, hd, pd, dd, h⟩ := valP_of r rx h
    obtain ⟨e, he, pe, de, h⟩ := valP_of r ry h
    exact ⟨d, e, hd, he, pd, pe, dd, f _ h⟩
  | NotEq =>
    have h : valP S x fun p => valP S y fun q => k (!PyData.eqv p q) := h
    obtain ⟨d, hd, pd, dd, h⟩ := valP_of r rx h
    obtain ⟨e, he, pe, de, h⟩ := valP_of r ry h
    exact ⟨d, e, hd, he, pd, pe, dd, f _ h⟩
  | Lt => exact ii _ h
  | LtE => exact ii _ h
  | Gt => exact ii _ h
  | GtE => exact ii _ h
  | Is =>
    unfold opCmp at h
    simp only at h
    split at h
    · exact ⟨ry, f _ (by rw [isNon_of rx]; exact h)⟩
    · cases h
  | IsNot =>
    unfold opCmp at h
    simp only at h
    split at h
    · exact ⟨ry, f _ (by rw [isNon_of rx]; exact h)⟩
    · cases h
  | In => exact rIn_of (neg := false) r rx ry h f
  | NotIn => exact rIn_of (neg := true) (k := k) r rx ry h f
/-! ### truth -/
theorem tru_of {k : Bool → Prop} (r : Rel K S H) (rx : RpX K H0 H S x v) (h : truthX x S k) : ∃ b, TruV K v H b ∧ k b := by
  have em : ∀ {ds : List Dat} {vs : List V}, RpL K H ds vs → (!vs.isEmpty) = !ds.isEmpty := fun {ds vs} rr => by
    cases ds with
    | nil => have e : vs = [] := rr; rw [e] <;> rfl
    | cons d ds => obtain ⟨w, t, rfl, _⟩ := rr; rfl
  cases x with
  | l ds =>
    obtain ⟨p, vs, rfl, e, rr, _, _⟩ := rx
    exact ⟨_, .inl ⟨vs, SqL.of e, (em rr).symm⟩, h⟩
  | d d =>
    cases d with
    | non => obtain rfl : v = .non := rx; exact ⟨_, rfl, h⟩
    | bl b => obtain rfl : v = .bl b := rx; exact ⟨_, rfl, h⟩
    | int b => obtain rfl : v = .int b := rx; exact ⟨_, rfl, h⟩
    | str b => obtain rfl : v = .str b := rx; exact ⟨_, ⟨h.1, rfl⟩, h.2⟩
    | ref a =>
      obtain rfl : v = .ref a := rx
      simp only [truthX] at h
      split at h
      · rename_i ds e
        obtain ⟨vs, q1, rr⟩ := r a _ e
        exact ⟨_, .inl ⟨vs, SqL.of q1, (em rr).symm⟩, h⟩
      · rename_i kvs e
        obtain ⟨vs, q1, kr⟩ := r a _ e
        refine ⟨_, .inr (.inr ⟨vs, q1, ?_⟩), h⟩
        have z := em kr.2
        rw [List.isEmpty_map, List.isEmpty_map] at z
        exact z.symm
      · cases h
    | ty b => cases h
    | scr b => cases h
    | tup b =>
      obtain ⟨p, vs, rfl, e, rr⟩ := rx
      exact ⟨_, .inr (.inl ⟨vs, e.sq, (em rr).symm⟩), h⟩
end
end DL
/-! The data layer, part 5: subscripts, slices, built-ins, isinstance, methods. -/
namespace DL
open PySem PySem.Spec PyProof.Rows L2

section
variable {K : PySem.W.Frag} {S S' : Sto} {H0 H H' : Hp} {x y : XD} {v u : V} {Q : VK} {q : QX}

/-! ### subscripts -/
theorem subTail {prog : Program} {w : World} {A : Around} {E : Value → Shared → Prop} {s : Shared} {value slice : Expr} {o i : Value} {T id : String} {Q : Value → Shared → Prop} (hT : s.TypeIs o T)
    (hl : typeLookup (.type T) "__getitem__" = pure (some (.builtin id))) (h : wpAny (model prog w) A (getItem o i) Q E s)
    (hs : subscripted slice false o i = operate [o, i] (getItem o i)) : wpAny (model prog w) A (subscriptTail value slice o i) Q E s := by
  unfold subscriptTail
  refine wpAny_bind ?_
  rw [getitemInPython_of_ne hT.not_modules]
  refine wpAny_bind (wpAny_specialOf hT hl ?_)
  have fin : wpAny (model prog w) A (subscripted slice false o i) (fun r s₃ => wpAny (model prog w) A (letTemporaryGo value o r >>= fun _ => pure r) Q E s₃) E s := by
    rw [hs]
    exact wpAny_operating (wpAny_mono h (fun r s₃ h₃ => wpAny_bind (wpAny_letTemporaryGo (wpAny_pure h₃))) fun _ _ x => x)
  first
    | exact wpAny_pure (wpAny_bind fin)
    | exact wpAny_bind (wpAny_pure (wpAny_bind fin))
    | exact wpAny_bind fin
def rIxD : R2 := fun x y H Q => ∃ a v, x = .ref a ∧ DGet H a y (some v) ∧ Q v H
theorem ix_dict {X : Cx} (hu : X.A.units + 1 < cLine) : IxR X rIxD := by
  intro value slice pins s σ H x y v u Q I rx ry h hs
  obtain ⟨a, z, rfl, g, q⟩ := h
  cases rx
  exact subTail (dict_typeIs I g) PySem.F.slot_dict_getitem.lookup (d_getItem hu I g ry fun w' s3 I3 rw' => ⟨z, H, I3, rw', q⟩) hs
def rIxA (K : PySem.W.Frag) : R2 := fun x y H Q => rIx K x y H Q ∨ rIxD x y H Q
theorem ix_all {X : Cx} (hu : X.A.units + 1 < cLine) : IxR X (rIxA X.K) := ix_seq.or (ix_dict hu)
theorem atI_of {i : Int} {ds : List Dat} {vs : List V} {d : Dat} (rr : RpL K H ds vs) (h : atI ds i = some d) : ∃ w, atI vs i = some w ∧ Rp K H d w := by
  unfold atI at h ⊢
  rw [rr.length]
  cases e : ixN ds.length i with
  | none => rw [e] at h; cases h
  | some j =>
    rw [e] at h
    obtain ⟨w, e1, e2⟩ := rr.get (show ds[j]? = some d from h)
    exact ⟨w, e1, e2⟩
theorem rIx_of (r : Rel K S H) (rx : RpX K H0 H S x v) (ry : RpX K H0 H S y u) (h : opIx x y S q) (f : Fin K S H0 H q Q) : rIxA K v u H Q := by
  have ls : ∀ (ds : List Dat) (vs : List V) (p : Addr) (i : Int), (SqL K H p vs ∨ SqT K H p vs) → RpL K H ds vs → (match atI ds i with | some d => q (.d d) S | none => False) → rIxA K (.ref p) (.int i) H Q := fun ds vs p i e rr h => by
    split at h
    · rename_i d ed
      obtain ⟨w, e1, e2⟩ := atI_of rr ed
      rcases e with e | e
      · exact .inl (.inl ⟨p, vs, i, w, rfl, rfl, e, e1, f.same r e2 h⟩)
      · exact .inl (.inr (.inl ⟨p, vs, i, w, rfl, rfl, e, e1, f.same r e2 h⟩))
    · cases h
  have dc : ∀ (kvs : List (Key × Dat)) (a : Addr) (k : Dat), Rp K H k u → (RpO K H a (.dct kvs) ∨ RpO K H a (.fdct kvs)) → (match keyOf k with | some key => (match lookK kvs key with | some d => q (.d d) S | none => False) | none => False) → rIxA K (.ref a) u H Q := fun kvs a k rk e h => by
    split at h
    · rename_i key ek
      split at h
      · rename_i d ed
        obtain ⟨vs, kr, g⟩ := RpO.dget (k := key) e
        obtain ⟨w, e1, e2⟩ := (kr.look key).1 d ed
        rw [keyOf_V ek rk]
        rw [e1] at g
        exact .inr ⟨a, w, rfl, g, f.same r e2 h⟩
      · cases h
    · cases h
  unfold opIx at h
  split at h
  · rename_i a k
    obtain rfl : v = .ref a := rx
    split at h
    · rename_i ds e
      obtain ⟨vs, q1, rr⟩ := r a _ e
      split at h
      · rename_i i
        obtain rfl : u = .int i := ry
        exact ls ds vs a i (.inl (SqL.of q1)) rr h
      · cases h
    · rename_i kvs e
      exact dc kvs a k ry (.inl (r a _ e)) h
    · rename_i kvs e
      exact dc kvs a k ry (.inr (r a _ e)) h
    · cases h
  · rename_i ds i
    obtain ⟨p, vs, rfl, e, rr, _, _⟩ := rx
    obtain rfl : u = .int i := ry
    exact ls ds vs p i (.inl (SqL.of e)) rr h
  · rename_i ds i
    obtain ⟨p, vs, rfl, e, rr⟩ := rx
    obtain rfl : u = .int i := ry
    exact ls ds vs p i (.inr e.sq) rr h
  · rename_i z i
    obtain rfl : u = .int i := ry
    obtain rfl : v = .str z := rx
    obtain ⟨hz, h⟩ := h
    split at h
    · rename_i c ec
      exact .inl (.inr (.inr ⟨z, i, c, rfl, rfl, hz, ec, f.str r h⟩))
    · cases h
  · cases h
theorem rIxn_of {n : Nat} (r : Rel K S H) (rx : RpX K H0 H S x v) (h : opIxn x n S q) (f : Fin K S H0 H q Q) : rIxA K v (.int (n : Int)) H Q := by
  have ls : ∀ (ds : List Dat) (vs : List V) (p : Addr), (SqL K H p vs ∨ SqT K H p vs) → RpL K H ds vs → (match ds[n]? with | some d => q (.d d) S | none => False) → rIxA K (.ref p) (.int (n : Int)) H Q := fun ds vs p e rr h => by
    split at h
    · rename_i d ed
      obtain ⟨w, e1, e2⟩ := rr.get ed
      rcases e with e | e
      · exact .inl (.inl ⟨p, vs, _, w, rfl, rfl, e, atI_nat e1, f.same r e2 h⟩)
      · exact .inl (.inr (.inl ⟨p, vs, _, w, rfl, rfl, e, atI_nat e1, f.same r e2 h⟩))
    · cases h
  unfold opIxn at h
  split at h
  · rename_i ds
    obtain ⟨p, vs, rfl, e, rr⟩ := rx
    exact ls ds vs p (.inr e.sq) rr h
  · rename_i ds
    obtain ⟨p, vs, rfl, e, rr, _, _⟩ := rx
    exact ls ds vs p (.inl (SqL.of e)) rr h
  · rename_i a
    obtain rfl : v = .ref a := rx
    split at h
    · rename_i ds e
      obtain ⟨vs, q1, rr⟩ := r a _ e
      exact ls ds vs a (.inl (SqL.of q1)) rr h
    · cases h
  · rename_i z
    obtain rfl : v = .str z := rx
    obtain ⟨hz, h⟩ := h
    split at h
    · rename_i c ec
      exact .inl (.inr (.inr ⟨z, _, c, rfl, rfl, hz, atI_nat ec, f.str r h⟩))
    · cases h
  · cases h
theorem atI_getLast {α : Type} {xs : List α} {d : α} (h : xs.getLast? = some d) : atI xs (-1) = some d := by
  obtain ⟨ys, rfl⟩ := List.getLast?_eq_some_iff.mp h
  exact atI_last ys d
theorem rIxm_of (r : Rel K S H) (rx : RpX K H0 H S x v) (h : opIxm x S q) (f : Fin K S H0 H q Q) : rIxA K v (.int (-1)) H Q := by
  obtain ⟨p, vs, ds, rfl, e, rr, h⟩ := getSq_of r rx h
  split at h
  · rename_i d ed
    obtain ⟨w, e1, e2⟩ := atI_of rr (atI_getLast ed)
    rcases e with e | e
    · exact .inl (.inl ⟨p, vs, _, w, rfl, rfl, e, e1, f.same r e2 h⟩)
    · exact .inl (.inr (.inl ⟨p, vs, _, w, rfl, rfl, e, e1, f.same r e2 h⟩))
  · cases h

/-! ### slices -/
def rSlAll (K : PySem.W.Frag) : V → Option Int → Option Int → Hp → VK → Prop := fun x lo hi H Q => rSlN K x lo hi H Q ∨ rSlL K x lo hi H Q ∨ rSlS x lo hi H Q
theorem sl_all {X : Cx} : SlR X (rSlAll X.K) := sl_tupN.or (sl_list.or sl_str)
theorem cut_of {ds : List Dat} {vs : List V} (lo hi : Option Int) (rr : RpL K H ds vs) : RpL K H (cutD ds lo hi) (cutV vs lo hi) := by
  unfold cutD cutV
  rw [rr.length]
  exact (rr.drop _).take _
theorem cut_whole {α : Type} {xs : List α} {lo hi : Option Int} (h : HT.sIx xs.length 0 lo = 0 ∧ HT.sIx xs.length xs.length hi = xs.length) : cutD xs lo hi = xs := by
  unfold cutD
  rw [h.1, h.2, List.drop_zero, Nat.sub_zero, List.take_length]
theorem rSl_of {lo hi : Option Int} (r : Rel K S H) (o : Old H0 H) (rx : RpX K H0 H S x v) (h : opSl x lo hi S q) (f : Fin K S H0 H q Q) : rSlAll K v lo hi H Q := by
  unfold opSl at h
  split at h
  · rename_i ds
    obtain ⟨p, vs, rfl, e, rr⟩ := rx
    refine .inl ⟨p, vs, rfl, e.sq, fun z => ?_, fun p' o' hp ho => f.tup r (cut_of lo hi rr) h hp ho⟩
    rw [rr.length] at z
    rw [cut_whole z] at h
    exact f.same r (d := .tup ds) ⟨p, vs, rfl, e, rr⟩ h
  · rename_i ds
    obtain ⟨p, vs, rfl, e, rr, _, _⟩ := rx
    exact .inr (.inl ⟨p, vs, rfl, SqL.of e, fun p' hp => f.lst r o (cut_of lo hi rr) h hp⟩)
  · rename_i a
    obtain rfl : v = .ref a := rx
    split at h
    · rename_i ds e
      obtain ⟨vs, q1, rr⟩ := r a _ e
      exact .inr (.inl ⟨a, vs, rfl, SqL.of q1, fun p' hp => f.lst r o (cut_of lo hi rr) h hp⟩)
    · cases h
  · rename_i l
    obtain ⟨p, rfl, e⟩ := rx
    exact .inr (.inl ⟨p, _, rfl, e.sq, fun p' hp => f.lst r o (cut_of lo hi (RpL.ofInts l)) h hp⟩)
  · rename_i z
    obtain rfl : v = .str z := rx
    exact .inr (.inr ⟨z, rfl, h.1, f.str r h.2⟩)
  · cases h

/-! ### built-ins -/
theorem intsOf_map : ∀ {ds : List Dat} {ns : List Int}, intsOf ds = some ns → ds = ns.map Dat.int
  | [], _, h => by cases h; rfl
  | .int i :: r, ns, h => by
    unfold intsOf at h
    cases e : intsOf r with
    | none => rw [e] at h; cases h
    | some m =>
      rw [e] at h
      cases h
      rw [intsOf_map e] <;> rfl
  | .non :: _, _, h => nomatch h
  | .bl _ :: _, _, h => nomatch h
  | .str _ :: _, _, h => nomatch h
  | .ref _ :: _, _, h => nomatch h
  | .ty _ :: _, _, h => nomatch h
  | .scr _ :: _, _, h => nomatch h
  | .tup _ :: _, _, h => nomatch h
theorem blsOf_map : ∀ {ds : List Dat} {ns : List Bool}, blsOf ds = some ns → ds = ns.map Dat.bl
  | [], _, h => by cases h; rfl
  | .bl i :: r, ns, h => by
    unfold blsOf at h
    cases e : blsOf r with
    | none => rw [e] at h; cases h
    | some m =>
      rw [e] at h
      cases h
      rw [blsOf_map e] <;> rfl
  | .non :: _, _, h => nomatch h
  | .int _ :: _, _, h => nomatch h
  | .str _ :: _, _, h => nomatch h
  | .ref _ :: _, _, h => nomatch h
  | .ty _ :: _, _, h => nomatch h
  | .scr _ :: _, _, h => nomatch h
  | .tup _ :: _, _, h => nomatch h
theorem Dp.ints (K : PySem.W.Frag) (H : Hp) : ∀ ns : List Int, DpAll K H (ns.map V.int) (ns.map PyData.int)
  | [] => .nil
  | n :: ns => .cons (.int n) (Dp.ints K H ns)
theorem depth_ints : ∀ ns : List Int, PyData.depthAll (ns.map PyData.int) = 0
  | [] => rfl
  | n :: ns => by rw [List.map_cons, PyData.depthAll, PyData.depth, depth_ints ns]; rfl
theorem alike_ints (ns : List Int) : PySem.W.AlikeAll (ns.map PyData.int) := by
  refine ⟨fun x hx y hy => ?_, fun x hx => ?_⟩
  · obtain ⟨i, _, rfl⟩ := List.mem_map.mp hx
    obtain ⟨j, _, rfl⟩ := List.mem_map.mp hy
    rfl
  · obtain ⟨i, _, rfl⟩ := List.mem_map.mp hx
    exact fun z => nomatch z
/-- min, max of a list or a tuple of ints -/
def rBest (K : PySem.W.Frag) (g : Int → Int → Int) : List V → Hp → VK → Prop := fun xs H Q => ∃ p n ns, xs = [.ref p] ∧ (SqL K H p ((n :: ns).map V.int) ∨ SqT K H p ((n :: ns).map V.int)) ∧ Q (.int (ns.foldl g n)) H
theorem best_end {X : Cx} {pins : List (Addr × Obj)} {σ : L2.St} {H : Hp} {s : Shared} {Q : VK} {i : Int} {v : Value} {h' : Heap} {tk : Nat} {bs : List Addr} (I : Inv X pins σ H s) (r : Reads h' v (.int i) bs) (k : ∀ b o, s.heap.get? b = some o → h'.get? b = some o) (q : Q (.int i) H) : EP X pins σ Q v { s with heap := h', toks := tk } := by
  cases r
  exact ⟨.int i, H, I.kept (t' := tk) k, ⟨_, rfl⟩, q⟩
theorem cr_minA {X : Cx} (hc : X.calm = true) (hu : X.A.units + 64 < cLine) : CallR X (.builtin "min") (rBest X.K min) := by
  intro pins s σ H xs us Q I r h
  obtain ⟨p, n, ns, rfl, e, q⟩ := h
  obtain ⟨u, rfl, rx⟩ := vals1 r
  cases rx
  have hd := depth_ints (n :: ns)
  rcases e with e | e
  · obtain ⟨its, rv, pl, _⟩ := I.list e
    obtain ⟨as, hr⟩ := Dp.readsAll I _ _ its (Dp.ints X.K H (n :: ns)) rv
    exact PySem.W.min_list_data (I.ok.hd hc) pl.isList hr (alike_ints (n :: ns)) (by rw [show PyData.int n :: ns.map PyData.int = (n :: ns).map PyData.int from rfl, hd]; omega) fun i v h' tk bs _ rd k => best_end I (by rw [PySem.W.minD_ints] at rd; exact rd) k q
  · obtain ⟨its, rv, pl, _⟩ := I.tuple e
    obtain ⟨as, hr⟩ := Dp.readsAll I _ _ its (Dp.ints X.K H (n :: ns)) rv
    exact PySem.W.min_tuple_data (I.ok.hd hc) pl hr (alike_ints (n :: ns)) (by rw [show PyData.int n :: ns.map PyData.int = (n :: ns).map PyData.int from rfl, hd]; omega) fun i v h' tk bs _ rd k => best_end I (by rw [PySem.W.minD_ints] at rd; exact rd) k q
theorem cr_maxA {X : Cx} (hc : X.calm = true) (hu : X.A.units + 64 < cLine) : CallR X (.builtin "max") (rBest X.K max) := by
  intro pins s σ H xs us Q I r h
  obtain ⟨p, n, ns, rfl, e, q⟩ := h
  obtain ⟨u, rfl, rx⟩ := vals1 r
  cases rx
  have hd := depth_ints (n :: ns)
  rcases e with e | e
  · obtain ⟨its, rv, pl, _⟩ := I.list e
    obtain ⟨as, hr⟩ := Dp.readsAll I _ _ its (Dp.ints X.K H (n :: ns)) rv
    exact PySem.W.max_list_data (I.ok.hd hc) pl.isList hr (alike_ints (n :: ns)) (by rw [show PyData.int n :: ns.map PyData.int = (n :: ns).map PyData.int from rfl, hd]; omega) fun i v h' tk bs _ rd k => best_end I (by rw [PySem.W.maxD_ints] at rd; exact rd) k q
  · obtain ⟨its, rv, pl, _⟩ := I.tuple e
    obtain ⟨as, hr⟩ := Dp.readsAll I _ _ its (Dp.ints X.K H (n :: ns)) rv
    exact PySem.W.max_tuple_data (I.ok.hd hc) pl hr (alike_ints (n :: ns)) (by rw [show PyData.int n :: ns.map PyData.int = (n :: ns).map PyData.int from rfl, hd]; omega) fun i v h' tk bs _ rd k => best_end I (by rw [PySem.W.maxD_ints] at rd; exact rd) k q
/-- sorted of data -/
def rSrt (K : PySem.W.Frag) : List V → Hp → VK → Prop := fun xs H Q => ∃ p vs ds, xs = [.ref p] ∧ SqL K H p vs ∧ RpL K H ds vs ∧ sortable ds ∧ ∀ q ws, H q = none → RpL K H (sortD ds) ws → Q (.ref q) (upd H q (.lst ws))
def RV (K : PySem.W.Frag) (H : Hp) (u : Value) (d : Dat) : Prop := ∃ v, RelV v u ∧ Rp K H d v
theorem each_of : ∀ {ds : List Dat} {vs : List V} {us : List Value}, RpL K H ds vs → Vals vs us → PySem.W.EachIs (RV K H) us ds
  | [], _, _, h, r => by
    have e : _ = [] := h
    subst e
    cases r
    exact .nil
  | d :: ds, _, _, h, r => by
    obtain ⟨v, t, rfl, h1, h2⟩ := h
    cases r with
    | cons r1 r2 => exact .cons ⟨v, r1, h1⟩ (each_of h2 r2)
theorem of_each : ∀ {ds : List Dat} {us : List Value}, PySem.W.EachIs (RV K H) us ds → ∃ vs, RpL K H ds vs ∧ Vals vs us
  | _, _, .nil => ⟨[], rfl, .nil⟩
  | _, _, .cons ⟨v, h1, h2⟩ t => by
    obtain ⟨vs, g1, g2⟩ := of_each t
    exact ⟨v :: vs, .cons h2 g1, .cons h1 g2⟩
theorem each_reads {X : Cx} {pins : List (Addr × Obj)} {σ : L2.St} {H : Hp} {s : Shared} (I : Inv X pins σ H s) : ∀ {ds : List Dat} {vs : List V} {us : List Value}, RpL X.K H ds vs → Vals vs us → purL ds = true → PySem.W.EachIs (fun v b => ∃ as, Reads s.heap v (toPy b) as) us ds
  | [], _, _, h, r, _ => by
    have e : _ = [] := h
    subst e
    cases r
    exact .nil
  | d :: ds, _, _, h, r, p => by
    obtain ⟨v, t, rfl, h1, h2⟩ := h
    rw [purL, Bool.and_eq_true] at p
    cases r with
    | cons r1 r2 => exact .cons (Dp.reads I _ v _ (Rp.dp d v h1 p.1) r1) (each_reads I h2 r2 p.2)
theorem dep_mem {ds : List Dat} {d : Dat} (h : d ∈ ds) : (toPy d).depth ≤ depL ds := by
  unfold depL
  induction ds with
  | nil => cases h
  | cons a r ih =>
    rw [toPyL, PyData.depthAll]
    rcases List.mem_cons.mp h with e | h
    · subst e; exact Nat.le_max_left _ _
    · exact Nat.le_trans (ih h) (Nat.le_max_right _ _)
theorem leD_eq : PySem.W.dataLe false toPy = leD := by
  rw [PySem.W.dataLe_eq]
  rfl
theorem cr_srt {X : Cx} (hu : X.A.units + 70 < cLine) : CallR X (.builtin "sorted") (rSrt X.K) := by
  intro pins s σ H xs us Q I r h
  obtain ⟨p, vs, ds, rfl, e, rr, ⟨⟨o1, o2⟩, al, so⟩, q⟩ := h
  obtain ⟨u, rfl, rx⟩ := vals1 r
  cases rx
  obtain ⟨its, rv, pl, hz⟩ := I.list e
  have hl : its.length = ds.length := by rw [← rv.length, rr.length]
  rw [toPyL_map] at al so
  refine PySem.W.sorted_data (β := Dat) (enc := toPy) (R := RV X.K H) pl.isList (each_of rr rv) (each_reads I rr rv o1) al so (by rw [← rr.length]; exact hz) (fun b hb => by have := dep_mem hb; omega) fun out ho he => ?_
  rw [leD_eq] at he
  obtain ⟨ws, g1, g2⟩ := of_each he
  obtain ⟨ep, he'⟩ := PyProof.Rows.sortedAll_at s.heap its out.toArray
  have hlen : ws.length ≤ sizeLine := by rw [g2.length, ho, ← rr.length]; exact hz
  exact ⟨.ref _, upd H (s.heap.objs.size + 1) (.lst ws), I.laid (t' := s.toks) (fun _ _ => PyProof.Rows.sortedAll_old) (Nat.le_succ _) ⟨hlen, out, ep, g2, he'⟩, rfl, q _ _ (I.hok.fresh (Nat.le_succ _)) g1⟩

/-- what stands for a list of values -/
def RpXs (K : PySem.W.Frag) (H0 H : Hp) (S : Sto) : List XD → List V → Prop
  | [], vs => vs = []
  | x :: xs, vs => ∃ v r, vs = v :: r ∧ RpX K H0 H S x v ∧ RpXs K H0 H S xs r
theorem leD_int (i j : Int) : leD (.int i) (.int j) = decide (i ≤ j) := by
  have e := PySem.W.dataLe_int (β := Int) fun i => i
  have e2 := congrFun (congrFun e i) j
  rw [PySem.W.dataLe_eq] at e2
  exact e2
theorem sortD_ints (ns : List Int) : sortD (ns.map Dat.int) = (ns.mergeSort fun a b => decide (a ≤ b)).map Dat.int := by
  unfold sortD
  rw [List.map_mergeSort (s := leD)]
  intro a _ b _
  exact (leD_int a b).symm
theorem sort_uniq {ys ns : List Int} (h1 : ys.Perm ns) (h2 : ys.Pairwise (· ≤ ·)) : ys = ns.mergeSort fun a b => decide (a ≤ b) := by
  have p := List.mergeSort_perm ns (fun a b => decide (a ≤ b))
  have s : (ns.mergeSort fun a b => decide (a ≤ b)).Pairwise (· ≤ ·) := by
    have := List.pairwise_mergeSort (le := fun (a b : Int) => decide (a ≤ b)) (fun a b c h h' => by simp at *; omega) (fun a b => by simp; omega) ns
    exact this.imp fun h => by simpa using h
  exact PySem.W.ksm_same (h1.trans p.symm) h2 s
theorem kvInts_of : ∀ {kvs : List (Key × Dat)} {ns : List Int}, kvInts kvs = some ns → kvs.map (·.1) = ns.map Sum.inl
  | [], _, h => by cases h; rfl
  | (.inl i, d) :: r, ns, h => by
    unfold kvInts at h
    cases e : kvInts r with
    | none => rw [e] at h; cases h
    | some m =>
      rw [e] at h
      cases h
      rw [List.map_cons, kvInts_of e] <;> rfl
  | (.inr _, _) :: _, _, h => nomatch h
def isFunB : Blt → Bool
  | .int => false | .str => false | .list => false | .tuple => false | _ => true
def bltId : Blt → String
  | .len => "len" | .abs => "abs" | .int => "int" | .str => "str" | .max => "max" | .min => "min" | .sum => "sum" | .sorted => "sorted"
  | .list => "list" | .tuple => "tuple" | .all => "all" | .any => "any"
def rBlt (K : PySem.W.Frag) : Blt → List V → Hp → VK → Prop
  | .len => fun xs H Q => (∃ x n, xs = [x] ∧ LenV K x H n ∧ Q (.int n) H) ∨ ∃ a kvs, xs = [V.ref a] ∧ H a = some (.dK kvs) ∧ Q (.int kvs.length) H
  | .abs => fun xs H Q => ∃ i, xs = [.int i] ∧ Q (.int (if i < 0 then -i else i)) H
  | .int => fun xs H Q => (∃ i, xs = [.int i] ∧ Q (.int i) H) ∨ ∃ k, xs = [.bl k] ∧ Q (.int (if k then 1 else 0)) H
  | .str => fun xs H Q => ∃ i, xs = [.int i] ∧ i.natAbs.log2 < 1920 ∧ Q (.str (toString i)) H
  | .max => fun xs H Q => (∃ i j, xs = [.int i, .int j] ∧ Q (.int (if j > i then j else i)) H) ∨ rBest K max xs H Q
  | .min => fun xs H Q => (∃ i j, xs = [.int i, .int j] ∧ Q (.int (if j < i then j else i)) H) ∨ rBest K min xs H Q
  | .sum => rSum K
  | .sorted => fun xs H Q => rSrt K xs H Q ∨ ∃ (a : Addr) (kvs : List (Key × V)) (ks : List Int), xs = [.ref a] ∧ Rd H a (.dK kvs) ∧ kvs.map (·.1) = ks.map Sum.inl ∧ ks.length < 64 ∧
      ∀ (ys : List Int) (p : Addr), ys.Perm ks → ys.Pairwise (· ≤ ·) → H p = none → Q (.ref p) (upd H p (.lst (ys.map V.int)))
  | .list => fun xs H Q => ∃ p ys, xs = [.ref p] ∧ (SqL K H p ys ∨ SqT K H p ys) ∧ ∀ l, H l = none → Q (.ref l) (upd H l (.lst ys))
  | .tuple => fun xs H Q => ∃ p ys, xs = [.ref p] ∧ ((SqL K H p ys ∧ ∀ l o, H l = none → o.dict = none → Q (.ref l) (upd H l (nT o ys))) ∨ (SqT K H p ys ∧ Q (.ref p) H))
  | .all => rAll K
  | .any => rAny K
theorem cr_blt {X : Cx} (hc : X.calm = true) (hu : X.A.units + 70 < cLine) (b : Blt) : CallR X (if isFunB b = true then .builtin (bltId b) else .type (bltId b)) (rBlt X.K b) := by
  cases b with
  | len => exact call_len.or call_lenD
  | abs => exact call_abs
  | int => exact call_int1
  | str => exact call_str_int
  | max => exact (call_max2 hc).or (cr_maxA hc (by omega))
  | min => exact (call_min2 hc).or (cr_minA hc (by omega))
  | sum => exact cr_sum hc
  | sorted => exact (cr_srt hu).or (call_sortedDI hc)
  | list => exact call_list_of
  | tuple => exact call_tupleN
  | all => exact cr_all hc
  | any => exact cr_any hc
theorem tup_of {x : XD} {v : V} (r : Rel K S H) (rx : RpX K H0 H S x v) (h : getSq S x fun ds => q (.d (.tup ds)) S) (f : Fin K S H0 H q Q) : rBlt K .tuple [v] H Q := by
  cases x with
  | l ds =>
    obtain ⟨p, ws, rfl, e, rr, _, _⟩ := rx
    exact ⟨p, ws, rfl, .inl ⟨SqL.of e, fun l o hl ho => f.tup r rr h hl ho⟩⟩
  | d d =>
    cases d with
    | tup ds =>
      obtain ⟨p, ws, rfl, e, rr⟩ := rx
      exact ⟨p, ws, rfl, .inr ⟨e.sq, f.same r (d := .tup ds) ⟨p, ws, rfl, e, rr⟩ h⟩⟩
    | ref a =>
      obtain rfl : v = .ref a := rx
      simp only [getSq] at h
      split at h
      · rename_i ds e
        obtain ⟨ws, q1, rr⟩ := r a _ e
        exact ⟨a, ws, rfl, .inl ⟨SqL.of q1, fun l o hl ho => f.tup r rr h hl ho⟩⟩
      · cases h
    | _ => cases h
theorem rBlt_of {b : Blt} {xs : List XD} {vs : List V} (r : Rel K S H) (o : Old H0 H) (rx : RpXs K H0 H S xs vs) (h : opBlt b xs S q) (f : Fin K S H0 H q Q) : rBlt K b vs H Q := by
  have one : ∀ {x : XD}, xs = [x] → ∃ v, vs = [v] ∧ RpX K H0 H S x v := fun {x} e => by
    subst e
    obtain ⟨v, t, rfl, h1, h2⟩ := rx
    have e2 : t = [] := h2
    subst e2
    exact ⟨v, rfl, h1⟩
  have two : ∀ {x y : XD}, xs = [x, y] → ∃ v u, vs = [v, u] ∧ RpX K H0 H S x v ∧ RpX K H0 H S y u := fun {x y} e => by
    subst e
    obtain ⟨v, t, rfl, h1, u, t2, rfl, h2, h3⟩ := rx
    have e2 : t2 = [] := h3
    subst e2
    exact ⟨v, u, rfl, h1, h2⟩
  have best : ∀ {x : XD} {v : V} (g : Int → Int → Int), RpX K H0 H S x v → getSq S x (fun ds => match intsOf ds with | some (n :: ns) => q (.d (.int (ns.foldl g n))) S | _ => False) → rBest K g [v] H Q := fun {x v} g rx h => by
    obtain ⟨p, ws, ds, rfl, e, rr, h⟩ := getSq_of r rx h
    split at h
    · rename_i n ns ei
      have e1 := intsOf_map ei
      subst e1
      have e2 := rr.ints
      subst e2
      exact ⟨p, n, ns, rfl, e, f.int r h⟩
    · cases h
  unfold opBlt at h
  split at h
  · -- len
    obtain ⟨v, rfl, rz⟩ := one rfl
    split at h
    · rename_i z
      obtain rfl : v = .str z := rz
      exact .inl ⟨_, _, rfl, ⟨h.1, rfl⟩, f.int r h.2⟩
    · rename_i a
      obtain rfl : v = .ref a := rz
      split at h
      · rename_i ds e
        obtain ⟨ws, q1, rr⟩ := r a _ e
        exact .inl ⟨_, ds.length, rfl, .inl ⟨ws, SqL.of q1, rr.length.symm⟩, f.int r h⟩
      · rename_i kvs e
        obtain ⟨ws, q1, kr⟩ := r a _ e
        have e3 : ws.length = kvs.length := by
          have := congrArg List.length kr.1
          simpa using this
        refine .inr ⟨a, ws, rfl, q1, ?_⟩
        rw [e3]; exact f.int r h
      · cases h
    · obtain ⟨p, ws, ds, rfl, e, rr, h⟩ := getSq_of r rz h
      exact .inl ⟨_, ds.length, rfl, e.imp (fun e => ⟨ws, e, rr.length.symm⟩) (fun e => ⟨ws, e, rr.length.symm⟩), f.int r h⟩
  · obtain ⟨v, rfl, rz⟩ := one rfl
    obtain ⟨i, rfl, _, h⟩ := getI_of rz h
    exact ⟨i, rfl, f.int r h⟩
  · obtain ⟨v, rfl, rz⟩ := one rfl
    split at h
    · rename_i i
      obtain rfl : v = .int i := rz
      exact .inl ⟨i, rfl, f.int r h⟩
    · rename_i i
      obtain rfl : v = .bl i := rz
      exact .inr ⟨i, rfl, f.int r h⟩
    · cases h
  · obtain ⟨v, rfl, rz⟩ := one rfl
    obtain ⟨i, rfl, _, h⟩ := getI_of rz h
    exact ⟨i, rfl, h.1, f.str r h.2⟩
  · obtain ⟨v, u, rfl, rz, ry⟩ := two rfl
    obtain ⟨i, rfl, _, h⟩ := getI_of rz h
    obtain ⟨j, rfl, _, h⟩ := getI_of ry h
    exact .inl ⟨i, j, rfl, f.int r h⟩
  · obtain ⟨v, u, rfl, rz, ry⟩ := two rfl
    obtain ⟨i, rfl, _, h⟩ := getI_of rz h
    obtain ⟨j, rfl, _, h⟩ := getI_of ry h
    exact .inl ⟨i, j, rfl, f.int r h⟩
  · obtain ⟨v, rfl, rz⟩ := one rfl
    exact .inr (best _ rz h)
  · obtain ⟨v, rfl, rz⟩ := one rfl
    exact .inr (best _ rz h)
  · obtain ⟨v, rfl, rz⟩ := one rfl
    obtain ⟨p, ws, ds, rfl, e, rr, h⟩ := getL_of r rz h
    split at h
    · rename_i ns ei
      have e1 := intsOf_map ei
      subst e1
      have e2 := rr.ints
      subst e2
      exact ⟨p, ns, rfl, SqL.of e, f.int r h⟩
    · cases h
  · -- sorted
    obtain ⟨v, rfl, rz⟩ := one rfl
    split at h
    · rename_i a
      obtain rfl : v = .ref a := rz
      split at h
      · rename_i ds e
        obtain ⟨ws, q1, rr⟩ := r a _ e
        exact .inl ⟨a, ws, ds, rfl, SqL.of q1, rr, h.1, fun p zs hp hz => f.lst r o hz h.2 hp⟩
      · rename_i kvs e
        obtain ⟨ws, q1, kr⟩ := r a _ e
        split at h
        · rename_i ns en
          refine .inr ⟨a, ws, ns, rfl, .inl q1, by rw [kr.1]; exact kvInts_of en, h.1, fun ys p h1 h2 hp => ?_⟩
          have e3 := sort_uniq h1 h2
          have h4 := h.2
          rw [sortD_ints, ← e3] at h4
          exact f.lst r o (RpL.ofInts ys) h4 hp
        · cases h
      · cases h
    · obtain ⟨p, ws, ds, rfl, e, rr, h⟩ := getL_of r rz h
      exact .inl ⟨p, ws, ds, rfl, SqL.of e, rr, h.1, fun p zs hp hz => f.lst r o hz h.2 hp⟩
  · obtain ⟨v, rfl, rz⟩ := one rfl
    obtain ⟨p, ws, ds, rfl, e, rr, h⟩ := getSq_of r rz h
    exact ⟨p, ws, rfl, e, fun l hl => f.lst r o rr h hl⟩
  · obtain ⟨v, rfl, rz⟩ := one rfl
    exact tup_of r rz h f
  · obtain ⟨v, rfl, rz⟩ := one rfl
    obtain ⟨p, ws, ds, rfl, e, rr, h⟩ := getL_of r rz h
    split at h
    · rename_i ns ei
      have e1 := blsOf_map ei
      subst e1
      have e2 := rr.bls
      subst e2
      exact ⟨p, ns, rfl, SqL.of e, f.bl r h⟩
    · cases h
  · obtain ⟨v, rfl, rz⟩ := one rfl
    obtain ⟨p, ws, ds, rfl, e, rr, h⟩ := getL_of r rz h
    split at h
    · rename_i ns ei
      have e1 := blsOf_map ei
      subst e1
      have e2 := rr.bls
      subst e2
      exact ⟨p, ns, rfl, SqL.of e, f.bl r h⟩
    · cases h
  · cases h

/-! ### isinstance -/
def tyId : Ty → String
  | .int => "int" | .bool => "bool" | .str => "str" | .tuple => "tuple" | .list => "list"
theorem kit_all {K : PySem.W.Frag} (t : Ty) : PySem.W.kitOne K (.type "NoneType") (.type (tyId t)) = some false ∧ PySem.W.kitOne K (.type "bool") (.type (tyId t)) = some (t == .bool || t == .int) ∧
    PySem.W.kitOne K (.type "int") (.type (tyId t)) = some (t == .int) ∧ PySem.W.kitOne K (.type "str") (.type (tyId t)) = some (t == .str) ∧ PySem.W.kitOne K (.type "tuple") (.type (tyId t)) = some (t == .tuple) ∧
    PySem.W.kitOne K (.type "list") (.type (tyId t)) = some (t == .list) ∧ PySem.W.kitOne K (.type "dict") (.type (tyId t)) = some false := by
  cases t <;> exact ⟨kit_ty (by decide +kernel), kit_ty (by decide +kernel), kit_ty (by decide +kernel), kit_ty (by decide +kernel), kit_ty (by decide +kernel), kit_ty (by decide +kernel), kit_ty (by decide +kernel)⟩
theorem tyX_tup {p : Addr} {vs : List V} (e : SqN K H p vs) : TyX K H (.ref p) (.type "tuple") := by
  rcases e with ⟨o, e, _⟩ | ⟨o, its, n, e, c, _⟩
  · exact .fTuple e
  · exact .kTuple e c
theorem rIsi_of {t : Ty} {k : Bool → Prop} (r : Rel K S H) (rx : RpX K H0 H S x v) (h : isTy t x S k) (f : ∀ b, k b → Q (.bl b) H) : rIsi K [v, .ty (tyId t)] H Q := by
  obtain ⟨k1, k2, k3, k4, k5, k6, k7⟩ := kit_all (K := K) t
  cases x with
  | l ds =>
    obtain ⟨p, vs, rfl, e, _⟩ := rx
    exact ⟨_, _, _, _, _, rfl, .ty _, .base (.lst e), k6, f _ h⟩
  | d d =>
    cases d with
    | non => obtain rfl : v = .non := rx; exact ⟨_, _, _, _, _, rfl, .ty _, .base .non, k1, f _ h⟩
    | bl b => obtain rfl : v = .bl b := rx; exact ⟨_, _, _, _, _, rfl, .ty _, .base (.bl b), k2, f _ h⟩
    | int b => obtain rfl : v = .int b := rx; exact ⟨_, _, _, _, _, rfl, .ty _, .base (.int b), k3, f _ h⟩
    | str b => obtain rfl : v = .str b := rx; exact ⟨_, _, _, _, _, rfl, .ty _, .base (.str b), k4, f _ h⟩
    | tup b => obtain ⟨p, vs, rfl, e, rr⟩ := rx; exact ⟨_, _, _, _, _, rfl, .ty _, tyX_tup e, k5, f _ h⟩
    | ref a =>
      obtain rfl : v = .ref a := rx
      simp only [isTy] at h
      split at h
      · rename_i ds e
        obtain ⟨ws, q1, rr⟩ := r a _ e
        exact ⟨_, _, _, _, _, rfl, .ty _, .base (.lst q1), k6, f _ h⟩
      · rename_i kvs e
        obtain ⟨ws, q1, kr⟩ := r a _ e
        exact ⟨_, _, _, _, _, rfl, .ty _, .base (.dK q1), k7, f _ h⟩
      · cases h
    | ty b => cases h
    | scr b => cases h

/-! ### methods -/
/-- what a method's place must be -/
def MSel (X : Cx) (name : Str) (H : Hp) (x : V) (r : V → List V → Hp → VK → Prop) : Prop := ∃ T id, PlainAttrs T ∧ Slot T name id ∧ typeOf (.builtin id) = pure (.type "method_descriptor") ∧
  (∀ (pins : List (Addr × Obj)) (s : Shared) (σ : L2.St) (v : Value), Inv X pins σ H s → RelV x v → s.TypeIs v T ∧ ∀ a, v = .ref a → ∃ ob, s.heap.get? a = some ob ∧ ob.dict = none) ∧ MtR X id r
def tMt (X : Cx) (name : Str) (to : TE) (t : TA) : TE := fun σ H Q => to σ H fun x H1 => ∃ r, MSel X name H1 x r ∧ t σ H1 fun xs H2 => r x xs H2 Q
theorem pe_mt {X : Cx} {o e : Expr} {es : List Expr} {to : TE} {t : TA} {name : Str} {apos cpos : Pos} (ho : PE X o to) (ha : PA X (e :: es) t)
    (hbase : attributeBase o name X.env (eval o X.env) = eval o X.env)
    (hfew : ((backTo cpos (starEach (e :: es) X.env)).all (fun x => !x.1) && (backToKw cpos (keywordEach [] X.env)).all (fun x => x.1.isSome)
      && decide ((e :: es).length + ([] : List Keyword).length + (if ([] : List Keyword).isEmpty then 0 else 1) < 30)) = true)
    (hline : (apos.endLine == cpos.line) = true) (hs : starEach (e :: es) X.env = (false, eval e X.env) :: starEach es X.env) (hplain : (backTo cpos (starEach es X.env)).any (·.1) = false) :
    PE X (.Call (.Attribute o name apos) (e :: es) [] cpos) (tMt X name to t) := by
  refine ⟨fun pins s σ H Q I h => ?_⟩
  refine wpAny_Call_method_late hbase hfew hline rfl (thn (ho.run pins s σ H _ I h) fun v s1 ⟨x, H1, I1, r1, r, ⟨T, id, pa, slot, hty, sel, hm⟩, q1⟩ => ?_)
  obtain ⟨h1, h2⟩ := sel pins s1 σ v I1 r1
  refine ⟨T, id, pa, slot, hty, h1, h2, ?_⟩
  have hA := ha.run cpos pins s1 σ H1 _ I1 q1
  rw [hs] at hA ⊢
  refine Calls.callWith_builtin (by show (false || (backTo cpos (starEach es X.env)).any (·.1)) = false; rw [hplain] <;> rfl) (Calls.evalArgs_plain ?_)
  exact thn hA fun us s2 ⟨vs, H2, I2, r2, q2⟩ => hm pins s2 σ H2 x vs v us Q I2 r1 r2 q2
theorem pe_mt0 {X : Cx} {o : Expr} {to : TE} {name : Str} {apos cpos : Pos} (ho : PE X o to) (hbase : attributeBase o name X.env (eval o X.env) = eval o X.env) (hline : (apos.endLine == cpos.line) = true) :
    PE X (.Call (.Attribute o name apos) [] [] cpos) (tMt X name to tNil) := by
  refine ⟨fun pins s σ H Q I h => ?_⟩
  refine wpAny_Call_method0_late hbase hline (thn (ho.run pins s σ H _ I h) fun v s1 ⟨x, H1, I1, r1, r, ⟨T, id, pa, slot, hty, sel, hm⟩, q1⟩ => ?_)
  obtain ⟨h1, h2⟩ := sel pins s1 σ v I1 r1
  exact ⟨T, id, pa, slot, hty, h1, h2, Calls.callWith_builtin rfl (PySem.evalArgs_none (hm pins s1 σ H1 x [] v [] Q I1 r1 .nil q1))⟩
theorem sel_list {X : Cx} {name : Str} {id : String} {p : Addr} {vs : List V} {r : V → List V → Hp → VK → Prop} (e : SqL X.K H p vs) (slot : Slot "list" name id) (ty : typeOf (.builtin id) = pure (.type "method_descriptor")) (m : MtR X id r) : MSel X name H (.ref p) r :=
  ⟨"list", id, PySem.F.plainAttrs_list, slot, ty, fun pins s σ v I rv => tyV_is I rv (.inl ⟨rfl, vs, e⟩), m⟩
theorem sel_tup {X : Cx} {name : Str} {id : String} {p : Addr} {vs : List V} {r : V → List V → Hp → VK → Prop} (e : SqN X.K H p vs) (slot : Slot "tuple" name id) (ty : typeOf (.builtin id) = pure (.type "method_descriptor")) (m : MtR X id r) : MSel X name H (.ref p) r :=
  ⟨"tuple", id, PySem.F.plainAttrs_tuple, slot, ty, fun pins s σ v I rv => by
    cases rv
    obtain ⟨its, _, pl, _⟩ := I.tuple e.sq
    refine ⟨Heap.IsTuple.typeIs (show s.heap.IsTuple p its.toArray from pl), fun a z => ?_⟩
    cases z
    rcases e with ⟨o, e, d⟩ | ⟨o, its, n, e, _, d, _⟩
    · obtain ⟨e1, _⟩ := I.hok _ _ e
      exact ⟨o, e1, d⟩
    · exact ⟨o, I.kIn _ _ e, d⟩, m⟩
def rRemD (K : PySem.W.Frag) : V → List V → Hp → VK → Prop := fun x xs H Q => ∃ l vs ds d v0 j, x = .ref l ∧ xs = [v0] ∧ H l = some (.lst vs) ∧ RpL K H ds vs ∧ Rp K H d v0 ∧ okD d ∧ okDL ds ∧ ds.findIdx? (fun z => eqD z d) = some j ∧ Q .non (upd H l (.lst (vs.eraseIdx j)))
theorem place_of (ds : List Dat) (d : Dat) : SeqAt.dataPlace (toPyL ds) (toPy d) = ds.findIdx? (fun z => eqD z d) := by
  unfold SeqAt.dataPlace
  rw [toPyL_map, List.findIdx?_map]
  rfl
theorem mt_removeD {X : Cx} (hu : X.A.units + 64 < cLine) : MtR X "list.remove" (rRemD X.K) := by
  intro pins s σ H x xs v us Q I rx rxs h
  obtain ⟨l, vs, ds, d, v0, j, rfl, rfl, hH, rr, rd, o1, o2, hj, q⟩ := h
  cases rx
  obtain ⟨u, rfl, ru⟩ := rxs.one
  obtain ⟨z, its, n, r, hl, e⟩ := I.lstM hH
  obtain ⟨as, hr⟩ := Dp.readsAll I _ _ its (RpL.dp ds vs rr o2.1) r
  obtain ⟨bs, hx⟩ := Dp.reads I _ v0 u (Rp.dp d v0 rd o1.1) ru
  refine SeqAt.remove_list_data (j := j) (vs := its.toArray) ⟨_, e, rfl, _, rfl⟩ hr hx (toPyL_plain ds) (toPy_plain d) (by have := o1.2; unfold dep at this; have := Nat.min_le_right (PyData.depthAll (toPyL ds)) (toPy d).depth; omega) (by rw [place_of]; exact hj) (by rw [List.size_toArray, ← hl]; exact z) ?_
  refine ⟨.non, _, I.lset (its' := its.eraseIdx j) (t' := s.toks) hH e ?_ (r.eraseIdx j) ?_, rfl, q⟩
  · show its.toArray.eraseIdxIfInBounds j = (its.eraseIdx j).toArray
    rw [List.eraseIdxIfInBounds_toArray]
  · have := len_erase vs j
    omega
def rCntD (K : PySem.W.Frag) (tu : Bool) : V → List V → Hp → VK → Prop := fun x xs H Q => ∃ l vs ds d v0, x = .ref l ∧ xs = [v0] ∧ (if tu then SqT K H l vs else SqL K H l vs) ∧ RpL K H ds vs ∧ Rp K H d v0 ∧ okD d ∧ okDL ds ∧ Q (.int (ds.countP fun z => eqD z d)) H
theorem count_of (ds : List Dat) (d : Dat) : ((toPyL ds).countP fun y => PyData.eqv y (toPy d)) = ds.countP fun z => eqD z d := by
  rw [toPyL_map, List.countP_map]
  rfl
theorem mt_countL {X : Cx} (hu : X.A.units + 64 < cLine) : MtR X "list.count" (rCntD X.K false) := by
  intro pins s σ H x xs v us Q I rx rxs h
  obtain ⟨l, vs, ds, d, v0, rfl, rfl, hH, rr, rd, o1, o2, q⟩ := h
  cases rx
  obtain ⟨u, rfl, ru⟩ := rxs.one
  obtain ⟨its, r, pl, z⟩ := I.list (show SqL X.K H l vs from hH)
  obtain ⟨as, hr⟩ := Dp.readsAll I _ _ its (RpL.dp ds vs rr o2.1) r
  obtain ⟨bs, hx⟩ := Dp.reads I _ v0 u (Rp.dp d v0 rd o1.1) ru
  refine SeqAt.count_list_data pl.isList hr hx (toPyL_plain ds) (toPy_plain d) (by have := o1.2; unfold dep at this; have := Nat.min_le_right (PyData.depthAll (toPyL ds)) (toPy d).depth; omega) ?_
  exact ⟨.int _, H, I.tok _, ⟨s.toks, by rw [count_of]⟩, q⟩
theorem mt_countT {X : Cx} (hu : X.A.units + 64 < cLine) : MtR X "tuple.count" (rCntD X.K true) := by
  intro pins s σ H x xs v us Q I rx rxs h
  obtain ⟨l, vs, ds, d, v0, rfl, rfl, hH, rr, rd, o1, o2, q⟩ := h
  cases rx
  obtain ⟨u, rfl, ru⟩ := rxs.one
  obtain ⟨its, r, pl, z⟩ := I.tuple (show SqT X.K H l vs from hH)
  obtain ⟨as, hr⟩ := Dp.readsAll I _ _ its (RpL.dp ds vs rr o2.1) r
  obtain ⟨bs, hx⟩ := Dp.reads I _ v0 u (Rp.dp d v0 rd o1.1) ru
  refine SeqAt.count_tuple_data pl hr hx (toPyL_plain ds) (toPy_plain d) (by have := o1.2; unfold dep at this; have := Nat.min_le_right (PyData.depthAll (toPyL ds)) (toPy d).depth; omega) ?_
  exact ⟨.int _, H, I.tok _, ⟨s.toks, by rw [count_of]⟩, q⟩
theorem Rel.any (r : Rel K S H) {a : Addr} {ds : List Dat} (e : S a = some (.lst ds)) : ∃ vs, H a = some (.lst vs) ∧ RpL K H ds vs := r a _ e
end
end DL
/-! The data layer, part 6: expressions are sound. -/
namespace DL
open PySem PySem.Spec PyProof.Rows L2

/-! ### judgements -/
def XRep (K : PySem.W.Frag) (H : Hp) (cls : Value) (d : Option Addr) (x : Exn) : Prop :=
  cls = .ref x.cls ∧ (match d with | none => x.fs = [] | some a => ∃ vs, H a = some (.xd vs) ∧ KR K H x.fs vs)
def WXd (K : PySem.W.Frag) (B : Sto) (HB : Hp) (Er : QE) : WX := fun cls d σ H => ∃ δ S x, RpS K H δ σ ∧ Rel K S H ∧ Fr B HB S H ∧ XRep K H cls d x ∧ Er x δ S
def TEo (K : PySem.W.Frag) (B : Sto) (HB : Hp) (w : SD → Sto → QX → Prop) : TE := fun σ H Q => ∃ δ S q, RpS K H δ σ ∧ Rel K S H ∧ Fr B HB S H ∧ w δ S q ∧ Fin K S H H q Q
def TTo (K : PySem.W.Frag) (B : Sto) (HB : Hp) (w : SD → Sto → QX → Prop) : TT := fun σ H Q => ∃ δ S q, RpS K H δ σ ∧ Rel K S H ∧ Fr B HB S H ∧ w δ S q ∧ ∀ v H' x S', Rel K S' H' → RpX K H H' S' x v → Fr S H S' H' → q x S' → ∃ b, TruV K v H' b ∧ Q b H'
def TCo (K : PySem.W.Frag) (B : Sto) (HB : Hp) (w : SD → Sto → (Bool → Sto → Prop) → Prop) : TT := fun σ H Q => ∃ δ S k, RpS K H δ σ ∧ Rel K S H ∧ Fr B HB S H ∧ w δ S k ∧ ∀ b H' S', Rel K S' H' → Fr S H S' H' → k b S' → Q b H'
def TAo (K : PySem.W.Frag) (B : Sto) (HB : Hp) (w : SD → Sto → (List Dat → Sto → Prop) → Prop) : TA := fun σ H R => ∃ δ S k, RpS K H δ σ ∧ Rel K S H ∧ Fr B HB S H ∧ w δ S k ∧ ∀ vs H' ds S', Rel K S' H' → RpL K H' ds vs → Fr S H S' H' → k ds S' → R vs H'
def TXo (K : PySem.W.Frag) (B : Sto) (HB : Hp) (w : SD → Sto → (List XD → Sto → Prop) → Prop) : TA := fun σ H R => ∃ δ S k, RpS K H δ σ ∧ Rel K S H ∧ Fr B HB S H ∧ w δ S k ∧ ∀ vs H' xs S', Rel K S' H' → RpXs K H H' S' xs vs → Fr S H S' H' → k xs S' → R vs H'
def TOo (K : PySem.W.Frag) (B : Sto) (HB : Hp) (w : SD → Sto → (Option Int → Sto → Prop) → Prop) : TO := fun σ H R => ∃ δ S k, RpS K H δ σ ∧ Rel K S H ∧ Fr B HB S H ∧ w δ S k ∧ ∀ o H' S', Rel K S' H' → Fr S H S' H' → k o S' → R o H'

def SpOf (K : PySem.W.Frag) (sp : DSp) : Sp := fun vs H Q E => ∃ ds S q e, Rel K S H ∧ RpL K H ds vs ∧ sp ds S q e ∧ Fin K S H H q Q ∧ ∀ cls d H' x S', Rel K S' H' → XRep K H' cls d x → Fr S H S' H' → e x S' → E cls d H'
/-- the def of that name keeps its promise, and there is room for its call -/
def CallOkF (P : Program) (w : World) (K : PySem.W.Frag) (mg : Str → Option Value) (base : Heap) (A : Around) (f : Str) (sp : DSp) : Prop :=
  ∃ (a : Addr) (fd : FuncData) (ps : List Str) (k : Nat), FnOk P w K mg base (L2.CX P w) k a fd ps (SpOf K sp) ∧ Room k A ∧ mg f = some (.ref a) ∧ PySem.W.keepIn K (.ref a) = true ∧ Binds K fd ps []
abbrev CallOk (X : Cx) : Str → DSp → Prop := CallOkF X.prog X.w X.K X.mg X.base X.A
def GlobOkF (K : PySem.W.Frag) (mg : Str → Option Value) (x : Str) (d : Dat) : Prop := ∃ u v, mg x = some u ∧ RelV v u ∧ ∀ H, Rp K H d v
abbrev GlobOk (X : Cx) : Str → Dat → Prop := GlobOkF X.K X.mg
def bltNames : List Str := ["len", "abs", "int", "str", "max", "min", "sum", "sorted", "list", "tuple", "all", "any", "isinstance", "range", "enumerate", "zip", "bool"]
structure Good (X : Cx) (c : Sc) (B : Sto) (HB : Hp) (Er : QE) : Prop where
  hN : X.N = c.N
  nd : c.N.Nodup
  sc : X.env.scope = c.sc
  fn : X.fn = c.fn
  calm : X.calm = true
  room : X.A.units + 200 < cLine
  blt : ∀ x ∈ bltNames, X.mg x = none
  tk : Takes X (WXd X.K B HB Er)

section
variable {K : PySem.W.Frag} {B : Sto} {HB : Hp} {S S1 S2 : Sto} {H H1 H2 : Hp} {δ : SD} {σ : L2.St} {Q : VK} {q : QX}

theorem Fin.go {H0 : Hp} (f : Fin K S H0 H q Q) (k : Fr S H S1 H1) : Fin K S1 H0 H1 q Q := fun v' H' z S' r rx g h => f v' H' z S' r rx (k.trans g) h
theorem Fin.at (f : Fin K S H H q Q) (k : Fr S H S1 H1) : Fin K S1 H1 H1 q Q := fun v' H' z S' r rx g h => f v' H' z S' r (rx.base k.dom) (k.trans g) h
/-- one after another -/
theorem te2 {wa wb : SD → Sto → QX → Prop} {k : XD → XD → Sto → Prop} {R : V → V → Hp → Prop} (hσ : RpS K H δ σ) (hS : Rel K S H) (hB : Fr B HB S H) (h : wa δ S fun x S1 => wb δ S1 fun y S2 => k x y S2)
    (fin : ∀ v u H2 x y S2, Rel K S2 H2 → RpX K H H2 S2 x v → RpX K H H2 S2 y u → Fr S H S2 H2 → k x y S2 → R v u H2) : TEo K B HB wa σ H fun v H1 => TEo K B HB wb σ H1 fun u H2 => R v u H2 :=
  ⟨δ, S, _, hσ, hS, hB, h, fun v H1 x S1 r1 rx f1 h1 => ⟨δ, S1, _, hσ.keep (TK.of_fr hS f1), r1, hB.trans f1, h1, fun u H2 y S2 r2 ry f2 h2 =>
    fin v u H2 x y S2 r2 (rx.keep r1 f2) (ry.base f1.dom) (f1.trans f2) h2⟩⟩
theorem te1 {wa : SD → Sto → QX → Prop} {k : XD → Sto → Prop} {R : V → Hp → Prop} (hσ : RpS K H δ σ) (hS : Rel K S H) (hB : Fr B HB S H) (h : wa δ S k)
    (fin : ∀ v H1 x S1, Rel K S1 H1 → RpX K H H1 S1 x v → Fr S H S1 H1 → k x S1 → R v H1) : TEo K B HB wa σ H R :=
  ⟨δ, S, k, hσ, hS, hB, h, fin⟩
theorem settle_of {x : XD} {v : V} {H0 : Hp} {k : Dat → Sto → Prop} (r : Rel K S H) (rx : RpX K H0 H S x v) (h : settle x S k) :
    ∃ d S', Rel K S' H ∧ Rp K H d v ∧ k d S' ∧ (∀ b, S' b = none → S b = none) ∧ ∀ Sb Hb, Fr Sb Hb S H → (∀ a, H0 a = none → Hb a = none) → Fr Sb Hb S' H := by
  cases x with
  | d d => exact ⟨d, S, r, rx, h, fun _ z => z, fun _ _ f _ => f⟩
  | l ds =>
    obtain ⟨p, vs, rfl, e, rr, n, z⟩ := rx
    refine ⟨.ref p, _, r.learn e rr, rfl, h p n, fun b q => ?_, fun Sb Hb f g => f.learn (g p z)⟩
    by_cases hb : b = p
    · subst hb; exact n
    · rw [supd_ne hb] at q; exact q
theorem Good.gl {X : Cx} {c : Sc} {Er : QE} (g : Good X c B HB Er) {x : Str} (h : glB c.sc x = true) : Gl X x := by
  show X.env.scope.names.lookup x = _
  rw [g.sc]
  unfold glB at h
  split at h
  · assumption
  · cases h
theorem Good.vis {X : Cx} {c : Sc} {Er : QE} (g : Good X c B HB Er) {x : Str} (h : visB c.sc x = true) : Vis X.env.scope x := by
  unfold Vis
  rw [g.sc]
  unfold visB at h
  split at h
  · exact .inl (by assumption)
  · exact .inr (.inl (by assumption))
  · exact .inr (.inr (by assumption))
  · cases h
theorem Good.loc {X : Cx} {c : Sc} {Er : QE} (g : Good X c B HB Er) {x : Str} (h : locB c x = true) : L2.Loc X.env.scope x ∧ (X.fn x = true ∨ X.env.scope.names.lookup x = some .local) := by
  unfold L2.Loc
  rw [g.sc, g.fn]
  unfold locB at h
  split at h
  · exact ⟨.inl (by assumption), .inr (by assumption)⟩
  · exact ⟨.inr (by assumption), .inl h⟩
  · cases h
end

/-! ### forms of expressions -/
theorem star_plain {e : Expr} {es : List Expr} {env : Env} (h : plainE e = true) : starEach (e :: es) env = (false, eval e env) :: starEach es env := by
  cases e <;> first | rfl | exact absurd h Bool.false_ne_true
theorem plain_sub {b : Expr} (h : plainE b = true) : ∀ o i, subscripted b false o i = operate [o, i] (getItem o i) := by
  intro o i
  cases b <;> first | rfl | exact absurd h Bool.false_ne_true
theorem plain_mark {b : Expr} {op : CmpOp} (h : plainE b = true) : behindInMarks op b = false := by
  cases b <;> first | rfl | exact absurd h Bool.false_ne_true
theorem plain_fold {e : Expr} {env : Env} (h : plainE e = true) : ∀ x, foldedSetIterable e env x = pure x := by
  intro x
  cases e <;> first | rfl | exact absurd h Bool.false_ne_true
theorem nosup_base {o : Expr} {name : Str} {env : Env} (h : noSup o = true) : attributeBase o name env (eval o env) = eval o env := by
  cases o with
  | Call f args kws pos =>
    cases f with
    | Name id p =>
      cases args with
      | nil =>
        cases kws with
        | nil => exact absurd h Bool.false_ne_true
        | cons _ _ => rfl
      | cons _ _ => rfl
    | _ => rfl
  | _ => rfl
def allPlain (es : List Expr) : Bool := es.all plainE
theorem star_any {env : Env} {pos : Pos} : ∀ {es : List Expr}, allPlain es = true → (backTo pos (starEach es env)).any (·.1) = false
  | [], _ => rfl
  | e :: es, h => by
    unfold allPlain at h
    rw [List.all_cons, Bool.and_eq_true] at h
    rw [star_plain h.1]
    show (false || (backTo pos (starEach es env)).any (·.1)) = false
    rw [star_any (es := es) h.2]; rfl
theorem star_all {env : Env} {pos : Pos} : ∀ {es : List Expr}, allPlain es = true → (backTo pos (starEach es env)).all (fun x => !x.1) = true
  | [], _ => rfl
  | e :: es, h => by
    unfold allPlain at h
    rw [List.all_cons, Bool.and_eq_true] at h
    rw [star_plain h.1]
    show (true && (backTo pos (starEach es env)).all (fun x => !x.1)) = true
    rw [star_all (es := es) h.2]; rfl
theorem ckEs_plain : ∀ {es : Es} {c : Sc} {xs : List Expr}, ckEs es c xs = true → allPlain xs = true
  | .nil, c, xs, h => by
    unfold ckEs at h
    cases xs with
    | nil => rfl
    | cons _ _ => cases h
  | .cons e es, c, xs, h => by
    unfold ckEs at h
    cases xs with
    | nil => cases h
    | cons x xs =>
      simp only [Bool.and_eq_true] at h
      show (plainE x && allPlain xs) = true
      rw [h.1.1, ckEs_plain h.2]; rfl
end DL
/-! The data layer, part 7: walks (iterators) and targets. -/
namespace DL
open PySem PySem.Spec PyProof.Rows L2

section
variable {K : PySem.W.Frag} {B : Sto} {HB : Hp} {S S1 S2 : Sto} {H H1 H2 : Hp} {δ : SD} {σ : L2.St} {Q : VK} {q : QX}

/-! ### targets -/
mutual
def lenTs : Tgs → Nat
  | .nil => 0
  | .cons _ r => lenTs r + 1
end
mutual
def gT (K : PySem.W.Frag) : Tg → TG
  | .n i => gName i
  | .t ts => gTup K (lenTs ts) (gTs K ts)
def gTs (K : PySem.W.Frag) : Tgs → TGs
  | .nil => gNil
  | .cons t r => gCons (gT K t) (gTs K r)
end
def noStar : Expr → Bool
  | .Starred _ _ => false
  | _ => true
theorem ckT_noStar {c : Sc} {t : Tg} {e : Expr} (h : ckT c t e = true) : noStar e = true := by
  cases t with
  | n i => unfold ckT at h; split at h <;> first | rfl | cases h
  | t ts => unfold ckT at h; split at h <;> first | rfl | cases h
theorem each_star {e : Expr} {es : List Expr} {env : Env} (h : noStar e = true) : assignEach (e :: es) env = (false, assign e env) :: assignEach es env := by
  cases e <;> first | rfl | exact absurd h Bool.false_ne_true
theorem ckTs_each {c : Sc} {env : Env} : ∀ {ts : Tgs} {es : List Expr}, ckTs c ts es = true → (assignEach es env).length = lenTs ts ∧ (assignEach es env).findIdx? (·.1) = none
  | .nil, es, h => by
    unfold ckTs at h
    cases es with
    | nil => exact ⟨rfl, rfl⟩
    | cons _ _ => cases h
  | .cons t r, es, h => by
    unfold ckTs at h
    cases es with
    | nil => cases h
    | cons e es =>
      simp only [Bool.and_eq_true] at h
      have ih := ckTs_each (env := env) h.2
      rw [each_star (ckT_noStar h.1)]
      refine ⟨?_, ?_⟩
      · rw [List.length_cons, ih.1]; rfl
      · rw [List.findIdx?_cons]
        show Option.map _ (List.findIdx? _ _) = none
        rw [ih.2]; rfl
mutual
theorem sT {X : Cx} {c : Sc} {B : Sto} {HB : Hp} {Er : QE} (g : Good X c B HB Er) : ∀ (t : Tg) (e : Expr), ckT c t e = true → PG X e (gT X.K t)
  | .n i, e, h => by
    unfold ckT at h
    split at h
    · rename_i x p
      simp only [Bool.and_eq_true, decide_eq_true_eq] at h
      obtain ⟨h1, h2⟩ := g.loc h.2
      exact pg_name (by rw [g.hN]; exact g.nd) (by rw [g.hN]; exact h.1) h1 h2
    · cases h
  | .t ts, e, h => by
    unfold ckT at h
    split at h
    · rename_i es k p
      obtain ⟨h1, h2⟩ := ckTs_each (env := X.env) h
      exact pg_tup (n := lenTs ts) g.calm (sTs g ts es h) h1 h2
    · cases h
theorem sTs {X : Cx} {c : Sc} {B : Sto} {HB : Hp} {Er : QE} (g : Good X c B HB Er) : ∀ (ts : Tgs) (es : List Expr), ckTs c ts es = true → PGs X es (gTs X.K ts)
  | .nil, es, h => by
    unfold ckTs at h
    cases es with
    | nil => exact pgs_nil
    | cons _ _ => cases h
  | .cons t r, es, h => by
    unfold ckTs at h
    cases es with
    | nil => cases h
    | cons e es =>
      simp only [Bool.and_eq_true] at h
      refine pgs_cons (sT g t e h.1) (sTs g r es h.2) ?_
      rw [each_star (ckT_noStar h.1)] <;> rfl
end
mutual
/-- a datum bound to a target -/
theorem bind_of {H : Hp} {R : L2.St → Hp → Prop} : ∀ (t : Tg) {d : Dat} {v : V} {δ : SD} {σ : L2.St} {k : SD → Prop}, RpS K H δ σ → Rp K H d v → bindTg t d δ k → (∀ δ' σ', RpS K H δ' σ' → k δ' → (∀ vs : List Nat, (∀ i ∈ slotsT t, i ∈ vs) → wipe σ' vs = wipe σ vs) → R σ' H) → gT K t v σ H R
  | .n i, d, v, δ, σ, k, hσ, rd, h, f => f _ _ (hσ.set rd i) h fun vs hv => by
    have hi : i ∈ vs := hv i (by simp [slotsT])
    clear hv h f
    induction vs with
    | nil => cases hi
    | cons a r ih =>
      unfold wipe
      by_cases e : i = a
      · subst e
        by_cases hr : i ∈ r
        · rw [ih hr]
        · have out : ∀ (σ : L2.St) (l : List Nat) (x : Option V), i ∉ l → wipe (σ.set i x) l = (wipe σ l).set i x := by
            intro σ l x hl
            induction l with
            | nil => rfl
            | cons b l ih2 =>
              unfold wipe
              rw [ih2 (fun z => hl (List.mem_cons_of_mem _ z)), List.set_comm]
              intro z; exact hl (by rw [z]; exact List.mem_cons_self)
          rw [out σ r _ hr, List.set_set]
      · rw [ih ((List.mem_cons.mp hi).resolve_left e)]
  | .t ts, d, v, δ, σ, k, hσ, rd, h, f => by
    unfold bindTg at h
    split at h
    · rename_i ds
      obtain ⟨p, vs, rfl, e, rr⟩ := rd
      have hl : vs.length = lenTs ts := (rr.length).trans (bindTgs_len ts h)
      exact ⟨p, vs, rfl, e.sq, hl, binds_of ts hσ rr h fun δ' σ' a b c => f δ' σ' a b c⟩
    · cases h
theorem bindTgs_len : ∀ (ts : Tgs) {ds : List Dat} {δ : SD} {k : SD → Prop}, bindTgs ts ds δ k → ds.length = lenTs ts
  | .nil, ds, δ, k, h => by
    unfold bindTgs at h
    split at h
    · rfl
    · cases h
  | .cons t r, ds, δ, k, h => by
    unfold bindTgs at h
    split at h
    · rename_i d es
      obtain ⟨δ', h'⟩ := bindTg_some t h
      rw [List.length_cons, bindTgs_len r h']; rfl
    · cases h
theorem bindTg_some : ∀ (t : Tg) {d : Dat} {δ : SD} {k : SD → Prop}, bindTg t d δ k → ∃ δ', k δ'
  | .n i, d, δ, k, h => ⟨_, h⟩
  | .t ts, d, δ, k, h => by
    unfold bindTg at h
    split at h
    · exact bindTgs_some ts h
    · cases h
theorem bindTgs_some : ∀ (ts : Tgs) {ds : List Dat} {δ : SD} {k : SD → Prop}, bindTgs ts ds δ k → ∃ δ', k δ'
  | .nil, ds, δ, k, h => by
    unfold bindTgs at h
    split at h
    · exact ⟨_, h⟩
    · cases h
  | .cons t r, ds, δ, k, h => by
    unfold bindTgs at h
    split at h
    · obtain ⟨δ', h'⟩ := bindTg_some t h
      exact bindTgs_some r h'
    · cases h
theorem binds_of {H : Hp} {R : L2.St → Hp → Prop} : ∀ (ts : Tgs) {ds : List Dat} {vs : List V} {δ : SD} {σ : L2.St} {k : SD → Prop}, RpS K H δ σ → RpL K H ds vs → bindTgs ts ds δ k → (∀ δ' σ', RpS K H δ' σ' → k δ' → (∀ vs : List Nat, (∀ i ∈ slotsTs ts, i ∈ vs) → wipe σ' vs = wipe σ vs) → R σ' H) → gTs K ts vs σ H R
  | .nil, ds, vs, δ, σ, k, hσ, rr, h, f => by
    unfold bindTgs at h
    split at h
    · exact ⟨rr, f _ _ hσ h fun _ _ => rfl⟩
    · cases h
  | .cons t r, ds, vs, δ, σ, k, hσ, rr, h, f => by
    unfold bindTgs at h
    split at h
    · rename_i d es
      obtain ⟨v, ws, rfl, h1, h2⟩ := rr
      refine ⟨v, ws, rfl, bind_of t hσ h1 h fun δ' σ' a b c => binds_of r a h2 b fun δ2 σ2 a2 b2 c2 => f δ2 σ2 a2 b2 fun vs hv => ?_⟩
      rw [c2 vs fun i hi => hv i (by simp [slotsTs, hi]), c vs fun i hi => hv i (by simp [slotsTs, hi])]
    · cases h
end
end
end DL
/-! The data layer, part 8: walks. -/
namespace PySem
open Sem (wp)
set_option maxHeartbeats 1000000 in
theorem meets_enumerate_new1 {v : Value} {o : Obj} {H : Heap → Prop} (B : Begins v o H) :
    Meets (Builtin.«enumerate.__new__» ⟨[.type "enumerate", v], []⟩) (fun _ R s => H s.heap ∧
      R (.ok (.ret (.ref (s.heap.push o).objs.size))) { s with heap := (s.heap.push o).push { cls := .type "enumerate", data := .fields #[.none, .bool false, .ref s.heap.objs.size, rawInt 0, .none, .none] } }) :=
  .of_wp fun prog w A R s h => by
    obtain ⟨hp, g, d, tk, os⟩ := s; obtain ⟨h1, h⟩ := h
    have hsub := sub_enumerate
    have q1 : ∀ {A' : Around} {E : Value → Shared → Prop} {Q : Value → Shared → Prop}, Q (.ref hp.objs.size) ⟨hp.push o, g, d, tk, os⟩ → wpAny (model prog w) A' (pyIter v) Q E ⟨hp, g, d, tk, os⟩ :=
      fun q => B.iter prog w _ _ ⟨hp, g, d, tk, os⟩ _ h1 q
    wp_walk using q1
    refine wpAny_stack_any fun st => wpAny_pure ?_
    split
    · rename_i c _ _ _ _ _
      cases (c == Value.type "enumerate")
      · wp_walk using q1
        exact ⟨_, rfl, h⟩
      · wp_walk using q1
        exact ⟨_, rfl, h⟩
    · wp_walk using q1
      exact ⟨_, rfl, h⟩
theorem enum_begins1 {prog : Program} {w : World} {A : Around} {E : Value → Shared → Prop} {s : Shared} {v : Value} {o : Obj} {H : Heap → Prop} {Q : Value → Shared → Prop} (B : Begins v o H) (h1 : H s.heap)
    (h : ∀ h', IsEnum h' (s.heap.objs.size + 1) s.heap.objs.size 0 .none → h'.get? s.heap.objs.size = some o → h'.objs.size = s.heap.objs.size + 2 →
      (∀ b o, s.heap.get? b = some o → h'.get? b = some o) → Q (.ref (s.heap.objs.size + 1)) { s with heap := h' }) :
    wpAny (model prog w) A (call (.type "enumerate") [v]) Q E s := by
  refine callType_new F.called_enumerate (by decide) (F.typeCall_enumerate_1 _) (F.newCall_enumerate_1 _) (fun obj => F.args_object_init_2 obj _) F.entry_enumerate_new
    (meets_enumerate_new1 B) ⟨h1, ?_⟩
  have hz : (s.heap.push o).objs.size = s.heap.objs.size + 1 := Heap.size_push ..
  show _ ∧ _
  rw [hz]
  have he : IsEnum ((s.heap.push o).push { cls := .type "enumerate", data := .fields #[.none, .bool false, .ref s.heap.objs.size, rawInt 0, .none, .none] }) (s.heap.objs.size + 1) s.heap.objs.size 0 .none := by
    have := Heap.get?_push_size (s.heap.push o) (o := { cls := .type "enumerate", data := .fields #[.none, .bool false, .ref s.heap.objs.size, rawInt 0, .none, .none] }) rfl
    rw [hz] at this; exact this
  refine ⟨⟨_, he, rfl⟩, h _ he (Heap.get?_push_of_some _ (Heap.get?_push_size _ B.free)) (by rw [Heap.size_push, hz]) fun b o x => Heap.get?_push_of_some _ (Heap.get?_push_of_some _ x)⟩
end PySem
namespace DL
open PySem PySem.Spec PyProof.Rows L2

/-! ### enumerate(tuple) -/
def IteT (K : PySem.W.Frag) (a : Addr) : It :=
  ⟨fun i H => ∃ (xs : List V) (x : V), SqT K H a xs ∧ xs[i]? = some x, fun i H v H' => ∃ T x, v = .ref T ∧ H T = none ∧ H' = upd H T (.tup [.int (i : Nat), x]) ∧ ∀ xs, SqT K H a xs → xs[i]? = some x, fun i H => ∃ xs : List V, SqT K H a xs ∧ xs.length ≤ i⟩
theorem turn_enumT {P : Program} {w : World} {K : PySem.W.Frag} {elts : List Expr} {kk : Nat} {tpos : Pos} (a e it : Addr) :
    Turn P w K (.Tuple elts kk tpos) (IteT K a) [e, it] e (fun i h => (∃ old, IsEnum h e it ((i : Nat) : Int) old) ∧ h.IsTupleIter it a i ∧ e ≠ it ∧ a ≠ it ∧ a ≠ e) where
  mem := by simp
  obj := fun i h st b hb => by
    obtain ⟨⟨old, he⟩, ⟨o, ho, hc, hd⟩, _⟩ := st
    have e' : b = e ∨ b = it := by simpa using hb
    rcases e' with z | z
    · rw [z]; exact ⟨_, he, fun v q => nomatch q⟩
    · rw [z]; exact ⟨o, ho, fun v q => by rw [hd] at q; cases q⟩
  keep := fun i h h' st k => let ⟨⟨old, he⟩, hi, hne⟩ := st; ⟨⟨old, k e (by simp) _ he⟩, hi.at fun o q => k it (by simp) o q, hne⟩
  item := by
    intro X hP hw hK hc i pins s σ H E I hf st hg
    subst hP hw hK
    obtain ⟨⟨old, he⟩, hit, hne, hai, hae⟩ := st
    obtain ⟨xs, x, hq, hx⟩ := hg
    obtain ⟨its, rv, p, hz⟩ := I.tuple hq
    obtain ⟨u, hu, ru⟩ := rv.get hx
    have hel : e < s.heap.objs.size := Heap.lt_size he
    have hil : it < s.heap.objs.size := by obtain ⟨_, q, _⟩ := hit; exact Heap.lt_size q
    have D := Draws.tuple (prog := X.prog) (w := X.w) (A := X.A.in1) (I.ok.hd hc) it a hai its.toArray
    have hlt : i < its.toArray.size := by
      rw [List.size_toArray]
      exact (List.getElem?_eq_some_iff.mp hu).1
    refine wpAny_pyNext_enum_itemD D he ⟨hit, show s.heap.IsTuple a its.toArray from p⟩ hlt hne (by simp [hne, Ne.symm hae]) fun y h' tk hy ho hst' hT hsz hk => ?_
    have ey : y = u := by
      have hy : its.toArray[i]? = some y := hy
      rw [List.getElem?_toArray, hu] at hy
      exact (Option.some.inj hy).symm
    subst ey
    refine ⟨_, rfl, wpAny_letOwnedTupleGo_enum (s := { s with heap := h', toks := tk + 1 }) ho fun h'' he' sb => ?_⟩
    have hT2 : h''.get? s.heap.objs.size = some { cls := .type "tuple", data := .seq #[.int i tk, y] } := (sb.2 _ (Nat.ne_of_gt hel)).trans hT
    have new : ObjOk X.prog X.w (upd H s.heap.objs.size (.tup [.int (i : Nat), x])) h'' s.heap.objs.size (.tup [.int (i : Nat), x]) :=
      ⟨by show 2 ≤ sizeLine; decide, [.int i tk, y], .cons ⟨_, rfl⟩ (.cons ru .nil), ⟨_, hT2, rfl, _, rfl⟩⟩
    have I1 : Inv X pins σ (upd H s.heap.objs.size (.tup [.int (i : Nat), x])) { s with heap := h'', toks := tk + 1 } :=
      I.turnedNew (ch := [e, it]) (fun b ob hb q => (sb.2 b (fun z => hb (by simp [z]))).trans (hk b ob (fun z => hb (by simp [z])) (fun z => hb (by simp [z])) q)) hf (Nat.le_refl _) new
    refine ⟨.ref s.heap.objs.size, _, I1, rfl, ⟨_, x, rfl, I.hok.fresh (Nat.le_refl _), rfl, fun ys hy => by rw [I.tuple_inj hy hq]; exact hx⟩, ⟨⟨y, ?_⟩, hst'.1.at fun o q => (sb.2 it (Ne.symm hne)).trans q, hne, hai, hae⟩, fun b hb => ?_⟩
    · have e1 : ((i + 1 : Nat) : Int) = (i : Int) + 1 := by omega
      rw [e1]; exact he'
    · have hb' : b < s.heap.objs.size := by
        have e' : b = e ∨ b = it := by simpa using hb
        rcases e' with z | z
        · rw [z]; exact hel
        · rw [z]; exact hil
      rw [upd_ne (Nat.ne_of_lt hb')]
      exact (hf b hb).1
  done := by
    intro X hP hw hK hc i pins s σ H E I hf st hg
    subst hP hw hK
    obtain ⟨⟨old, he⟩, hit, hne, hai, hae⟩ := st
    obtain ⟨xs, hq, hx⟩ := hg
    obtain ⟨its, rv, p, hz⟩ := I.tuple hq
    obtain ⟨f0, f1, f2, f3, f4, f5⟩ := hf it (by simp)
    have hl := rv.length
    have D : Draws X.prog X.w X.A.in1 it [it, a] i (fun _ _ => True) (fun j h => h.IsTupleIter it a j ∧ h.IsTuple a its.toArray ∧ j = i) :=
      { live := fun _ _ st => let ⟨o, ho, _⟩ := st.1; ⟨o, ho⟩
        frame := fun _ _ _ st hk => ⟨st.1.at fun o e => hk it (by simp) o e, st.2.1.at fun o e => hk a (by simp) o e, st.2.2⟩
        item := fun j s Q E hi st hQ => absurd hi (by rw [st.2.2]; exact Nat.lt_irrefl _)
        done := fun s Q E st hE => wpAny_nextOf_tuple_end (I.ok.hd hc) st.1 st.2.1 (by simp; omega) hE }
    exact wpAny_pyNext_enum_endD D he ⟨hit, show s.heap.IsTuple a its.toArray from p, rfl⟩ fun h' eb => ⟨rfl, I.turned (t' := s.toks) (fun b o hb q => eb b o hb q) f0 f1 f3 f4 f5⟩
  self := fun A i s Q E st h => let ⟨⟨_, he⟩, _⟩ := st; wpAny_pyIter_enum he h
end DL
/-! The data layer, part 9: what is walked. -/
namespace DL
open PySem PySem.Spec PyProof.Rows L2

/-- what a turn hands over -/
def Yl (K : PySem.W.Frag) (t : Bool) (H H' : Hp) (d : Dat) (x : V) : Prop := (H' = H ∧ Rp K H d x) ∨ (t = true ∧ ∃ T l vs, d = .tup l ∧ x = .ref T ∧ H T = none ∧ H' = upd H T (.tup vs) ∧ RpL K H l vs)
def Wk (K : PySem.W.Frag) (t : Bool) (S0 : Sto) (H0 : Hp) (J : It) (ds : List Dat) (G : Sto → Prop) : Prop := ds.length ≤ sizeLine ∧ ∀ (i : Nat) (S : Sto) (H : Hp), Rel K S H → Fr S0 H0 S H → G S →
  (∀ d, ds[i]? = some d → J.go i H ∧ ∀ x H', J.yld i H x H' → Yl K t H H' d x) ∧ (ds.length ≤ i → J.stop i H)
def TIo (K : PySem.W.Frag) (t : Bool) (B : Sto) (HB : Hp) (w : SD → Sto → (List Dat → (Sto → Prop) → Sto → Prop) → Prop) : TI := fun σ H R => ∃ δ S k, RpS K H δ σ ∧ Rel K S H ∧ Fr B HB S H ∧ w δ S k ∧
  ∀ J H' ds G S', Rel K S' H' → Fr S H S' H' → Wk K t S' H' J ds G → k ds G S' → R J H'
theorem PI.mono {X : Cx} {tg e : Expr} {wi wi' : TI} (h : PI X tg e wi) (f : ∀ σ H R, wi' σ H R → wi σ H R) : PI X tg e wi' := ⟨fun pins s σ H R I q => h.run pins s σ H R I (f σ H R q)⟩

section
variable {K : PySem.W.Frag} {B : Sto} {HB : Hp} {S S1 S2 : Sto} {H H0 H1 H2 : Hp} {δ : SD} {σ : L2.St} {x : XD} {v : V} {a : Addr} {ds es : List Dat} {G : Sto → Prop}
theorem Yl.rel {t : Bool} {H' : Hp} {d : Dat} (y : Yl K t H H' d v) (r : Rel K S H) : Rel K S H' ∧ Fr S H S H' ∧ TK K H H' := by
  rcases y with ⟨e, _⟩ | ⟨_, T, l, vs, _, _, n, e, _⟩
  · subst e; exact ⟨r, .refl, .refl⟩
  · subst e; exact ⟨r.newH n, .newH n, .new n⟩
theorem bindY {c : Sc} {tg : Tg} {e : Expr} {H' : Hp} {d : Dat} {k : SD → Prop} {R : L2.St → Hp → Prop} (hck : ckT c tg e = true) (y : Yl K (isTupE e) H H' d v) (hσ : RpS K H δ σ) (h : bindTg tg d δ k)
    (f : ∀ δ' σ', RpS K H' δ' σ' → k δ' → (∀ vs : List Nat, (∀ i ∈ slotsT tg, i ∈ vs) → wipe σ' vs = wipe σ vs) → R σ' H') : gT K tg v σ H' R := by
  rcases y with ⟨e, rp⟩ | ⟨ht, T, l, vs, e1, e2, n, e3, rr⟩
  · subst e; exact bind_of tg hσ rp h f
  · subst e1 e2 e3
    cases tg with
    | n i => unfold ckT at hck; split at hck <;> first | cases ht | cases hck
    | t ts =>
      have h : bindTgs ts l δ k := h
      have rr' := RpL.keep (TK.new (K := K) (o := .tup vs) n) l vs rr
      exact ⟨T, vs, rfl, .inl (.inl upd_same), (rr.length).trans (bindTgs_len (K := K) ts h), binds_of ts (hσ.keep (.new n)) rr' h f⟩

/-! ### sources -/
def LAt (K : PySem.W.Frag) (S : Sto) (H : Hp) (a : Addr) (ds : List Dat) (G : Sto → Prop) : Prop := ∀ S1 H1, Rel K S1 H1 → Fr S H S1 H1 → G S1 → ∃ vs, SqL K H1 a vs ∧ RpL K H1 ds vs
def TAt (K : PySem.W.Frag) (S : Sto) (H : Hp) (a : Addr) (ds : List Dat) (G : Sto → Prop) : Prop := ∀ S1 H1, Rel K S1 H1 → Fr S H S1 H1 → G S1 → ∃ vs, SqT K H1 a vs ∧ RpL K H1 ds vs
theorem tat_of (r : Rel K S H) {vs : List V} (e : SqN K H a vs) (rr : RpL K H ds vs) : TAt K S H a ds fun _ => True := fun S1 H1 r1 f _ =>
  ⟨vs, ((TK.of_fr r f).tup _ _ e).sq, RpL.keep (TK.of_fr r f) _ _ rr⟩
theorem srcX_of {k : List Dat → (Sto → Prop) → Sto → Prop} (r : Rel K S H) (rx : RpX K H0 H S x v) (h : srcX x S k) :
    (∃ a ds G, v = .ref a ∧ ds.length ≤ sizeLine ∧ LAt K S H a ds G ∧ G S ∧ k ds G S) ∨ (∃ a ds G, v = .ref a ∧ ds.length ≤ sizeLine ∧ TAt K S H a ds G ∧ G S ∧ k ds G S) ∨ ∃ z, v = .str z ∧ z.length ≤ sizeLine ∧ k (strDs z) (fun _ => True) S := by
  unfold srcX at h
  split at h
  · rename_i ds
    obtain ⟨p, vs, rfl, e, rr, n, _⟩ := rx
    exact .inl ⟨p, ds, _, rfl, h.1, fun S1 H1 r1 f _ => ⟨vs, .inl (.inl (f.keep p _ e n).1), RpL.keep (TK.of_fr r f) _ _ rr⟩, trivial, h.2⟩
  · rename_i ds
    obtain ⟨p, vs, rfl, e, rr⟩ := rx
    exact .inr (.inl ⟨p, ds, _, rfl, h.1, tat_of r e rr, trivial, h.2⟩)
  · rename_i z
    have e : v = .str z := rx
    exact .inr (.inr ⟨z, e, h⟩)
  · rename_i a
    have e : v = .ref a := rx
    subst e
    split at h
    · rename_i ds e
      refine .inl ⟨a, ds, _, rfl, h.1, fun S1 H1 r1 f g => ?_, e, h.2⟩
      obtain ⟨vs, q, rr⟩ := r1 a _ g
      exact ⟨vs, .inl (.inl q), rr⟩
    · cases h
  · cases h
theorem srcE_of {k : List Dat → (Sto → Prop) → Sto → Prop} (r : Rel K S H) (rx : RpX K H0 H S x v) (h : srcE x S k) :
    (∃ a ds G, v = .ref a ∧ ds.length ≤ sizeLine ∧ LAt K S H a ds G ∧ G S ∧ k ds G S) ∨ ∃ a ds G, v = .ref a ∧ ds.length ≤ sizeLine ∧ TAt K S H a ds G ∧ G S ∧ k ds G S := by
  unfold srcE at h
  split at h
  · cases h
  · rename_i hn
    rcases srcX_of r rx h with q | q | ⟨z, rfl, hz, q⟩
    · exact .inl q
    · exact .inr q
    · exfalso
      cases x with
      | d d =>
        cases d with
        | str y => exact hn y rfl
        | scr l => obtain ⟨_, e, _⟩ := rx; cases e
        | tup l => obtain ⟨_, _, e, _⟩ := rx; cases e
        | _ => cases rx
      | l ds => obtain ⟨_, _, e, _⟩ := rx; cases e
theorem wk_list {t : Bool} (z : ds.length ≤ sizeLine) (l : LAt K S H a ds G) : Wk K t S H (Itl K a) ds G := ⟨z, fun i S1 H1 r f g => by
  obtain ⟨vs, q, rr⟩ := l S1 H1 r f g
  refine ⟨fun d e => ?_, fun h => ⟨vs, q, by rw [rr.length]; exact h⟩⟩
  obtain ⟨w, e1, rp⟩ := rr.get e
  refine ⟨⟨vs, w, q, e1⟩, fun x H' y => .inl ⟨y.1, ?_⟩⟩
  have e2 := y.2 vs q
  rw [e1] at e2; cases e2; exact rp⟩
theorem wk_tup {t : Bool} (z : ds.length ≤ sizeLine) (l : TAt K S H a ds G) : Wk K t S H (Itt K a) ds G := ⟨z, fun i S1 H1 r f g => by
  obtain ⟨vs, q, rr⟩ := l S1 H1 r f g
  refine ⟨fun d e => ?_, fun h => ⟨vs, q, by rw [rr.length]; exact h⟩⟩
  obtain ⟨w, e1, rp⟩ := rr.get e
  refine ⟨⟨vs, w, q, e1⟩, fun x H' y => .inl ⟨y.1, ?_⟩⟩
  have e2 := y.2 vs q
  rw [e1] at e2; cases e2; exact rp⟩
theorem wk_enumL (z : ds.length ≤ sizeLine) (l : LAt K S H a ds G) : Wk K true S H (Ite K a) (ds.mapIdx fun i d => Dat.tup [.int i, d]) G := ⟨by rw [List.length_mapIdx]; exact z, fun i S1 H1 r f g => by
  obtain ⟨vs, q, rr⟩ := l S1 H1 r f g
  refine ⟨fun d e => ?_, fun h => ⟨vs, q, by rw [rr.length]; simpa using h⟩⟩
  rw [List.getElem?_mapIdx, Option.map_eq_some_iff] at e
  obtain ⟨d', e, rfl⟩ := e
  obtain ⟨w, e1, rp⟩ := rr.get e
  refine ⟨⟨vs, w, q, e1⟩, fun x H' y => .inr ⟨rfl, ?_⟩⟩
  obtain ⟨T, u, rfl, n, rfl, y⟩ := y
  have e2 := y vs q
  rw [e1] at e2; cases e2
  exact ⟨T, _, _, rfl, rfl, n, rfl, .cons rfl (.one rp)⟩⟩
theorem wk_enumT (z : ds.length ≤ sizeLine) (l : TAt K S H a ds G) : Wk K true S H (IteT K a) (ds.mapIdx fun i d => Dat.tup [.int i, d]) G := ⟨by rw [List.length_mapIdx]; exact z, fun i S1 H1 r f g => by
  obtain ⟨vs, q, rr⟩ := l S1 H1 r f g
  refine ⟨fun d e => ?_, fun h => ⟨vs, q, by rw [rr.length]; simpa using h⟩⟩
  rw [List.getElem?_mapIdx, Option.map_eq_some_iff] at e
  obtain ⟨d', e, rfl⟩ := e
  obtain ⟨w, e1, rp⟩ := rr.get e
  refine ⟨⟨vs, w, q, e1⟩, fun x H' y => .inr ⟨rfl, ?_⟩⟩
  obtain ⟨T, u, rfl, n, rfl, y⟩ := y
  have e2 := y vs q
  rw [e1] at e2; cases e2
  exact ⟨T, _, _, rfl, rfl, n, rfl, .cons rfl (.one rp)⟩⟩
theorem wk_zipT {b : Addr} (z : ds.length ≤ sizeLine) (l : TAt K S H a ds fun _ => True) (m : TAt K S H b es fun _ => True) : Wk K true S H (RZ.ItzT K a b) ((ds.zip es).map fun p => Dat.tup [p.1, p.2]) fun _ => True := ⟨by rw [List.length_map, List.length_zip]; omega, fun i S1 H1 r f g => by
  obtain ⟨vs, q, rr⟩ := l S1 H1 r f g
  obtain ⟨ws, q2, rr2⟩ := m S1 H1 r f g
  refine ⟨fun d e => ?_, fun h => ⟨vs, ws, q, q2, ?_⟩⟩
  · rw [List.getElem?_map, Option.map_eq_some_iff] at e
    obtain ⟨p, e, rfl⟩ := e
    rw [List.getElem?_zip_eq_some] at e
    obtain ⟨w, e1, rp⟩ := rr.get e.1
    obtain ⟨w2, e2, rp2⟩ := rr2.get e.2
    refine ⟨⟨vs, ws, w, w2, q, q2, e1, e2⟩, fun x H' y => .inr ⟨rfl, ?_⟩⟩
    obtain ⟨T, u, u2, rfl, n, rfl, y, y2⟩ := y
    have e3 := y vs q
    rw [e1] at e3; cases e3
    have e4 := y2 ws q2
    rw [e2] at e4; cases e4
    exact ⟨T, _, _, rfl, rfl, n, rfl, .cons rp (.one rp2)⟩
  · rw [rr.length, rr2.length]
    simp only [List.length_map, List.length_zip] at h
    omega⟩
theorem wk_str {t : Bool} {z : Str} (hz : z.length ≤ sizeLine) : Wk K t S H (Its z) (strDs z) fun _ => True := ⟨by unfold strDs; rw [List.length_map, Array.length_toList]; exact hz, fun i S1 H1 r f g => by
  unfold strDs
  refine ⟨fun d e => ?_, fun h => ?_⟩
  · rw [List.getElem?_map, Option.map_eq_some_iff] at e
    obtain ⟨c, e, rfl⟩ := e
    rw [Array.getElem?_toList] at e
    refine ⟨(Array.getElem?_eq_some_iff.mp e).1, fun x H' y => .inl ?_⟩
    obtain ⟨rfl, c', e', rfl⟩ := y
    rw [e] at e'; cases e'
    exact ⟨rfl, rfl⟩
  · rw [List.length_map, Array.length_toList] at h
    exact h⟩
theorem wk_rng {t : Bool} {lo : Int} {n : Nat} (hz : n ≤ sizeLine) : Wk K t S H (Itr lo n) ((List.range n).map fun (i : Nat) => Dat.int (lo + (i : Int))) fun _ => True := ⟨by rw [List.length_map, List.length_range]; exact hz, fun i S1 H1 r f g => by
  refine ⟨fun d e => ?_, fun h => ?_⟩
  · rw [List.getElem?_map, Option.map_eq_some_iff] at e
    obtain ⟨c, e, rfl⟩ := e
    rw [List.getElem?_eq_some_iff] at e
    obtain ⟨hl, e⟩ := e
    rw [List.getElem_range] at e
    subst e
    rw [List.length_range] at hl
    exact ⟨hl, fun x H' y => .inl ⟨y.1, y.2⟩⟩
  · rw [List.length_map, List.length_range] at h
    exact h⟩
end

section
variable {X : Cx} {pins : List (Addr × Obj)} {σ : L2.St} {H : Hp} {s : Shared} {tg : Expr} {R : It → Hp → Prop} {a : Addr} {xs : List V} {B : Sto} {HB : Hp} {wa wb : SD → Sto → QX → Prop}
theorem iter_list (I : Inv X pins σ H s) (hq : SqL X.K H a xs) (q : R (Itl X.K a) H) : wpAny (model X.prog X.w) X.A (pyIter (.ref a)) (PIE X pins σ tg R) X.xe s := by
  obtain ⟨its, rv, p, hz⟩ := I.list hq
  exact wpAny_pyIter_list p.isList (pi_one (tk := s.toks) I _ (turn_list a _) ⟨_, Heap.get?_push_size _ rfl, rfl, rfl⟩ q)
theorem iter_tup (I : Inv X pins σ H s) (hq : SqT X.K H a xs) (q : R (Itt X.K a) H) : wpAny (model X.prog X.w) X.A (pyIter (.ref a)) (PIE X pins σ tg R) X.xe s := by
  obtain ⟨its, rv, p, hz⟩ := I.tuple hq
  exact wpAny_pyIter_tuple (show s.heap.IsTuple a its.toArray from p) (pi_one (tk := s.toks) I _ (turn_tuple a _) ⟨_, Heap.get?_push_size _ rfl, rfl, rfl⟩ q)
theorem iter_str {x : Str} {t : Tok} (I : Inv X pins σ H s) (q : R (Its x) H) : wpAny (model X.prog X.w) X.A (pyIter (.str x t)) (PIE X pins σ tg R) X.xe s := by
  cases ha : x.cps.all (· < 128)
  · exact wpAny_pyIter_wide ha (pi_one (tk := s.toks) I _ (turn_str _ x t "str_iterator" (.inr rfl)) ⟨_, Heap.get?_push_size _ rfl, rfl, rfl⟩ q)
  · exact wpAny_pyIter_ascii ha (pi_one (tk := s.toks) I _ (turn_str _ x t "str_ascii_iterator" (.inl rfl)) ⟨_, Heap.get?_push_size _ rfl, rfl, rfl⟩ q)
theorem pi_seq {e : Expr} (he : PE X e (TEo X.K B HB wa)) : PI X tg e (TIo X.K (isTupE tg) B HB fun δ S k => wa δ S fun x S1 => srcX x S1 k) := by
  refine ⟨fun pins s σ H R I h => ?_⟩
  obtain ⟨δ, S, k, hσ, hS, hB, hw, fin⟩ := h
  refine thn (he.run pins s σ H (fun v H1 => ∃ x S1, Rel X.K S1 H1 ∧ RpX X.K H H1 S1 x v ∧ Fr S H S1 H1 ∧ srcX x S1 k) I (te1 hσ hS hB hw fun v H1 x S1 r1 rx f1 h1 => ⟨x, S1, r1, rx, f1, h1⟩)) fun u s1 ⟨v, H1, I1, rv, x, S1, r1, rx, f1, h1⟩ => ?_
  rcases srcX_of r1 rx h1 with ⟨a, ds, G, rfl, z, l, g, q⟩ | ⟨a, ds, G, rfl, z, l, g, q⟩ | ⟨z, rfl, hz, q⟩
  · obtain ⟨vs, e1, _⟩ := l S1 H1 r1 .refl g
    cases rv
    exact iter_list I1 e1 (fin _ _ _ _ _ r1 f1 (wk_list z l) q)
  · obtain ⟨vs, e1, _⟩ := l S1 H1 r1 .refl g
    cases rv
    exact iter_tup I1 e1 (fin _ _ _ _ _ r1 f1 (wk_tup z l) q)
  · obtain ⟨t, rfl⟩ := rv
    exact iter_str I1 (fin _ _ _ _ _ r1 f1 (wk_str hz) q)
theorem pi_rng1 {e : Expr} {p pos : Pos} (hg : Gl X "range") (hm : X.mg "range" = none) (hp : plainE e = true) (he : PE X e (TEo X.K B HB wa)) :
    PI X tg (.Call (.Name "range" p) [e] [] pos) (TIo X.K (isTupE tg) B HB fun δ S k => wa δ S fun x S1 => getI x fun j => j ≤ 16777216 ∧ -(2 ^ 62) ≤ j ∧ k ((List.range j.toNat).map fun (i : Nat) => Dat.int (i : Int)) (fun _ => True) S1) := by
  refine PI.mono (pi_range1 hg hm (pa_cons he pa_nil (star_plain hp)) (star_plain hp)) fun σ H R h => ?_
  obtain ⟨δ, S, k, hσ, hS, hB, hw, fin⟩ := h
  refine te1 hσ hS hB hw fun v H1 x S1 r1 rx f1 h1 => ?_
  obtain ⟨j, rfl, rfl, b1, b2, q⟩ := getI_of rx h1
  refine ⟨j, rfl, b2, by omega, fin _ _ _ _ _ r1 f1 ?_ q⟩
  have w := wk_rng (K := X.K) (S := S1) (H := H1) (t := isTupE tg) (lo := 0) (n := j.toNat) (by rw [sizeLine_eq]; omega)
  simp only [Int.zero_add] at w
  exact w
theorem pi_rng2 {e e2 : Expr} {p pos : Pos} (hg : Gl X "range") (hm : X.mg "range" = none) (hp : plainE e = true) (hp2 : plainE e2 = true) (he : PE X e (TEo X.K B HB wa)) (he2 : PE X e2 (TEo X.K B HB wb)) :
    PI X tg (.Call (.Name "range" p) [e, e2] [] pos) (TIo X.K (isTupE tg) B HB fun δ S k => wa δ S fun x S1 => wb δ S1 fun y S2 => getI x fun i => getI y fun j => (-(2 ^ 60) ≤ i ∧ i < 2 ^ 60 ∧ -(2 ^ 60) ≤ j ∧ j < 2 ^ 60 ∧ j - i ≤ 16777216) ∧ k ((List.range (j - i).toNat).map fun (t : Nat) => Dat.int (i + (t : Int))) (fun _ => True) S2) := by
  refine PI.mono (pi_range2 hg hm (pa_cons he (pa_cons he2 pa_nil (star_plain hp2)) (star_plain hp)) (by rw [star_plain hp, star_plain hp2] <;> rfl) (star_plain hp2)) fun σ H R h => ?_
  obtain ⟨δ, S, k, hσ, hS, hB, hw, fin⟩ := h
  refine te2 hσ hS hB hw fun v u H1 x y S1 r1 rx ry f1 h1 => ?_
  obtain ⟨i, rfl, rfl, h1⟩ := getI_of rx h1
  obtain ⟨j, rfl, rfl, ⟨b1, b2, b3, b4, b5⟩, q⟩ := getI_of ry h1
  exact ⟨i, j, rfl, ⟨by omega, by omega, by omega, by omega⟩, fin _ _ _ _ _ r1 f1 (wk_rng (by rw [sizeLine_eq]; omega)) q⟩
theorem pi_enumA {e : Expr} {p pos : Pos} (ht : isTupE tg = true) (hg : Gl X "enumerate") (hm : X.mg "enumerate" = none) (hp : plainE e = true) (he : PE X e (TEo X.K B HB wa)) :
    PI X tg (.Call (.Name "enumerate" p) [e] [] pos) (TIo X.K (isTupE tg) B HB fun δ S k => wa δ S fun x S1 => srcE x S1 fun ds G S2 => k (ds.mapIdx fun i d => Dat.tup [.int i, d]) G S2) := by
  rw [ht]
  cases tg with
  | Tuple elts kk tpos =>
    refine ⟨fun pins s σ H R I h => ?_⟩
    obtain ⟨δ, S, k, hσ, hS, hB, hw, fin⟩ := h
    have ha := pa_cons he pa_nil (star_plain hp)
    refine Call_ (ld_blt I hg hm boot_enumerate (PyProof.Rows.callWith_type1 (thn (ha.run pos pins s σ H (fun vs H1 => ∃ v x S1, vs = [v] ∧ Rel X.K S1 H1 ∧ RpX X.K H H1 S1 x v ∧ Fr S H S1 H1 ∧ srcE x S1 fun ds G S2 => k (ds.mapIdx fun i d => Dat.tup [.int i, d]) G S2) I
      (te1 hσ hS hB hw fun v H1 x S1 r1 rx f1 h1 => ⟨v, x, S1, rfl, r1, rx, f1, h1⟩)) fun us s1 ⟨vs, H1, I1, rr, v, x, S1, ev, r1, rx, f1, h1⟩ => ?_) (star_plain hp) rfl))
    subst ev
    obtain ⟨u, rfl, rv⟩ := vals1 rr
    rcases srcE_of r1 rx h1 with ⟨a, ds, G, rfl, z, l, g, q⟩ | ⟨a, ds, G, rfl, z, l, g, q⟩
    · obtain ⟨ws, e1, _⟩ := l S1 H1 r1 .refl g
      cases rv
      obtain ⟨its, _, p', hz⟩ := I1.list e1
      refine call_enumerate_list p'.isList fun h' he hit hsz hk => wpAny_pyIter_enum he ?_
      have I2 : Inv X pins σ H1 { s1 with heap := h' } := I1.kept (t' := s1.toks) hk
      refine ⟨s1.heap.objs.size + 1, [s1.heap.objs.size + 1, s1.heap.objs.size], _, _, H1, rfl, I2, turn_enum a (s1.heap.objs.size + 1) s1.heap.objs.size, ⟨⟨.none, he⟩, hit, Nat.succ_ne_self _⟩, fun b hb => ?_, fin _ _ _ _ _ r1 f1 (wk_enumL z l) q⟩
      have e' : b = s1.heap.objs.size + 1 ∨ b = s1.heap.objs.size := by simpa using hb
      have hle : s1.heap.objs.size ≤ b := by
        rcases e' with z | z
        · rw [z]; exact Nat.le_add_right _ _
        · rw [z]; exact Nat.le_refl _
      exact I1.fpOk hle (I1.hok.fresh hle)
    · obtain ⟨ws, e1, _⟩ := l S1 H1 r1 .refl g
      cases rv
      obtain ⟨its, _, p', hz⟩ := I1.tuple e1
      have pt : s1.heap.IsTuple a its.toArray := p'
      have hal : a < s1.heap.objs.size := by obtain ⟨_, q, _⟩ := p'; exact Heap.lt_size q
      refine enum_begins1 (begins_tuple a its.toArray) pt fun h' he hit hsz hk => wpAny_pyIter_enum he ?_
      have I2 : Inv X pins σ H1 { s1 with heap := h' } := I1.kept (t' := s1.toks) hk
      refine ⟨s1.heap.objs.size + 1, [s1.heap.objs.size + 1, s1.heap.objs.size], _, _, H1, rfl, I2, turn_enumT a (s1.heap.objs.size + 1) s1.heap.objs.size,
        ⟨⟨.none, he⟩, ⟨_, hit, rfl, rfl⟩, Nat.succ_ne_self _, Nat.ne_of_lt hal, Nat.ne_of_lt (Nat.lt_succ_of_lt hal)⟩, fun b hb => ?_, fin _ _ _ _ _ r1 f1 (wk_enumT z l) q⟩
      have e' : b = s1.heap.objs.size + 1 ∨ b = s1.heap.objs.size := by simpa using hb
      have hle : s1.heap.objs.size ≤ b := by
        rcases e' with z | z
        · rw [z]; exact Nat.le_add_right _ _
        · rw [z]; exact Nat.le_refl _
      exact I1.fpOk hle (I1.hok.fresh hle)
  | _ => cases ht
theorem pi_zipB {e e2 : Expr} {p pos : Pos} (ht : isTupE tg = true) (hg : Gl X "zip") (hm : X.mg "zip" = none) (hp : plainE e = true) (hp2 : plainE e2 = true) (he : PE X e (TEo X.K B HB wa)) (he2 : PE X e2 (TEo X.K B HB wb)) :
    PI X tg (.Call (.Name "zip" p) [e, e2] [] pos) (TIo X.K (isTupE tg) B HB fun δ S k => wa δ S fun x S1 => wb δ S1 fun y S2 => (match x, y with
      | .d (.tup ds), .d (.tup es) => ds.length ≤ sizeLine ∧ k ((ds.zip es).map fun p => Dat.tup [p.1, p.2]) (fun _ => True) S2
      | _, _ => False)) := by
  rw [ht]
  cases tg with
  | Tuple elts kk tpos =>
    refine PI.mono (RZ.pi_zipA hg hm (pa_cons he (pa_cons he2 pa_nil (star_plain hp2)) (star_plain hp)) (star_plain hp) (by rw [star_plain hp2] <;> rfl)) fun σ H R h => ?_
    obtain ⟨δ, S, k, hσ, hS, hB, hw, fin⟩ := h
    refine te2 hσ hS hB hw fun v u H1 x y S1 r1 rx ry f1 h1 => ?_
    split at h1
    · obtain ⟨p1, vs, rfl, e1, rr⟩ := rx
      obtain ⟨p2, ws, rfl, e2, rr2⟩ := ry
      exact ⟨p1, p2, vs, ws, rfl, .inr ⟨e1.sq, e2.sq, fin _ _ _ _ _ r1 f1 (wk_zipT h1.1 (tat_of r1 e1 rr) (tat_of r1 e2 rr2)) h1.2⟩⟩
    · cases h1
  | _ => cases ht
end
end DL
/-! The data layer, part 10: methods; forms of expressions; comprehensions. -/
namespace DL
open PySem PySem.Spec PyProof.Rows L2

def rNo : V → List V → Hp → VK → Prop := fun _ _ _ _ => False
theorem mt_no {X : Cx} {id : String} : MtR X id rNo := fun _ _ _ _ _ _ _ _ _ _ _ _ h => h.elim
def rMthL (K : PySem.W.Frag) : Mth → V → List V → Hp → VK → Prop
  | .append => rAppend
  | .extend => rExtend
  | .pop => rPop
  | .popAt => rPopAt
  | .remove => rRemD K
  | .count => rCntD K false
  | _ => rNo
theorem sel_mthL {X : Cx} (hu : X.A.units + 64 < cLine) (m : Mth) {H : Hp} {p : Addr} {vs : List V} (e : SqL X.K H p vs) : MSel X (mthName m) H (.ref p) (rMthL X.K m) := by
  cases m with
  | append => exact sel_list e F.slot_list_append F.type_list_append mt_append
  | extend => exact sel_list e F.slot_list_extend F.type_list_extend mt_extend
  | pop => exact sel_list e F.slot_list_pop F.type_list_pop mt_pop
  | popAt => exact sel_list e F.slot_list_pop F.type_list_pop mt_popAt
  | remove => exact sel_list e F.slot_list_remove F.type_list_remove (mt_removeD hu)
  | insert => exact sel_list e F.slot_list_insert F.type_list_insert mt_no
  | count => exact sel_list e F.slot_list_count F.type_list_count (mt_countL hu)
  | index => exact sel_list e F.slot_list_index F.type_list_index mt_no
def rMthT (K : PySem.W.Frag) : Mth → V → List V → Hp → VK → Prop
  | .count => rCntD K true
  | _ => rNo
theorem sel_mthT {X : Cx} (hu : X.A.units + 64 < cLine) (m : Mth) {H : Hp} {p : Addr} {vs : List V} (e : SqN X.K H p vs) (h : m = .count ∨ m = .index) : MSel X (mthName m) H (.ref p) (rMthT X.K m) := by
  rcases h with rfl | rfl
  · exact sel_tup e F.slot_tuple_count F.type_tuple_count (mt_countT hu)
  · exact sel_tup e F.slot_tuple_index F.type_tuple_index mt_no
section
variable {K : PySem.W.Frag} {Sa S S2 : Sto} {H0 H H2 : Hp} {x y : XD} {v : V} {xs : List XD} {ws : List V} {q : QX} {Q : VK}
theorem x1_of {k : XD → Prop} (rxs : RpXs K H0 H S xs ws) (h : x1 xs k) : ∃ y w, xs = [y] ∧ ws = [w] ∧ RpX K H0 H S y w ∧ k y := by
  unfold x1 at h
  split at h
  · obtain ⟨w, r0, rfl, ry, e0⟩ := rxs
    have e0 : r0 = [] := e0
    subst e0
    exact ⟨_, w, rfl, rfl, ry, h⟩
  · cases h
theorem asRef_of {k : Addr → Prop} (rx : RpX K H0 H S x v) (h : asRef x k) : ∃ a, x = .d (.ref a) ∧ v = .ref a ∧ k a := by
  unfold asRef at h
  split at h
  · exact ⟨_, rfl, rx, h⟩
  · cases h
theorem getD_of {k : Dat → Prop} (rx : RpX K H0 H S x v) (h : getD x k) : ∃ d, x = .d d ∧ Rp K H d v ∧ k d := by
  unfold getD at h
  split at h
  · exact ⟨_, rfl, rx, h⟩
  · cases h
theorem atL_of {a : Addr} {k : List Dat → Prop} (r : Rel K S H) (h : atL S a k) : ∃ ds vs, S a = some (.lst ds) ∧ H a = some (.lst vs) ∧ RpL K H ds vs ∧ k ds := by
  unfold atL at h
  split at h
  · rename_i ds e
    obtain ⟨vs, q1, rr⟩ := r _ _ e
    exact ⟨ds, vs, e, q1, rr, h⟩
  · cases h
theorem mthL_of {m : Mth} (r : Rel K S2 H2) (rx : RpX K H0 H2 S2 x v) (rxs : RpXs K H0 H2 S2 xs ws) (fr : Fr Sa H0 S2 H2) (h : opMth m x xs S2 q) (f : Fin K Sa H0 H0 q Q) (nt : ∀ l, x ≠ .d (.tup l)) : rMthL K m v ws H2 Q := by
  have f2 := f.go fr
  cases m with
  | append =>
    obtain ⟨a, rfl, rfl, h⟩ := asRef_of rx h
    obtain ⟨y, w, rfl, rfl, ry, h⟩ := x1_of rxs h
    obtain ⟨d, S', r', rp, h', _, frf⟩ := settle_of r ry h
    obtain ⟨ds, vs, e, q1, rr, h1, h2⟩ := atL_of r' h'
    have k := TK.lst (K := K) (ws := vs ++ [w]) q1
    exact ⟨_, vs, w, rfl, rfl, q1, by rw [rr.length]; exact h1, (f.go (frf _ _ fr fun _ z => z)).mut (mo' := .lst (ds ++ [d])) (d := .non) r' e (nofrzL q1) ⟨_, upd_same, RpL.keep k _ _ (rr.append (.one rp))⟩ rfl h2⟩
  | extend =>
    obtain ⟨a, rfl, rfl, h⟩ := asRef_of rx h
    obtain ⟨y, w, rfl, rfl, ry, h⟩ := x1_of rxs h
    obtain ⟨ds, vs, e, q1, rr, h⟩ := atL_of r h
    obtain ⟨p', us, es, rfl, e2, r2, h1, h2⟩ := getL_of r ry h
    have k := TK.lst (K := K) (ws := vs ++ us) q1
    exact ⟨_, _, vs, us, rfl, rfl, q1, e2, by rw [rr.length, r2.length]; exact h1, f2.mut (mo' := .lst (ds ++ es)) (d := .non) r e (nofrzL q1) ⟨_, upd_same, RpL.keep k _ _ (rr.append r2)⟩ rfl h2⟩
  | pop =>
    obtain ⟨a, rfl, rfl, hx, h1⟩ := asRef_of rx h
    subst hx
    obtain ⟨ds, vs, e, q1, rr, h⟩ := atL_of r h1
    have rxs : ws = [] := rxs
    subst rxs
    split at h
    · rename_i d hd
      have k := TK.lst (K := K) (ws := vs.dropLast) q1
      rw [List.getLast?_eq_getElem?, ← rr.length] at hd
      obtain ⟨w, e1, rp⟩ := rr.get hd
      exact ⟨_, vs, w, rfl, rfl, q1, e1, f2.mut (mo' := .lst ds.dropLast) r e (nofrzL q1) ⟨_, upd_same, RpL.keep k _ _ rr.dropLast⟩ (Rp.keep k _ _ rp) h⟩
    · cases h
  | popAt =>
    obtain ⟨a, rfl, rfl, h⟩ := asRef_of rx h
    obtain ⟨y, w, rfl, rfl, ry, h⟩ := x1_of rxs h
    obtain ⟨i, rfl, rfl, hi, h1⟩ := getI_of ry h
    subst hi
    obtain ⟨ds, vs, e, q1, rr, h⟩ := atL_of r h1
    split at h
    · rename_i d ds
      obtain ⟨w, us, rfl, rp, rr⟩ := rr
      have k := TK.lst (K := K) (ws := us) q1
      refine ⟨_, w :: us, 0, 0, w, rfl, rfl, q1, by decide, by decide, by simp [seqIndex?], rfl, ?_⟩
      exact f2.mut (mo' := .lst ds) r e (nofrzL q1) ⟨_, upd_same, RpL.keep k _ _ rr⟩ (Rp.keep k _ _ rp) h
    · cases h
  | remove =>
    obtain ⟨a, rfl, rfl, h⟩ := asRef_of rx h
    obtain ⟨y, w, rfl, rfl, ry, h⟩ := x1_of rxs h
    obtain ⟨d, rfl, rp, h⟩ := getD_of ry h
    obtain ⟨ds, vs, e, q1, rr, o1, o2, h⟩ := atL_of r h
    split at h
    · rename_i j ej
      have k := TK.lst (K := K) (ws := vs.eraseIdx j) q1
      exact ⟨_, vs, ds, d, w, j, rfl, rfl, q1, rr, rp, o1, o2, ej, f2.mut (mo' := .lst (ds.eraseIdx j)) (d := .non) r e (nofrzL q1) ⟨_, upd_same, RpL.keep k _ _ (rr.erase j)⟩ rfl h⟩
    · cases h
  | insert => cases h
  | count =>
    obtain ⟨y, w, rfl, rfl, ry, h⟩ := x1_of rxs h
    obtain ⟨d, rfl, rp, h⟩ := getD_of ry h
    cases x with
    | l ds =>
      obtain ⟨p, vs, rfl, e, rr, _, _⟩ := rx
      exact ⟨p, vs, ds, d, w, rfl, rfl, SqL.of e, rr, rp, h.1, h.2.1, f2.int r h.2.2⟩
    | d dx =>
      cases dx with
      | tup l => exact absurd rfl (nt l)
      | ref a =>
        obtain rfl : v = .ref a := rx
        simp only [getSq] at h
        split at h
        · rename_i ds e
          obtain ⟨vs, q1, rr⟩ := r a _ e
          exact ⟨a, vs, ds, d, w, rfl, rfl, SqL.of q1, rr, rp, h.1, h.2.1, f2.int r h.2.2⟩
        · cases h
      | _ => cases h
  | index => cases h
theorem mthT_of {m : Mth} {l : List Dat} (r : Rel K S2 H2) (rx : Rp K H2 (.tup l) v) (rxs : RpXs K H0 H2 S2 xs ws) (fr : Fr Sa H0 S2 H2) (h : opMth m (.d (.tup l)) xs S2 q) (f : Fin K Sa H0 H0 q Q) (hm : m = .count ∨ m = .index) : rMthT K m v ws H2 Q := by
  rcases hm with rfl | rfl
  · obtain ⟨y, w, rfl, rfl, ry, h⟩ := x1_of rxs h
    obtain ⟨d, rfl, rp, h⟩ := getD_of ry h
    obtain ⟨p, vs, rfl, e, rr⟩ := rx
    exact ⟨p, vs, l, d, w, rfl, rfl, e.sq, rr, rp, h.1, h.2.1, (f.go fr).int r h.2.2⟩
  · cases h
end
theorem mth_of {X : Cx} (hu : X.A.units + 64 < cLine) {m : Mth} {S : Sto} {H0 H : Hp} {x : XD} {v : V} (r : Rel X.K S H) (rx : RpX X.K H0 H S x v) (h : mthOk m x S) :
    ∃ rr, MSel X (mthName m) H v rr ∧ ∀ Sa H2 S2 xs ws q Q, Rel X.K S2 H2 → RpX X.K H0 H2 S2 x v → RpXs X.K H0 H2 S2 xs ws → Fr Sa H0 S2 H2 → opMth m x xs S2 q → Fin X.K Sa H0 H0 q Q → rr v ws H2 Q := by
  unfold mthOk at h
  split at h
  · obtain ⟨p, vs, rfl, e, rr, _, _⟩ := rx
    exact ⟨_, sel_mthL hu m (.of e), fun Sa H2 S2 xs ws q Q r2 rx rxs fr h f => mthL_of r2 rx rxs fr h f (fun _ z => by cases z)⟩
  · obtain ⟨p, vs, rfl, e, rr⟩ := rx
    exact ⟨_, sel_mthT hu m e h, fun Sa H2 S2 xs ws q Q r2 rx rxs fr h' f => mthT_of r2 rx rxs fr h' f h⟩
  · rename_i a
    obtain rfl : v = .ref a := rx
    split at h
    · rename_i ds e
      obtain ⟨vs, q1, rr⟩ := r _ _ e
      exact ⟨_, sel_mthL hu m (.of q1), fun Sa H2 S2 xs ws q Q r2 rx rxs fr h f => mthL_of r2 rx rxs fr h f (fun _ z => by cases z)⟩
    · cases h
  · cases h
end DL
/-! The data layer, part 11: comprehensions. -/
namespace DL
open PySem PySem.Spec PyProof.Rows L2

theorem peM {X : Cx} {e : Expr} {t t' : TE} (h : PE X e t) (f : ∀ σ H Q, t' σ H Q → t σ H Q) : PE X e t' := ⟨fun pins s σ H Q I q => h.run pins s σ H Q I (f σ H Q q)⟩
theorem ptM {X : Cx} {e : Expr} {t t' : TT} (h : PT X e t) (f : ∀ σ H Q, t' σ H Q → t σ H Q) : PT X e t' := ⟨fun pins s σ H Q I q => h.run pins s σ H Q I (f σ H Q q)⟩
theorem pwM {X : Cx} {e : Expr} {t t' : TT} (h : PW X e t) (f : ∀ σ H Q, t' σ H Q → t σ H Q) : PW X e t' := ⟨fun whole pins s σ H Q I q => h.run whole pins s σ H Q I (f σ H Q q)⟩
theorem ptsM {X : Cx} {e : List Expr} {t t' : TT} (h : PTs X e t) (f : ∀ σ H Q, t' σ H Q → t σ H Q) : PTs X e t' := ⟨fun pins s σ H Q I q => h.run pins s σ H Q I (f σ H Q q)⟩
theorem paM {X : Cx} {e : List Expr} {t t' : TA} (h : PA X e t) (f : ∀ σ H Q, t' σ H Q → t σ H Q) : PA X e t' := ⟨fun pos pins s σ H Q I q => h.run pos pins s σ H Q I (f σ H Q q)⟩
theorem poM {X : Cx} {e : Option Expr} {t t' : TO} (h : PO X e t) (f : ∀ σ H Q, t' σ H Q → t σ H Q) : PO X e t' := ⟨fun pins s σ H Q I q => h.run pins s σ H Q I (f σ H Q q)⟩

section
variable {X : Cx} {B : Sto} {HB : Hp} {w : SD → Sto → QX → Prop}
/-- a value's truth -/
theorem pt_of {e : Expr} (h : PE X e (TEo X.K B HB w)) (he : ∀ whole, isTrue e X.env whole = (do let v ← whole; standAt e.pos; holding [v] (truthy v))) : PT X e (TTo X.K B HB w) :=
  ptM (pt_truth h he) fun σ H Q h => let ⟨δ, S, q, hσ, hS, hB, hw, fin⟩ := h; ⟨δ, S, q, hσ, hS, hB, hw, fun v H' x S' r rx f k => fin v H' x S' r rx f k⟩
end

theorem ownOf_slots (N : List Str) (l : List Nat) : (ownOf N l).map (·.2) = l := by
  unfold ownOf
  rw [List.map_map]
  show l.map (fun i => i) = l
  rw [List.map_id']
theorem wipe_out : ∀ (σ : L2.St) (l : List Nat) (i : Nat) (x : Option V), wipe (σ.set i x) (i :: l) = wipe σ (i :: l)
  | σ, [], i, x => by show (σ.set i x).set i none = σ.set i none; rw [List.set_set]
  | σ, b :: l, i, x => by
    show ((wipe (σ.set i x) l).set b none).set i none = ((wipe σ l).set b none).set i none
    by_cases h : b = i
    · subst h
      have := wipe_out σ l b x
      rw [List.set_set, List.set_set]
      exact this
    · rw [List.set_comm _ _ h, List.set_comm _ _ h]
      have := wipe_out σ l i x
      show ((wipe (σ.set i x) l).set i none).set b none = _
      rw [show (wipe (σ.set i x) l).set i none = (wipe σ l).set i none from this]
theorem wipe_comm (σ : L2.St) (i : Nat) : ∀ l : List Nat, wipe (σ.set i none) l = (wipe σ l).set i none
  | [] => rfl
  | b :: l => by
    show (wipe (σ.set i none) l).set b none = ((wipe σ l).set b none).set i none
    rw [wipe_comm σ i l]
    by_cases h : i = b
    · subst h; rfl
    · rw [List.set_comm _ _ h]
theorem wipe_idem (σ : L2.St) : ∀ l : List Nat, wipe (wipe σ l) l = wipe σ l
  | [] => rfl
  | b :: l => by
    show (wipe ((wipe σ l).set b none) l).set b none = (wipe σ l).set b none
    rw [wipe_comm, wipe_idem σ l, List.set_set]

section
variable {X : Cx} {B : Sto} {HB : Hp} {we : SD → Sto → QX → Prop} {wc : SD → Sto → (Bool → Sto → Prop) → Prop} {ws : SD → Sto → (List Dat → (Sto → Prop) → Sto → Prop) → Prop}
/-- one turn -/
def turnW (tg : Tg) (vs : List Nat) (wc : SD → Sto → (Bool → Sto → Prop) → Prop) (we : SD → Sto → QX → Prop) (δ : SD) (d : Dat) (S : Sto) (k : Option Dat → Sto → Prop) : Prop :=
  bindTg tg d (wipeD δ vs) fun δ' => wc δ' S fun b S2 => if b = true then we δ' S2 fun x S3 => settle x S3 fun y S4 => k (some y) S4 else k none S2
theorem comp_core {c : Sc} {tg : Tg} {e : Expr} (hck : ckT c tg e = true) :
    ∀ σ H Q, TEo X.K B HB (fun δ S q => ws δ S fun ds G S1 => compW (turnW tg (slotsT tg) wc we δ) ds G S1 [] fun l S2 => q (.l l) S2) σ H Q →
      tLc (TIo X.K (isTupE e) B HB ws) (gT X.K tg) (TCo X.K B HB wc) (TEo X.K B HB we) (slotsT tg) σ H Q := by
  intro σ H Q h
  obtain ⟨δ, S, q, hσ, hS, hB, hw, fin⟩ := h
  refine ⟨δ, S, _, hσ, hS, hB, hw, fun J H1 ds G S1 r1 f1 wk hk => ?_⟩
  intro D hD
  obtain ⟨hz, wk⟩ := wk
  refine ⟨fun i m H' => m = ds.length - i ∧ i ≤ ds.length ∧ ∃ S' acc vs, Rel X.K S' H' ∧ Fr S1 H1 S' H' ∧ H' D = some (.lst vs) ∧ S' D = none ∧ RpL X.K H' acc vs ∧ acc.length ≤ i ∧
    compW (turnW tg (slotsT tg) wc we δ) (ds.drop i) G S' acc (fun l S2 => q (.l l) S2), ⟨ds.length, by simp, Nat.zero_le _, S1, [], [], r1.newH hD, .newH hD, upd_same, r1.free hD, .nil, Nat.le_refl _, by simpa using hk⟩, ?_⟩
  rintro i m H' ⟨rfl, hi, S', acc, vs, r2, f2, hd, hn, rr, hl, hc⟩
  by_cases hlt : i < ds.length
  · have e : ds[i]? = some ds[i] := List.getElem?_eq_getElem hlt
    rw [List.drop_eq_getElem_cons hlt] at hc
    obtain ⟨g, hc⟩ := hc
    obtain ⟨w1, _⟩ := wk i S' H' r2 f2 g
    obtain ⟨go, yl⟩ := w1 _ e
    refine .inr ⟨go, fun H'' => ∃ S' acc vs, Rel X.K S' H'' ∧ Fr S1 H1 S' H'' ∧ H'' D = some (.lst vs) ∧ S' D = none ∧ RpL X.K H'' acc vs ∧ acc.length ≤ i + 1 ∧
      compW (turnW tg (slotsT tg) wc we δ) (ds.drop (i + 1)) G S' acc (fun l S2 => q (.l l) S2), fun H'' n => ⟨ds.length - (i + 1), by omega, rfl, hlt, n⟩, fun x H'' y => ?_⟩
    have y := yl x H'' y
    obtain ⟨r3, f3, k3⟩ := y.rel r2
    have fa := f1.trans f2
    have hσ' := (hσ.keep (TK.of_fr hS fa)).wipe (slotsT tg)
    refine bindY hck y hσ' hc fun δ' σ' hσ2 hk2 hwipe => ⟨by rw [hwipe _ fun i hi => hi, wipe_idem], ?_⟩
    have hB3 := (hB.trans fa).trans f3
    refine ⟨δ', S', _, hσ2, r3, hB3, hk2, fun b H3 S3 r4 f4 h4 => ?_⟩
    obtain ⟨d3, n3⟩ := f3.keep D _ hd hn
    obtain ⟨d4, n4⟩ := f4.keep D _ d3 n3
    have fb := ((f2.trans f3).trans f4)
    cases b with
    | false =>
      simp only [Bool.false_eq_true, if_false] at h4 ⊢
      exact ⟨S3, acc, vs, r4, fb, d4, n4, RpL.keep ((TK.of_fr r2 f3).trans (TK.of_fr r3 f4)) _ _ rr, Nat.le_succ_of_le hl, h4⟩
    | true =>
      simp only [if_true] at h4 ⊢
      refine ⟨δ', S3, _, hσ2.keep (TK.of_fr r3 f4), r4, hB3.trans f4, h4, fun v H4 x S4 r5 rx f5 h5 => ?_⟩
      obtain ⟨d', S5, r6, rp, h6, _, frf⟩ := settle_of r5 rx h5
      have f6 := frf S3 H3 f5 fun _ z => z
      obtain ⟨d6, n6⟩ := f6.keep D _ d4 n4
      have k6 := (((TK.of_fr r2 f3).trans (TK.of_fr r3 f4)).trans (TK.of_fr r4 f6))
      have rr6 := RpL.keep k6 _ _ rr
      refine ⟨vs, d6, by rw [rr.length]; omega, S5, acc ++ [d'], vs ++ [v], r6.own d6 n6, (fb.trans f6).own hD, upd_same, n6, RpL.keep (TK.lst d6) _ _ (rr6.append (.one rp)), by rw [List.length_append]; show acc.length + 1 ≤ _; omega, h6⟩
  · have e : i = ds.length := by omega
    subst e
    rw [List.drop_length] at hc
    obtain ⟨g, hc⟩ := hc
    obtain ⟨_, w2⟩ := wk _ S' H' r2 f2 g
    exact .inl ⟨w2 (Nat.le_refl _), fin _ _ (.l acc) S' r2 ⟨D, vs, rfl, hd, rr, hn, f1.dom D hD⟩ (f1.trans f2) hc⟩
end

section
variable {K : PySem.W.Frag} {S S1 : Sto} {H H1 : Hp} {a : Addr} {kvs : List (Key × Dat)} {vs : List (Key × V)} {od : Obj}
/-! ### a dict locked -/
theorem lock_rel (r : Rel K S H) (e : S a = some (.dct kvs)) (q : H a = some (.dK vs)) (kr : KR K H kvs vs) : Rel K (supd S a (.fdct kvs)) (upd H a (.frz od (.dK vs))) ∧ Fr S H (supd S a (.fdct kvs)) (upd H a (.frz od (.dK vs))) := by
  have k : TK K H (upd H a (.frz od (.dK vs))) := TK.mut r e
  exact ⟨r.mut e ⟨od, vs, upd_same, kr.keep k⟩, Fr.mut e (nofrzK q)⟩
theorem unlock_rel (r : Rel K S H) (e : S a = some (.dct kvs)) (q : H a = some (.dK vs)) (kr : KR K H kvs vs) (r1 : Rel K S1 H1) (f : Fr (supd S a (.fdct kvs)) (upd H a (.frz od (.dK vs))) S1 H1) :
    H1 a = some (.frz od (.dK vs)) ∧ Rel K (supd S1 a (.dct kvs)) (upd H1 a (.dK vs)) ∧ Fr S H (supd S1 a (.dct kvs)) (upd H1 a (.dK vs)) ∧ TK K H1 (upd H1 a (.dK vs)) := by
  have h1 := f.frz a od (.dK vs) upd_same
  have k1 : TK K H1 (upd H1 a (.dK vs)) := .of fun b o h z => by
    have ne : b ≠ a := by
      intro y; subst y; rw [h1] at h; cases h
      obtain ⟨_, z | ⟨_, z | z⟩⟩ := z <;> cases z
    rw [upd_ne ne]; exact h
  obtain ⟨rl, fl⟩ := lock_rel (od := od) r e q kr
  have k0 : TK K H (upd H1 a (.dK vs)) := ((TK.of_fr r fl).trans (TK.of_fr rl f)).trans k1
  refine ⟨h1, fun b o z => ?_, ⟨fun b o h s => ?_, fun b h => ?_, fun b o u h => ?_⟩, k1⟩
  · by_cases hb : b = a
    · subst hb
      rw [supd_same] at z; cases z
      exact ⟨vs, upd_same, kr.keep k0⟩
    · rw [supd_ne hb] at z
      exact (r1 b o z).keep (upd_ne hb) k1
  · have hb : b ≠ a := by intro z; rw [z, e] at s; cases s
    obtain ⟨h2, s2⟩ := f.keep b o (by rw [upd_ne hb]; exact h) (by rw [supd_ne hb]; exact s)
    exact ⟨by rw [upd_ne hb]; exact h2, by rw [supd_ne hb]; exact s2⟩
  · have h2 := f.dom b (upd_none h)
    exact upd_none h2
  · have hb : b ≠ a := by intro z; rw [z, q] at h; cases h
    rw [upd_ne hb]
    exact f.frz b o u (by rw [upd_ne hb]; exact h)
theorem wk_keys {t : Bool} (hz : kvs.length ≤ sizeLine) (kr : KR K H kvs vs) (q : H a = some (.frz od (.dK vs))) : Wk K t S H (Itk a od vs) (kvs.map fun kv => keyD kv.1) fun _ => True := by
  have hk : vs.map (·.1) = kvs.map (·.1) := kr.1
  have hl : vs.length = kvs.length := by simpa using congrArg List.length hk
  refine ⟨by rw [List.length_map]; exact hz, fun i S1 H1 r f _ => ⟨fun d e => ?_, fun h => ⟨f.frz _ _ _ q, by rw [hl]; simpa using h⟩⟩⟩
  rw [List.getElem?_map, Option.map_eq_some_iff] at e
  obtain ⟨kv, e, rfl⟩ := e
  have e2 : (vs.map (·.1))[i]? = some kv.1 := by rw [hk, List.getElem?_map, e] <;> rfl
  rw [List.getElem?_map, Option.map_eq_some_iff] at e2
  obtain ⟨kw, e2, e3⟩ := e2
  refine ⟨⟨f.frz _ _ _ q, (List.getElem?_eq_some_iff.mp e2).1⟩, fun x H' y => .inl ?_⟩
  obtain ⟨rfl, k, v, e4, rfl⟩ := y
  rw [e2] at e4
  cases e4
  refine ⟨rfl, ?_⟩
  rw [← e3]
  cases k <;> rfl
end
end DL
/-! The data layer, part 12: expressions are sound. -/
namespace DL
open PySem PySem.Spec PyProof.Rows L2

theorem Good.blk {X : Cx} {c : Sc} {B : Sto} {HB : Hp} {Er : QE} (g : Good X c B HB Er) (s : Shared) (H : Hp) (scope : Scope) (C : Addr) (cl : List (Str × Addr)) (fp : List Addr) :
    Good (X.blk s H scope (compEnvC scope cl C X.env) fp) (inner c scope) B HB E0 where
  hN := g.hN
  nd := g.nd
  sc := by
    show relS scope X.env.scope = relS scope c.sc
    rw [g.sc]
  fn := rfl
  calm := g.calm
  room := g.room
  blt := g.blt
  tk := fun u s' h => by
    obtain ⟨_, _, _, _, _, _, _, _, _, _, _, _, _, _, _, _, δ, S, x, _, _, _, _, z⟩ := h
    exact z.elim
theorem plain_marks {o p : CmpOp} {b d : Expr} (h : plainE d = true) : lastMarks [o, p] [b, d] = false := by
  show behindInMarks p d = false
  exact plain_mark h
theorem bltName_boot (b : Blt) : bootBuiltins (bltName b) = some (if isFunB b = true then .builtin (bltId b) else .type (bltId b)) := by
  cases b <;> decide +kernel
theorem bltName_mem (b : Blt) : bltName b ∈ bltNames := by cases b <;> decide +kernel
theorem bltName_ne (b : Blt) : bltName b ≠ "__name__" ∧ (bltName b == ("__debug__" : Str)) = false := by cases b <;> decide +kernel
theorem tyName_boot (t : Ty) : bootBuiltins (tyName t) = some (.type (tyId t)) := by cases t <;> decide +kernel
theorem tyName_mem (t : Ty) : tyName t ∈ bltNames := by cases t <;> decide +kernel
theorem tyName_ne (t : Ty) : tyName t ≠ "__name__" ∧ (tyName t == ("__debug__" : Str)) = false := by cases t <;> decide +kernel

section
variable {X : Cx} {c : Sc} {B : Sto} {HB : Hp} {Er : QE}
/-- a call's reading -/
theorem call_mono {sp : DSp} {wa : SD → Sto → (List Dat → Sto → Prop) → Prop} : ∀ σ H Q, TEo X.K B HB (fun δ S q => wa δ S fun ds S1 => sp ds S1 q fun x S2 => Er x δ S2) σ H Q →
    tCallS (SpOf X.K sp) (WE (WXd X.K B HB Er)) (TAo X.K B HB wa) σ H Q := by
  intro σ H Q h
  obtain ⟨δ, S, q, hσ, hS, hB, hw, fin⟩ := h
  refine ⟨δ, S, _, hσ, hS, hB, hw, fun vs H1 ds S1 r1 rr f1 h1 => ?_⟩
  exact ⟨ds, S1, q, _, r1, rr, h1, fin.at f1, fun cls d H2 x S2 r2 xr f2 h2 => ⟨δ, S2, x, hσ.keep ((TK.of_fr hS f1).trans (TK.of_fr r1 f2)), r2, (hB.trans f1).trans f2, xr, h2⟩⟩
theorem pe_callS0 {f : Addr} {fd : FuncData} {ps : List Str} {k : Nat} {sp : Sp} {CX : CXT} {E : L2.St → XK} {x : Str} {p pos : Pos} (F : FnOk X.prog X.w X.K X.mg X.base CX k f fd ps sp) (hr : Room k X.A) (hg : Gl X x) (hm : X.mg x = some (.ref f)) (hk : PySem.W.keepIn X.K (.ref f) = true) (hb : Binds X.K fd ps [])
    (hx : ∀ σ, PassesAt CX X σ (E σ)) (hdb : (x == ("__debug__" : Str)) = false) : PE X (.Call (.Name x p) [] [] pos) (tCallS sp E tNil) := by
  refine ⟨fun pins s σ H Q I h => ?_⟩
  refine wpAny_Call_Name_kw (ld_glob I hg hm ?_ hdb)
  exact PySem.W.callWith_K0 I.kIn hk (run_fnS (us := []) F hr hb (hx σ) I .nil h)
end
theorem RpXs.keep {K : PySem.W.Frag} {H0 H H' : Hp} {S S' : Sto} (r : Rel K S H) (f : Fr S H S' H') : ∀ {xs : List XD} {vs : List V}, RpXs K H0 H S xs vs → RpXs K H0 H' S' xs vs
  | [], _, h => h
  | x :: xs, _, h => let ⟨v, t, e, h1, h2⟩ := h; ⟨v, t, e, h1.keep r f, RpXs.keep r f h2⟩
theorem RpXs.base {K : PySem.W.Frag} {H0 H1 H : Hp} {S : Sto} (f : ∀ a, H1 a = none → H0 a = none) : ∀ {xs : List XD} {vs : List V}, RpXs K H1 H S xs vs → RpXs K H0 H S xs vs
  | [], _, h => h
  | x :: xs, _, h => let ⟨v, t, e, h1, h2⟩ := h; ⟨v, t, e, h1.base f, RpXs.base f h2⟩

theorem compX_core {X : Cx} {c : Sc} {B : Sto} {HB : Hp} {Er : QE} {elt : E} {tg : Tg} {src : Src} {cond : Eo} {t : Expr} (h2 : ckT c tg t = true) : ∀ σ H Q, TEo X.K B HB (wpX (.comp elt tg src cond) Er) σ H Q →
    tLc (TIo X.K (isTupE t) B HB (wpSrc src Er)) (gT X.K tg) (TCo X.K B HB (wpC cond)) (TEo X.K B HB (wpX elt E0)) (slotsT tg) σ H Q := fun σ H Q h => by
  refine comp_core (we := wpX elt E0) (wc := wpC cond) h2 σ H Q ?_
  obtain ⟨δ, S, q, hσ, hS, hB, hw, fin⟩ := h
  unfold wpX at hw
  exact ⟨δ, S, q, hσ, hS, hB, hw, fin⟩
theorem compK_core {X : Cx} {c : Sc} {B : Sto} {HB : Hp} {Er : QE} {elt : E} {i j : Nat} {cond : Eo} {t : Str} {tp : Pos} (h2 : ckT c (.n i) (.Name t tp) = true) : ∀ σ H Q, TEo X.K B HB (wpX (.compK elt i j cond) Er) σ H Q →
    tLockE (tLc (iKeys (tVar j)) (gT X.K (.n i)) (TCo X.K B HB (wpC cond)) (TEo X.K B HB (wpX elt E0)) [i]) σ H Q := fun σ H Q h => by
  obtain ⟨δ, S, q, hσ, hS, hB, hw, fin⟩ := h
  unfold wpX at hw
  split at hw
  · rename_i a ea
    split at hw
    · rename_i kvs e
      obtain ⟨hz, hw⟩ := hw
      obtain ⟨vs, qa, kr⟩ := hS a _ e
      obtain ⟨v, ev, rv⟩ := hσ.2 _ _ ea
      have rv : v = .ref a := rv
      subst rv
      refine ⟨a, .dK vs, qa, trivial, fun od => ?_⟩
      obtain ⟨rl, fl⟩ := lock_rel (od := od) hS e qa kr
      have core := comp_core (X := X) (B := B) (HB := HB) (we := wpX elt E0) (wc := wpC cond) (ws := fun _ S k => k (kvs.map fun (kv : Key × Dat) => keyD kv.1) (fun _ => True) S) h2 σ (upd H a (.frz od (.dK vs))) (fun v H' => H' a = some (.frz od (.dK vs)) ∧ Q v (upd H' a (.dK vs)))
        ⟨δ, _, fun x S2 => q x (supd S2 a (.dct kvs)), hσ.keep (TK.of_fr hS fl), rl, hB.trans fl, hw, fun v' H' z S' r rx f hq => by
          obtain ⟨u1, u2, u3, u4⟩ := unlock_rel hS e qa kr r f
          refine ⟨u1, fin v' _ z _ u2 ?_ u3 hq⟩
          cases z with
          | d d => exact Rp.keep u4 d v' rx
          | l ds =>
            obtain ⟨p, ws, e1, e2, rr, n, z0⟩ := rx
            have hp : p ≠ a := by intro y; subst y; rw [upd_same] at z0; cases z0
            exact ⟨p, ws, e1, by rw [upd_ne hp]; exact e2, RpL.keep u4 _ _ rr, by rw [supd_ne hp]; exact n, upd_none z0⟩⟩
      obtain ⟨δ0, S0, k0, hσ0, hS0, hB0, hw0, fin0⟩ := core
      exact ⟨.ref a, ev, a, od, rfl, .inl ⟨vs, upd_same, fin0 _ _ _ _ S0 hS0 .refl (wk_keys hz (kr.keep (TK.of_fr hS fl)) upd_same) hw0⟩⟩
    · cases hw
  · cases hw
theorem ckSrc_fold {s : Src} {c : Sc} {t ex : Expr} {env : Env} (h : ckSrc s c t ex = true) : ∀ x, foldedSetIterable ex env x = pure x := by
  intro x
  cases s with
  | seq e => unfold ckSrc at h; simp only [Bool.and_eq_true] at h; exact plain_fold h.1 x
  | rng1 a => unfold ckSrc at h; split at h <;> first | rfl | cases h
  | rng2 a b => unfold ckSrc at h; split at h <;> first | rfl | cases h
  | enum a => unfold ckSrc at h; split at h <;> first | rfl | cases h
  | zip a b => unfold ckSrc at h; split at h <;> first | rfl | cases h
mutual
theorem sE : ∀ (e : E) {X : Cx} {c : Sc} {B : Sto} {HB : Hp} {Er : QE} (_ : Good X c B HB Er) {ex : Expr}, ckE e c ex = true → okE (CallOk X) (GlobOk X) e → PE X ex (TEo X.K B HB (wpX e Er)) ∧ PT X ex (TTo X.K B HB (wpX e Er))
  | .v i, X, c, B, HB, Er, g, ex, hck, hok => by
    unfold ckE at hck
    split at hck
    · rename_i x p
      simp only [Bool.and_eq_true, Bool.not_eq_true', decide_eq_true_eq] at hck
      have pe : PE X (.Name x p) (TEo X.K B HB (wpX (.v i) Er)) := peM (pe_var (by rw [g.hN]; exact hck.1.1.1) (g.vis hck.1.1.2) hck.1.2 hck.2) fun σ H Q h => by
        obtain ⟨δ, S, q, hσ, hS, hB, hw, fin⟩ := h
        unfold wpX at hw
        split at hw
        · rename_i d e
          obtain ⟨v, e1, rp⟩ := hσ.2 _ _ e
          exact ⟨v, e1, fin.same hS rp hw⟩
        · cases hw
      exact ⟨pe, pt_of pe fun _ => rfl⟩
    · cases hck
  | .c d, X, c, B, HB, Er, g, ex, hck, hok => by
    unfold ckE at hck
    split at hck
    · rename_i k j p
      have fin : ∀ {v : V}, (∀ H, Rp X.K H d v) → ∀ σ H Q, TEo X.K B HB (wpX (.c d) Er) σ H Q → tC v σ H Q := fun {v} hv σ H Q h => by
        obtain ⟨δ, S, q, hσ, hS, hB, hw, fin⟩ := h
        unfold wpX at hw
        exact fin.same hS (hv H) hw
      split at hck
      · have pe := peM (pe_non (X := X) (j := j) (pos := p)) (fin fun _ => rfl)
        exact ⟨pe, pt_of pe fun _ => rfl⟩
      · have e := eq_of_beq hck
        subst e
        have pe := peM (pe_bl (X := X) (j := j) (pos := p)) (fin fun _ => rfl)
        exact ⟨pe, pt_of pe fun _ => rfl⟩
      · have e := eq_of_beq hck
        subst e
        have pe := peM (pe_int (X := X) (j := j) (pos := p)) (fin fun _ => rfl)
        exact ⟨pe, pt_of pe fun _ => rfl⟩
      · have e := eq_of_beq hck
        subst e
        have pe := peM (pe_str (X := X) (j := j) (pos := p)) (fin fun _ => rfl)
        exact ⟨pe, pt_of pe fun _ => rfl⟩
      · cases hck
    · cases hck
  | .g x d, X, c, B, HB, Er, g, ex, hck, hok => by
    unfold ckE at hck
    split at hck
    · rename_i y p
      simp only [Bool.and_eq_true, Bool.not_eq_true'] at hck
      obtain ⟨⟨h1, h2⟩, h3⟩ := hck
      have e := eq_of_beq h1
      subst e
      unfold okE at hok
      obtain ⟨u, v, hm, rv, rp⟩ := hok
      have pe := peM (pe_glob (X := X) (pos := p) (g.gl h2) hm rv h3) (t' := TEo X.K B HB (wpX (.g x d) Er)) fun σ H Q h => by
        obtain ⟨δ, S, q, hσ, hS, hB, hw, fin⟩ := h
        unfold wpX at hw
        exact fin.same hS (rp H) hw
      exact ⟨pe, pt_of pe fun _ => rfl⟩
    · cases hck
  | .bin op a b, X, c, B, HB, Er, g, ex, hck, hok => by
    unfold ckE at hck
    split at hck
    · rename_i l o r p
      simp only [Bool.and_eq_true, decide_eq_true_eq] at hck
      obtain ⟨⟨h1, h2⟩, h3⟩ := hck
      subst h1
      unfold okE at hok
      have ha := (sE a g h2 hok.1).1
      have hb := (sE b g h3 hok.2).1
      have pe := peM (pe_op (pos := p) (op_bin op) ha hb) (t' := TEo X.K B HB (wpX (.bin op a b) Er)) fun σ H Q h => by
        obtain ⟨δ, S, q, hσ, hS, hB, hw, fin⟩ := h
        unfold wpX at hw
        exact te2 hσ hS hB hw fun v u H2 x y S2 r rx ry f h => rBin_of r f.dom rx ry h (fin.go f)
      exact ⟨pe, pt_of pe fun _ => rfl⟩
    · cases hck
  | .neg a, X, c, B, HB, Er, g, ex, hck, hok => by
    unfold ckE at hck
    split at hck
    · rename_i l p
      unfold okE at hok
      have ha := (sE a g hck hok).1
      have pe := peM (pe_un (pos := p) un_neg ha) (t' := TEo X.K B HB (wpX (.neg a) Er)) fun σ H Q h => by
        obtain ⟨δ, S, q, hσ, hS, hB, hw, fin⟩ := h
        unfold wpX at hw
        refine te1 hσ hS hB hw fun v H2 x S2 r rx f h => ?_
        obtain ⟨i, rfl, rfl, h⟩ := getI_of rx h
        exact ⟨i, rfl, (fin.go f).int r h⟩
      exact ⟨pe, pt_of pe fun _ => rfl⟩
    · cases hck
  | .cmp op a b, X, c, B, HB, Er, g, ex, hck, hok => by
    have hu : X.A.units + 64 < cLine := by have := g.room; omega
    unfold ckE at hck
    split at hck
    · rename_i l o r p
      simp only [Bool.and_eq_true, decide_eq_true_eq] at hck
      obtain ⟨⟨⟨h1, h2⟩, h3⟩, h4⟩ := hck
      subst h1
      unfold okE at hok
      have ha := (sE a g h2 hok.1).1
      have hb := (sE b g h3 hok.2).1
      refine ⟨peM (pe_cmpR (pos := p) (op_cmp hu op) ha hb (plain_mark h4)) fun σ H Q h => ?_, ptM (pt_cmpR (pos := p) (op_cmp hu op) ha hb (plain_mark h4)) fun σ H Q h => ?_⟩
      · obtain ⟨δ, S, q, hσ, hS, hB, hw, fin⟩ := h
        unfold wpX at hw
        exact te2 hσ hS hB hw fun v u H2 x y S2 r rx ry f h => rCmp_of r rx ry h fun b hb => (fin.go f).bl r hb
      · obtain ⟨δ, S, q, hσ, hS, hB, hw, fin⟩ := h
        unfold wpX at hw
        refine te2 hσ hS hB hw fun v u H2 x y S2 r rx ry f h => rCmp_of r rx ry h fun b hb => ⟨b, rfl, ?_⟩
        obtain ⟨b', e, hq⟩ := fin (.bl b) H2 (.d (.bl b)) S2 r rfl f hb
        have e : b' = b := e
        rw [← e]; exact hq
    · cases hck
  | .cmp2 o p a b d, X, c, B, HB, Er, g, ex, hck, hok => by
    have hu : X.A.units + 64 < cLine := by have := g.room; omega
    unfold ckE at hck
    split at hck
    · rename_i l o' p' m r pos
      simp only [Bool.and_eq_true, decide_eq_true_eq] at hck
      obtain ⟨⟨⟨⟨⟨h1, h2⟩, h3⟩, h4⟩, h5⟩, h6⟩ := hck
      subst h1 h2
      unfold okE at hok
      have ha := (sE a g h3 hok.1).1
      have hb := (sE b g h4 hok.2.1).1
      have hd := (sE d g h5 hok.2.2).1
      refine ⟨peM (pe_chain (pos := pos) (op_cmp hu o) (op_cmp hu p) ha hb hd (plain_marks h6)) fun σ H Q h => ?_, ptM (pt_chain (pos := pos) (op_cmp hu o) (op_cmp hu p) ha hb hd (plain_marks h6)) fun σ H Q h => ?_⟩
      · obtain ⟨δ, S, q, hσ, hS, hB, hw, fin⟩ := h
        unfold wpX at hw
        refine te2 hσ hS hB hw fun v u H2 x y S2 r rx ry f h => rCmp_of r rx ry h fun k hk => ⟨k, rfl, ?_⟩
        cases k with
        | false => exact (fin.go f).bl r hk
        | true =>
          simp only [if_true] at hk ⊢
          refine te1 (hσ.keep (TK.of_fr hS f)) r (hB.trans f) hk fun w H3 z S3 r3 rz f3 h3 => ?_
          exact rCmp_of r3 (ry.keep r f3) (rz.base f.dom) h3 fun k hk => ((fin.go f).go f3).bl r3 hk
      · obtain ⟨δ, S, q, hσ, hS, hB, hw, fin⟩ := h
        unfold wpX at hw
        refine te2 hσ hS hB hw fun v u H2 x y S2 r rx ry f h => rCmp_of r rx ry h fun k hk => ⟨k, rfl, ?_⟩
        have fin2 : ∀ (k : Bool) (H3 : Hp) (S3 : Sto), Rel X.K S3 H3 → Fr S H S3 H3 → q (.d (.bl k)) S3 → ∃ k', V.bl k = .bl k' ∧ Q k' H3 := fun k H3 S3 r3 f3 hq => by
          obtain ⟨b', e, hq⟩ := fin (.bl k) H3 (.d (.bl k)) S3 r3 rfl f3 hq
          have e : b' = k := e
          exact ⟨k, rfl, by rw [← e]; exact hq⟩
        cases k with
        | false => exact fin2 false H2 S2 r f hk
        | true =>
          simp only [if_true] at hk ⊢
          refine te1 (hσ.keep (TK.of_fr hS f)) r (hB.trans f) hk fun w H3 z S3 r3 rz f3 h3 => ?_
          exact rCmp_of r3 (ry.keep r f3) (rz.base f.dom) h3 fun k hk => fin2 k H3 S3 r3 (f.trans f3) hk
    · cases hck
  | .bool isAnd a es, X, c, B, HB, Er, g, ex, hck, hok => by
    unfold ckE at hck
    split at hck
    · rename_i o x y xs p
      simp only [Bool.and_eq_true, decide_eq_true_eq] at hck
      obtain ⟨⟨h1, h2⟩, h3⟩ := hck
      subst h1
      unfold okE at hok
      have ha := sE a g h2 hok.1
      have hb := sBo es g isAnd (wpX a Er) x (y :: xs) p ha.1 ha.2 h3 hok.2
      refine ⟨peM hb.1 fun σ H Q h => ?_, ptM hb.2.pt fun σ H Q h => ?_⟩
      · obtain ⟨δ, S, q, hσ, hS, hB, hw, fin⟩ := h
        unfold wpX at hw
        exact ⟨δ, S, q, hσ, hS, hB, hw, fin⟩
      · obtain ⟨δ, S, q, hσ, hS, hB, hw, fin⟩ := h
        unfold wpX at hw
        exact ⟨δ, S, q, hσ, hS, hB, hw, fin⟩
    · cases hck
  | .not a, X, c, B, HB, Er, g, ex, hck, hok => by
    unfold ckE at hck
    split at hck
    · rename_i l p
      unfold okE at hok
      have ha := sE a g hck hok
      refine ⟨peM (pe_notT (pos := p) ha.1) fun σ H Q h => ?_, ptM (pt_not (pos := p) ha.2) fun σ H Q h => ?_⟩
      · obtain ⟨δ, S, q, hσ, hS, hB, hw, fin⟩ := h
        unfold wpX at hw
        refine te1 hσ hS hB hw fun v H2 x S2 r rx f h => ?_
        obtain ⟨b, t, hk⟩ := tru_of r rx h
        exact ⟨b, t, (fin.go f).bl r hk⟩
      · obtain ⟨δ, S, q, hσ, hS, hB, hw, fin⟩ := h
        unfold wpX at hw
        refine ⟨δ, S, _, hσ, hS, hB, hw, fun v H2 x S2 r rx f h => ?_⟩
        obtain ⟨b, t, hk⟩ := tru_of r rx h
        refine ⟨b, t, ?_⟩
        obtain ⟨b', e, hq⟩ := fin (.bl (!b)) H2 (.d (.bl (!b))) S2 r rfl f hk
        have e : b' = !b := e
        rw [← e]; exact hq
    · cases hck
  | .ite k a b, X, c, B, HB, Er, g, ex, hck, hok => by
    unfold ckE at hck
    split at hck
    · rename_i t x y p
      simp only [Bool.and_eq_true] at hck
      obtain ⟨⟨h1, h2⟩, h3⟩ := hck
      unfold okE at hok
      have hc := sE k g h1 hok.1
      have ha := sE a g h2 hok.2.1
      have hb := sE b g h3 hok.2.2
      refine ⟨peM (pe_ifExp (pos := p) hc.2 ha.1 hb.1) fun σ H Q h => ?_, ⟨fun pins s σ H Q I h => ?_⟩⟩
      · obtain ⟨δ, S, q, hσ, hS, hB, hw, fin⟩ := h
        unfold wpX at hw
        refine ⟨δ, S, _, hσ, hS, hB, hw, fun v H2 x S2 r rx f h => ?_⟩
        obtain ⟨b, t, hk⟩ := tru_of r rx h
        refine ⟨b, t, ?_⟩
        cases b with
        | true => exact ⟨δ, S2, q, hσ.keep (TK.of_fr hS f), r, hB.trans f, hk, fin.at f⟩
        | false => exact ⟨δ, S2, q, hσ.keep (TK.of_fr hS f), r, hB.trans f, hk, fin.at f⟩
      · obtain ⟨δ, S, q, hσ, hS, hB, hw, fin⟩ := h
        unfold wpX at hw
        refine isTrue_IfExp (thn (hc.2.run pins s σ H (fun kk H2 => ∃ S2, Rel X.K S2 H2 ∧ Fr S H S2 H2 ∧ if kk = true then wpX a Er δ S2 q else wpX b Er δ S2 q) I ⟨δ, S, _, hσ, hS, hB, hw, fun v H2 x S2 r rx f h => ?_⟩) fun kk s1 ⟨H1, I1, S1, r1, f1, h1⟩ => ?_)
        · obtain ⟨b, t, hk⟩ := tru_of r rx h
          exact ⟨b, t, S2, r, f, hk⟩
        · have fin1 : ∀ v H' x S', Rel X.K S' H' → RpX X.K H1 H' S' x v → Fr S1 H1 S' H' → q x S' → ∃ b, TruV X.K v H' b ∧ Q b H' := fun v H' x S' r rx f h => fin v H' x S' r (rx.base f1.dom) (f1.trans f) h
          cases kk with
          | true => exact ha.2.run pins s1 σ H1 Q I1 ⟨δ, S1, q, hσ.keep (TK.of_fr hS f1), r1, hB.trans f1, h1, fin1⟩
          | false => exact hb.2.run pins s1 σ H1 Q I1 ⟨δ, S1, q, hσ.keep (TK.of_fr hS f1), r1, hB.trans f1, h1, fin1⟩
    · cases hck
  | .tup es, X, c, B, HB, Er, g, ex, hck, hok => by
    unfold ckE at hck
    split at hck
    · rename_i xs k p
      unfold okE at hok
      have pe := peM (pe_tupN (x1 := k) (pos := p) (sA es g hck hok)) (t' := TEo X.K B HB (wpX (.tup es) Er)) fun σ H Q h => by
        obtain ⟨δ, S, q, hσ, hS, hB, hw, fin⟩ := h
        unfold wpX at hw
        exact ⟨δ, S, _, hσ, hS, hB, hw, fun vs H1 ds S1 r1 rr f1 h1 => ⟨by rw [rr.length]; exact h1.1, fun p o hp ho => (fin.go f1).tup r1 rr h1.2 hp ho⟩⟩
      exact ⟨pe, pt_of pe fun _ => rfl⟩
    · cases hck
  | .lst es, X, c, B, HB, Er, g, ex, hck, hok => by
    unfold ckE at hck
    split at hck
    · rename_i xs p
      unfold okE at hok
      have pe := peM (pe_lst (pos := p) (sA es g hck hok)) (t' := TEo X.K B HB (wpX (.lst es) Er)) fun σ H Q h => by
        obtain ⟨δ, S, q, hσ, hS, hB, hw, fin⟩ := h
        unfold wpX at hw
        exact ⟨δ, S, _, hσ, hS, hB, hw, fun vs H1 ds S1 r1 rr f1 h1 => ⟨by rw [rr.length]; exact h1.1, fun p hp => (fin.go f1).lst r1 f1.dom rr h1.2 hp⟩⟩
      exact ⟨pe, pt_of pe fun _ => rfl⟩
    · cases hck
  | .dct0, X, c, B, HB, Er, g, ex, hck, hok => by
    unfold ckE at hck
    split at hck
    · rename_i p
      have pe := peM (pe_dnewK (X := X) (pos := p)) (t' := TEo X.K B HB (wpX .dct0 Er)) fun σ H Q h => by
        obtain ⟨δ, S, q, hσ, hS, hB, hw, fin⟩ := h
        unfold wpX at hw
        exact fun p hp => fin _ _ (.d (.ref p)) _ (hS.new hp (mo := .dct []) ⟨[], upd_same, rfl, .nil⟩) rfl (.new hp) (hw p (hS.free hp))
      exact ⟨pe, pt_of pe fun _ => rfl⟩
    · cases hck
  | .ix a b, X, c, B, HB, Er, g, ex, hck, hok => by
    have hu : X.A.units + 1 < cLine := by have := g.room; omega
    unfold ckE at hck
    split at hck
    · rename_i l r p
      simp only [Bool.and_eq_true] at hck
      obtain ⟨⟨h2, h3⟩, h4⟩ := hck
      unfold okE at hok
      have ha := (sE a g h2 hok.1).1
      have hb := (sE b g h3 hok.2).1
      have pe := peM (pe_ix (pos := p) (ix_all hu) ha hb (plain_sub h4)) (t' := TEo X.K B HB (wpX (.ix a b) Er)) fun σ H Q h => by
        obtain ⟨δ, S, q, hσ, hS, hB, hw, fin⟩ := h
        unfold wpX at hw
        exact te2 hσ hS hB hw fun v u H2 x y S2 r rx ry f h => rIx_of r rx ry h (fin.go f)
      exact ⟨pe, pt_of pe fun _ => rfl⟩
    · cases hck
  | .ixn a n, X, c, B, HB, Er, g, ex, hck, hok => by
    have hu : X.A.units + 1 < cLine := by have := g.room; omega
    unfold ckE at hck
    split at hck
    · rename_i l i j p1 p
      simp only [Bool.and_eq_true, decide_eq_true_eq] at hck
      obtain ⟨h1, h2⟩ := hck
      subst h1
      unfold okE at hok
      have ha := (sE a g h2 hok).1
      have pe := peM (pe_ix (pos := p) (ix_all hu) ha (pe_int (j := j) (pos := p1)) (plain_sub rfl)) (t' := TEo X.K B HB (wpX (.ixn a n) Er)) fun σ H Q h => by
        obtain ⟨δ, S, q, hσ, hS, hB, hw, fin⟩ := h
        unfold wpX at hw
        exact te1 hσ hS hB hw fun v H2 x S2 r rx f h => rIxn_of r rx h (fin.go f)
      exact ⟨pe, pt_of pe fun _ => rfl⟩
    · cases hck
  | .ixm a, X, c, B, HB, Er, g, ex, hck, hok => by
    have hu : X.A.units + 1 < cLine := by have := g.room; omega
    unfold ckE at hck
    split at hck
    · rename_i l j p1 p2 p
      unfold okE at hok
      have ha := (sE a g hck hok).1
      have pe := peM (pe_ix (pos := p) (ix_all hu) ha (pe_un (pos := p2) un_neg (pe_int (j := j) (pos := p1))) (plain_sub rfl)) (t' := TEo X.K B HB (wpX (.ixm a) Er)) fun σ H Q h => by
        obtain ⟨δ, S, q, hσ, hS, hB, hw, fin⟩ := h
        unfold wpX at hw
        exact te1 hσ hS hB hw fun v H2 x S2 r rx f h => ⟨1, rfl, rIxm_of r rx h (fin.go f)⟩
      exact ⟨pe, pt_of pe fun _ => rfl⟩
    · cases hck
  | .sl a lo hi, X, c, B, HB, Er, g, ex, hck, hok => by
    unfold ckE at hck
    split at hck
    · rename_i l x y p1 p
      simp only [Bool.and_eq_true] at hck
      obtain ⟨⟨h1, h2⟩, h3⟩ := hck
      unfold okE at hok
      have ha := (sE a g h1 hok.1).1
      have hl := sO lo g h2 hok.2.1
      have hh := sO hi g h3 hok.2.2
      have pe := peM (pe_slice (pos := p) (p2 := p1) sl_all ha hl hh) (t' := TEo X.K B HB (wpX (.sl a lo hi) Er)) fun σ H Q h => by
        obtain ⟨δ, S, q, hσ, hS, hB, hw, fin⟩ := h
        unfold wpX at hw
        refine te1 hσ hS hB hw fun v H1 x S1 r1 rx f1 h1 => ?_
        refine ⟨δ, S1, _, hσ.keep (TK.of_fr hS f1), r1, hB.trans f1, h1, fun o1 H2 S2 r2 f2 h2 => ?_⟩
        refine ⟨δ, S2, _, hσ.keep (TK.of_fr hS (f1.trans f2)), r2, (hB.trans f1).trans f2, h2, fun o2 H3 S3 r3 f3 h3 => ?_⟩
        have fa := (f1.trans f2).trans f3
        exact rSl_of r3 fa.dom (rx.keep r1 (f2.trans f3)) h3 (fin.go fa)
      exact ⟨pe, pt_of pe fun _ => rfl⟩
    · cases hck
  | .call f sp es, X, c, B, HB, Er, g, ex, hck, hok => by
    unfold ckE at hck
    split at hck
    · rename_i x p xs pos
      simp only [Bool.and_eq_true, Bool.not_eq_true'] at hck
      obtain ⟨⟨⟨h1, h2⟩, h3⟩, h4⟩ := hck
      have e := eq_of_beq h1
      subst e
      unfold okE at hok
      obtain ⟨⟨a, fd, ps, k, F, hr, hm, hk, hb⟩, hok⟩ := hok
      have hA := sA es g h4 hok
      have pe : PE X (.Call (.Name x p) xs [] pos) (TEo X.K B HB (wpX (.call x sp es) Er)) := by
        have mono : ∀ σ H Q, TEo X.K B HB (wpX (.call x sp es) Er) σ H Q → tCallS (SpOf X.K sp) (WE (WXd X.K B HB Er)) (TAo X.K B HB (wpA es Er)) σ H Q := fun σ H Q h => by
          refine call_mono σ H Q ?_
          obtain ⟨δ, S, q, hσ, hS, hB, hw, fin⟩ := h
          unfold wpX at hw
          exact ⟨δ, S, q, hσ, hS, hB, hw, fin⟩
        cases xs with
        | nil =>
          refine peM (pe_callS0 F hr (g.gl h2) hm hk hb (fun σ => passAt g.tk σ) h3) fun σ H Q h => ?_
          have h := mono σ H Q h
          cases es with
          | nil =>
            obtain ⟨δ, S, k, hσ, hS, hB, hw, fin⟩ := h
            unfold wpA at hw
            exact fin [] H [] S hS .nil .refl hw
          | cons _ _ => unfold ckEs at h4; cases h4
        | cons x1 xr =>
          have hp := ckEs_plain h4
          have hp1 : plainE x1 = true ∧ allPlain xr = true := by
            unfold allPlain at hp ⊢
            rw [List.all_cons, Bool.and_eq_true] at hp
            exact hp
          exact peM (pe_callS F hr (g.gl h2) hm hk hb (fun σ => passAt g.tk σ) hA h3 (star_plain hp1.1) (star_any hp1.2)) mono
      exact ⟨pe, pt_of pe fun _ => rfl⟩
    · cases hck
  | .blt b es, X, c, B, HB, Er, g, ex, hck, hok => by
    have hu : X.A.units + 70 < cLine := by have := g.room; omega
    unfold ckE at hck
    split at hck
    · rename_i x p e1 xs pos
      simp only [Bool.and_eq_true] at hck
      obtain ⟨⟨h1, h2⟩, h4⟩ := hck
      have e := eq_of_beq h1
      subst e
      unfold okE at hok
      have hA := sXs es g h4 hok
      have hp := ckEs_plain h4
      have hp1 : plainE e1 = true ∧ allPlain xs = true := by
        unfold allPlain at hp ⊢
        rw [List.all_cons, Bool.and_eq_true] at hp
        exact hp
      have cr := cr_blt g.calm hu b
      have bo := bltName_boot b
      have hm := g.blt _ (bltName_mem b)
      have mono : ∀ σ H Q, TEo X.K B HB (wpX (.blt b es) Er) σ H Q → tCB (rBlt X.K b) (TXo X.K B HB (wpXs es Er)) σ H Q := fun σ H Q h => by
        obtain ⟨δ, S, q, hσ, hS, hB, hw, fin⟩ := h
        unfold wpX at hw
        exact ⟨δ, S, _, hσ, hS, hB, hw, fun vs H1 ds S1 r1 rr f1 h1 => rBlt_of r1 f1.dom rr h1 (fin.go f1)⟩
      have pe : PE X (.Call (.Name (bltName b) p) (e1 :: xs) [] pos) (TEo X.K B HB (wpX (.blt b es) Er)) := by
        by_cases hb : isFunB b = true
        · rw [if_pos hb] at cr bo
          exact peM (pe_callB cr (g.gl h2) hm bo hA (bltName_ne b).1 (bltName_ne b).2 (star_plain hp1.1) (star_any hp1.2)) mono
        · rw [if_neg hb] at cr bo
          exact peM (pe_callTy cr (g.gl h2) hm bo hA (bltName_ne b).1 (bltName_ne b).2 (star_plain hp1.1) (star_any hp1.2)) mono
      exact ⟨pe, pt_of pe fun _ => rfl⟩
    · cases hck
  | .isi a t, X, c, B, HB, Er, g, ex, hck, hok => by
    unfold ckE at hck
    split at hck
    · rename_i x p e1 y py pos
      simp only [Bool.and_eq_true] at hck
      obtain ⟨⟨⟨⟨⟨h1, h2⟩, h3⟩, h4⟩, hp⟩, h5⟩ := hck
      have e := eq_of_beq h1
      subst e
      have e := eq_of_beq h3
      subst e
      unfold okE at hok
      have ha := (sE a g h5 hok).1
      have hty : PE X (.Name (tyName t) py) (tC (.ty (tyId t))) := pe_bltn (g.gl h4) (g.blt _ (tyName_mem t)) (tyName_boot t) rfl (tyName_ne t).1 (tyName_ne t).2
      have pe := peM (pe_callB (call_isi (X := X)) (g.gl h2) (g.blt _ (by decide +kernel)) PyProof.Rows.boot_isinstance (pa_cons ha (pa_cons hty pa_nil) (star_plain hp)) (p := p) (pos := pos) (by decide) (by decide +kernel) (star_plain hp) rfl) (t' := TEo X.K B HB (wpX (.isi a t) Er)) fun σ H Q h => by
        obtain ⟨δ, S, q, hσ, hS, hB, hw, fin⟩ := h
        unfold wpX at hw
        exact te1 hσ hS hB hw fun v H2 x S2 r rx f h => rIsi_of r rx h fun b hb => (fin.go f).bl r hb
      exact ⟨pe, pt_of pe fun _ => rfl⟩
    · cases hck
  | .mth m o es, X, c, B, HB, Er, g, ex, hck, hok => by
    have hu : X.A.units + 64 < cLine := by have := g.room; omega
    unfold ckE at hck
    split at hck
    · rename_i l x ap xs cp
      simp only [Bool.and_eq_true, decide_eq_true_eq] at hck
      obtain ⟨⟨⟨⟨⟨h1, h2⟩, h3⟩, h4⟩, h5⟩, h6⟩ := hck
      have e := eq_of_beq h1
      subst e
      unfold okE at hok
      have ho := (sE o g h5 hok.1).1
      have hA := sXs es g h6 hok.2
      have pe : PE X (.Call (.Attribute l (mthName m) ap) xs [] cp) (TEo X.K B HB (wpX (.mth m o es) Er)) := by
        have mono : ∀ σ H Q, TEo X.K B HB (wpX (.mth m o es) Er) σ H Q → tMt X (mthName m) (TEo X.K B HB (wpX o Er)) (TXo X.K B HB (wpXs es Er)) σ H Q := fun σ H Q h => by
          obtain ⟨δ, S, q, hσ, hS, hB, hw, fin⟩ := h
          unfold wpX at hw
          refine te1 hσ hS hB hw fun v H1 x S1 r1 rx f1 h1 => ?_
          obtain ⟨rr, sel, go⟩ := mth_of hu r1 rx h1.1
          refine ⟨rr, sel, δ, S1, _, hσ.keep (TK.of_fr hS f1), r1, hB.trans f1, h1.2, fun ws H2 ys S2 r2 rxs f2 h2 => ?_⟩
          exact go S H2 S2 ys ws q Q r2 (rx.keep r1 f2) (rxs.base f1.dom) (f1.trans f2) h2 fin
        cases xs with
        | nil =>
          refine peM (pe_mt0 (cpos := cp) ho (nosup_base h3) h2) fun σ H Q h => ?_
          obtain ⟨δ, S, k, hσ, hS, hB, hw, fin⟩ := mono σ H Q h
          cases es with
          | nil =>
            refine ⟨δ, S, k, hσ, hS, hB, hw, fun v' H' z S' r rx f hk => ?_⟩
            obtain ⟨rr, sel, δ', S1, k', hσ', hS', hB', hw', fin'⟩ := fin v' H' z S' r rx f hk
            refine ⟨rr, sel, ?_⟩
            unfold wpXs at hw'
            exact fin' [] H' [] S1 hS' rfl .refl hw'
          | cons _ _ => unfold ckEs at h6; cases h6
        | cons x1 xr =>
          have hp := ckEs_plain h6
          have hp1 : plainE x1 = true ∧ allPlain xr = true := by
            unfold allPlain at hp ⊢
            rw [List.all_cons, Bool.and_eq_true] at hp
            exact hp
          refine peM (pe_mt (cpos := cp) ho hA (nosup_base h3) ?_ h2 (star_plain hp1.1) (star_any hp1.2)) mono
          rw [star_all hp]
          simp only [Bool.true_and, Bool.and_eq_true, decide_eq_true_eq]
          refine ⟨rfl, ?_⟩
          simp only [List.length_nil, List.isEmpty_nil, if_true]
          omega
      exact ⟨pe, pt_of pe fun _ => rfl⟩
    · cases hck
  | .comp elt tg src cond, X, c, B, HB, Er, g, ex, hck, hok => by
    unfold ckE at hck
    split at hck
    · rename_i e1 t iter ifs a scope p
      simp only [Bool.and_eq_true] at hck
      obtain ⟨⟨⟨⟨⟨h0, h1⟩, h2⟩, h3⟩, h4⟩, h5⟩ := hck
      have e := eq_of_beq h0
      subst e
      unfold okE at hok
      have ok : BlkOk X.N X.env.scope scope (ownOf c.N (slotsT tg)) := by
        rw [g.hN, g.sc]
        exact blkOk_by h1
      have hi := sSrc src g t h3 hok.2.1
      have pe := peM (pe_lc (pos := p) g.calm (by rw [g.hN]; exact g.nd) hi ok (fun s H C cl fp => sT (g.blk s H scope C cl fp) tg t h2) (fun s H C cl fp => sC cond (g.blk s H scope C cl fp) h4 hok.2.2)
        (fun s H C cl fp => (sE elt (g.blk s H scope C cl fp) h5 hok.1).1) (fun x => ckSrc_fold h3 x)) (t' := TEo X.K B HB (wpX (.comp elt tg src cond) Er)) fun σ H Q h => by
          rw [ownOf_slots]
          exact compX_core h2 σ H Q h
      exact ⟨pe, pt_of pe fun _ => rfl⟩
    · cases hck
  | .compK elt i j cond, X, c, B, HB, Er, g, ex, hck, hok => by
    unfold ckE at hck
    split at hck
    · rename_i e1 t tp d dp ifs a0 scope p
      simp only [Bool.and_eq_true, Bool.not_eq_true', decide_eq_true_eq] at hck
      obtain ⟨⟨⟨⟨⟨⟨⟨⟨h0, h1⟩, h2⟩, h3⟩, h4⟩, h5⟩, h6⟩, h7⟩, h8⟩ := hck
      have e := eq_of_beq h0
      subst e
      unfold okE at hok
      have ok : BlkOk X.N X.env.scope scope (ownOf c.N [i]) := by
        rw [g.hN, g.sc]
        exact blkOk_by h1
      have pv : PE X (.Name d dp) (tVar j) := pe_var (by rw [g.hN]; exact h3) (g.vis h4) h5 h6
      have pe := peM (pe_lock (pe_lc (pos := p) g.calm (by rw [g.hN]; exact g.nd) (pi_keys pv) ok (fun s H C cl fp => sT (g.blk s H scope C cl fp) (.n i) (.Name t tp) h2) (fun s H C cl fp => sC cond (g.blk s H scope C cl fp) h7 hok.2)
        (fun s H C cl fp => (sE elt (g.blk s H scope C cl fp) h8 hok.1).1))) (t' := TEo X.K B HB (wpX (.compK elt i j cond) Er)) fun σ H Q h => by
          rw [ownOf_slots]
          exact compK_core h2 σ H Q h
      exact ⟨pe, pt_of pe fun _ => rfl⟩
    · cases hck
theorem sBo : ∀ (es : Es) {X : Cx} {c : Sc} {B : Sto} {HB : Hp} {Er : QE} (_ : Good X c B HB Er) (isAnd : Bool) (wa : SD → Sto → QX → Prop) (x : Expr) (ys : List Expr) (pos : Pos), PE X x (TEo X.K B HB wa) → PT X x (TTo X.K B HB wa) →
    ckEs es c ys = true → okEs (CallOk X) (GlobOk X) es → PE X (.BoolOp (if isAnd = true then .And else .Or) (x :: ys) pos) (TEo X.K B HB fun δ S q => wa δ S fun y S1 => wpB isAnd es Er δ y S1 q) ∧
      PW X (.BoolOp (if isAnd = true then .And else .Or) (x :: ys) pos) (TTo X.K B HB fun δ S q => wa δ S fun y S1 => wpB isAnd es Er δ y S1 q)
  | .nil, X, c, B, HB, Er, g, isAnd, wa, x, ys, pos, hx, hx2, hck, hok => by
    unfold ckEs at hck
    cases ys with
    | cons _ _ => cases hck
    | nil =>
      refine ⟨peM (pe_one hx) fun σ H Q h => ?_, ?_⟩
      · obtain ⟨δ, S, q, hσ, hS, hB, hw, fin⟩ := h
        simp only [wpB] at hw
        exact ⟨δ, S, q, hσ, hS, hB, hw, fin⟩
      · cases isAnd with
        | true =>
          refine pwM (pw_and1 hx2) fun σ H Q h => ?_
          obtain ⟨δ, S, q, hσ, hS, hB, hw, fin⟩ := h
          simp only [wpB] at hw
          exact ⟨δ, S, q, hσ, hS, hB, hw, fin⟩
        | false =>
          refine pwM (pw_or1 hx2) fun σ H Q h => ?_
          obtain ⟨δ, S, q, hσ, hS, hB, hw, fin⟩ := h
          simp only [wpB] at hw
          exact ⟨δ, S, q, hσ, hS, hB, hw, fin⟩
  | .cons e es, X, c, B, HB, Er, g, isAnd, wa, x, ys, pos, hx, hx2, hck, hok => by
    unfold ckEs at hck
    cases ys with
    | nil => cases hck
    | cons y ys =>
      simp only [Bool.and_eq_true] at hck
      obtain ⟨⟨h1, h2⟩, h3⟩ := hck
      unfold okEs at hok
      have he := sE e g h2 hok.1
      have ih := sBo es g isAnd (wpX e Er) y ys pos he.1 he.2 h3 hok.2
      have m1 : ∀ {S S1 : Sto} {H H1 : Hp} {δ : SD} {σ : L2.St} {q : QX} {Q : VK} {v : V} {x : XD}, RpS X.K H δ σ → Rel X.K S H → Fr B HB S H → Fin X.K S H H q Q → Rel X.K S1 H1 → RpX X.K H H1 S1 x v → Fr S H S1 H1 → wpB isAnd (.cons e es) Er δ x S1 q →
          ∃ k, v = .bl k ∧ if k = isAnd then TEo X.K B HB (fun δ S q => wpX e Er δ S fun y S1 => wpB isAnd es Er δ y S1 q) σ H1 Q else Q (.bl k) H1 := fun hσ hS hB fin r rx f h => by
        unfold wpB at h
        obtain ⟨k, rfl, rfl, h2⟩ := getB_of rx h
        refine ⟨k, rfl, ?_⟩
        split at h2
        · rename_i hk
          rw [if_pos hk]
          exact ⟨_, _, _, hσ.keep (TK.of_fr hS f), r, hB.trans f, h2, fin.at f⟩
        · rename_i hk
          rw [if_neg hk]
          exact (fin.go f).bl r h2
      have m2 : ∀ {S S1 : Sto} {H H1 : Hp} {δ : SD} {σ : L2.St} {q : QX} {Q : Bool → Hp → Prop} {v : V} {x : XD}, RpS X.K H δ σ → Rel X.K S H → Fr B HB S H → (∀ v H' x S', Rel X.K S' H' → RpX X.K H H' S' x v → Fr S H S' H' → q x S' → ∃ b, TruV X.K v H' b ∧ Q b H') → Rel X.K S1 H1 → RpX X.K H H1 S1 x v → Fr S H S1 H1 → wpB isAnd (.cons e es) Er δ x S1 q →
          ∃ k, TruV X.K v H1 k ∧ if k = isAnd then TTo X.K B HB (fun δ S q => wpX e Er δ S fun y S1 => wpB isAnd es Er δ y S1 q) σ H1 Q else Q k H1 := fun {S S1 H H1 δ σ q Q v x} hσ hS hB fin r rx f h => by
        unfold wpB at h
        obtain ⟨k, rfl, rfl, h2⟩ := getB_of rx h
        refine ⟨k, rfl, ?_⟩
        split at h2
        · rename_i hk
          rw [if_pos hk]
          exact ⟨_, _, _, hσ.keep (TK.of_fr hS f), r, hB.trans f, h2, fun v H' x S' r rx g h => fin v H' x S' r (rx.base f.dom) (f.trans g) h⟩
        · rename_i hk
          rw [if_neg hk]
          obtain ⟨b', e, hq⟩ := fin (.bl k) H1 (.d (.bl k)) S1 r rfl f h2
          have e : b' = k := e
          rw [← e]; exact hq
      cases isAnd with
      | true =>
        refine ⟨peM (pe_and hx ih.1) fun σ H Q h => ?_, pwM (pw_and hx2 ih.2) fun σ H Q h => ?_⟩
        · obtain ⟨δ, S, q, hσ, hS, hB, hw, fin⟩ := h
          refine te1 hσ hS hB hw fun v H1 x S1 r1 rx f1 h1 => ?_
          obtain ⟨k, rfl, h⟩ := m1 hσ hS hB fin r1 rx f1 h1
          refine ⟨k, rfl, ?_⟩
          cases k with
          | true => exact h
          | false => exact h
        · obtain ⟨δ, S, q, hσ, hS, hB, hw, fin⟩ := h
          refine ⟨δ, S, _, hσ, hS, hB, hw, fun v H1 x S1 r1 rx f1 h1 => ?_⟩
          obtain ⟨k, t, h⟩ := m2 hσ hS hB fin r1 rx f1 h1
          refine ⟨k, t, ?_⟩
          cases k with
          | true => exact h
          | false => exact h
      | false =>
        refine ⟨peM (pe_or hx ih.1) fun σ H Q h => ?_, pwM (pw_or hx2 ih.2) fun σ H Q h => ?_⟩
        · obtain ⟨δ, S, q, hσ, hS, hB, hw, fin⟩ := h
          refine te1 hσ hS hB hw fun v H1 x S1 r1 rx f1 h1 => ?_
          obtain ⟨k, rfl, h⟩ := m1 hσ hS hB fin r1 rx f1 h1
          refine ⟨k, rfl, ?_⟩
          cases k with
          | true => exact h
          | false => exact h
        · obtain ⟨δ, S, q, hσ, hS, hB, hw, fin⟩ := h
          refine ⟨δ, S, _, hσ, hS, hB, hw, fun v H1 x S1 r1 rx f1 h1 => ?_⟩
          obtain ⟨k, t, h⟩ := m2 hσ hS hB fin r1 rx f1 h1
          refine ⟨k, t, ?_⟩
          cases k with
          | true => exact h
          | false => exact h
theorem sA : ∀ (es : Es) {X : Cx} {c : Sc} {B : Sto} {HB : Hp} {Er : QE} (_ : Good X c B HB Er) {xs : List Expr}, ckEs es c xs = true → okEs (CallOk X) (GlobOk X) es → PA X xs (TAo X.K B HB (wpA es Er))
  | .nil, X, c, B, HB, Er, g, xs, hck, hok => by
    unfold ckEs at hck
    cases xs with
    | cons _ _ => cases hck
    | nil =>
      refine paM pa_nil fun σ H Q h => ?_
      obtain ⟨δ, S, k, hσ, hS, hB, hw, fin⟩ := h
      unfold wpA at hw
      exact fin [] H [] S hS .nil .refl hw
  | .cons e es, X, c, B, HB, Er, g, xs, hck, hok => by
    unfold ckEs at hck
    cases xs with
    | nil => cases hck
    | cons x xs =>
      simp only [Bool.and_eq_true] at hck
      obtain ⟨⟨h1, h2⟩, h3⟩ := hck
      unfold okEs at hok
      refine paM (pa_cons (sE e g h2 hok.1).1 (sA es g h3 hok.2) (star_plain h1)) fun σ H Q h => ?_
      obtain ⟨δ, S, k, hσ, hS, hB, hw, fin⟩ := h
      unfold wpA at hw
      refine te1 hσ hS hB hw fun v H1 x S1 r1 rx f1 h1 => ?_
      obtain ⟨d, S2, r2, rp, h2, _, frf⟩ := settle_of r1 rx h1
      refine ⟨δ, S2, _, hσ.keep (TK.of_fr hS f1), r2, frf B HB (hB.trans f1) hB.dom, h2, fun vs H3 ds S3 r3 rr f3 h3 => ?_⟩
      exact fin _ H3 _ S3 r3 (.cons (Rp.keep (TK.of_fr r2 f3) _ _ rp) rr) ((frf S H f1 fun _ z => z).trans f3) h3
theorem sXs : ∀ (es : Es) {X : Cx} {c : Sc} {B : Sto} {HB : Hp} {Er : QE} (_ : Good X c B HB Er) {xs : List Expr}, ckEs es c xs = true → okEs (CallOk X) (GlobOk X) es → PA X xs (TXo X.K B HB (wpXs es Er))
  | .nil, X, c, B, HB, Er, g, xs, hck, hok => by
    unfold ckEs at hck
    cases xs with
    | cons _ _ => cases hck
    | nil =>
      refine paM pa_nil fun σ H Q h => ?_
      obtain ⟨δ, S, k, hσ, hS, hB, hw, fin⟩ := h
      unfold wpXs at hw
      exact fin [] H [] S hS rfl .refl hw
  | .cons e es, X, c, B, HB, Er, g, xs, hck, hok => by
    unfold ckEs at hck
    cases xs with
    | nil => cases hck
    | cons x xs =>
      simp only [Bool.and_eq_true] at hck
      obtain ⟨⟨h1, h2⟩, h3⟩ := hck
      unfold okEs at hok
      refine paM (pa_cons (sE e g h2 hok.1).1 (sXs es g h3 hok.2) (star_plain h1)) fun σ H Q h => ?_
      obtain ⟨δ, S, k, hσ, hS, hB, hw, fin⟩ := h
      unfold wpXs at hw
      refine te1 hσ hS hB hw fun v H1 x S1 r1 rx f1 h1 => ?_
      refine ⟨δ, S1, _, hσ.keep (TK.of_fr hS f1), r1, hB.trans f1, h1, fun vs H3 ds S3 r3 rr f3 h3 => ?_⟩
      exact fin (v :: vs) H3 (x :: ds) S3 r3 ⟨v, vs, rfl, rx.keep r1 f3, rr.base f1.dom⟩ (f1.trans f3) h3
theorem sO : ∀ (o : Eo) {X : Cx} {c : Sc} {B : Sto} {HB : Hp} {Er : QE} (_ : Good X c B HB Er) {x : Option Expr}, ckEo o c x = true → okEo (CallOk X) (GlobOk X) o → PO X x (TOo X.K B HB (wpO o Er))
  | .no, X, c, B, HB, Er, g, x, hck, hok => by
    unfold ckEo at hck
    cases x with
    | some _ => cases hck
    | none =>
      refine poM po_none fun σ H Q h => ?_
      obtain ⟨δ, S, k, hσ, hS, hB, hw, fin⟩ := h
      unfold wpO at hw
      exact fin none H S hS .refl hw
  | .yes e, X, c, B, HB, Er, g, x, hck, hok => by
    unfold ckEo at hck
    cases x with
    | none => cases hck
    | some x =>
      unfold okEo at hok
      refine poM (po_some (sE e g hck hok).1) fun σ H Q h => ?_
      obtain ⟨δ, S, k, hσ, hS, hB, hw, fin⟩ := h
      unfold wpO at hw
      refine te1 hσ hS hB hw fun v H1 x S1 r1 rx f1 h1 => ?_
      obtain ⟨i, rfl, rfl, h1⟩ := getI_of rx h1
      exact ⟨i, rfl, fin _ H1 S1 r1 f1 h1⟩
theorem sC : ∀ (o : Eo) {X : Cx} {c : Sc} {B : Sto} {HB : Hp} (_ : Good X c B HB E0) {xs : List Expr}, ckC o c xs = true → okEo (CallOk X) (GlobOk X) o → PTs X xs (TCo X.K B HB (wpC o))
  | .no, X, c, B, HB, g, xs, hck, hok => by
    unfold ckC at hck
    cases xs with
    | cons _ _ => cases hck
    | nil =>
      refine ptsM pts_nil fun σ H Q h => ?_
      obtain ⟨δ, S, k, hσ, hS, hB, hw, fin⟩ := h
      unfold wpC at hw
      exact fin true H S hS .refl hw
  | .yes e, X, c, B, HB, g, xs, hck, hok => by
    unfold ckC at hck
    split at hck
    · unfold okEo at hok
      refine ptsM (pts_one (sE e g hck hok).2) fun σ H Q h => ?_
      obtain ⟨δ, S, k, hσ, hS, hB, hw, fin⟩ := h
      unfold wpC at hw
      refine ⟨δ, S, _, hσ, hS, hB, hw, fun v H2 x S2 r rx f h => ?_⟩
      obtain ⟨b, t, hk⟩ := tru_of r rx h
      exact ⟨b, t, fin b H2 S2 r f hk⟩
    · cases hck
theorem sSrc : ∀ (s : Src) {X : Cx} {c : Sc} {B : Sto} {HB : Hp} {Er : QE} (_ : Good X c B HB Er) (t : Expr) {ex : Expr}, ckSrc s c t ex = true → okSrc (CallOk X) (GlobOk X) s → PI X t ex (TIo X.K (isTupE t) B HB (wpSrc s Er))
  | .seq e, X, c, B, HB, Er, g, t, ex, hck, hok => by
    unfold ckSrc at hck
    simp only [Bool.and_eq_true] at hck
    unfold okSrc at hok
    refine PI.mono (pi_seq (sE e g hck.2 hok).1) fun σ H R h => ?_
    obtain ⟨δ, S, k, hσ, hS, hB, hw, fin⟩ := h
    unfold wpSrc at hw
    exact ⟨δ, S, k, hσ, hS, hB, hw, fin⟩
  | .rng1 a, X, c, B, HB, Er, g, t, ex, hck, hok => by
    unfold ckSrc at hck
    split at hck
    · simp only [Bool.and_eq_true] at hck
      obtain ⟨⟨⟨h1, h2⟩, h3⟩, h4⟩ := hck
      have e := eq_of_beq h1
      subst e
      unfold okSrc at hok
      refine PI.mono (pi_rng1 (g.gl h2) (g.blt _ (by decide +kernel)) h3 (sE a g h4 hok).1) fun σ H R h => ?_
      obtain ⟨δ, S, k, hσ, hS, hB, hw, fin⟩ := h
      unfold wpSrc at hw
      exact ⟨δ, S, k, hσ, hS, hB, hw, fin⟩
    · cases hck
  | .rng2 a b, X, c, B, HB, Er, g, t, ex, hck, hok => by
    unfold ckSrc at hck
    split at hck
    · simp only [Bool.and_eq_true] at hck
      obtain ⟨⟨⟨⟨⟨h1, h2⟩, h3⟩, h4⟩, h5⟩, h6⟩ := hck
      have e := eq_of_beq h1
      subst e
      unfold okSrc at hok
      refine PI.mono (pi_rng2 (g.gl h2) (g.blt _ (by decide +kernel)) h3 h4 (sE a g h5 hok.1).1 (sE b g h6 hok.2).1) fun σ H R h => ?_
      obtain ⟨δ, S, k, hσ, hS, hB, hw, fin⟩ := h
      unfold wpSrc at hw
      exact ⟨δ, S, k, hσ, hS, hB, hw, fin⟩
    · cases hck
  | .enum a, X, c, B, HB, Er, g, t, ex, hck, hok => by
    unfold ckSrc at hck
    split at hck
    · simp only [Bool.and_eq_true] at hck
      obtain ⟨⟨⟨⟨h1, h2⟩, h3⟩, h4⟩, h5⟩ := hck
      have e := eq_of_beq h1
      subst e
      unfold okSrc at hok
      refine PI.mono (pi_enumA h5 (g.gl h2) (g.blt _ (by decide +kernel)) h3 (sE a g h4 hok).1) fun σ H R h => ?_
      obtain ⟨δ, S, k, hσ, hS, hB, hw, fin⟩ := h
      unfold wpSrc at hw
      exact ⟨δ, S, k, hσ, hS, hB, hw, fin⟩
    · cases hck
  | .zip a b, X, c, B, HB, Er, g, t, ex, hck, hok => by
    unfold ckSrc at hck
    split at hck
    · simp only [Bool.and_eq_true] at hck
      obtain ⟨⟨⟨⟨⟨⟨h1, h2⟩, h3⟩, h4⟩, h5⟩, h6⟩, h7⟩ := hck
      have e := eq_of_beq h1
      subst e
      unfold okSrc at hok
      refine PI.mono (pi_zipB h7 (g.gl h2) (g.blt _ (by decide +kernel)) h3 h4 (sE a g h5 hok.1).1 (sE b g h6 hok.2).1) fun σ H R h => ?_
      obtain ⟨δ, S, k, hσ, hS, hB, hw, fin⟩ := h
      unfold wpSrc at hw
      exact ⟨δ, S, k, hσ, hS, hB, hw, fin⟩
    · cases hck
end
end DL
/-! The data layer, part 13: statements are sound. -/
namespace DL
open PySem PySem.Spec PyProof.Rows L2

section
variable {K : PySem.W.Frag} {H : Hp} {κ : Type}
theorem KR.uncons {p : κ × Dat} {ds : List (κ × Dat)} {vs : List (κ × V)} (h : KR K H (p :: ds) vs) : ∃ q vs', vs = q :: vs' ∧ q.1 = p.1 ∧ Rp K H p.2 q.2 ∧ KR K H ds vs' := by
  obtain ⟨h1, h2⟩ := h
  cases vs with
  | nil => simp at h1
  | cons q vs =>
    simp only [List.map_cons, List.cons.injEq] at h1
    obtain ⟨v, r, e, h3, h4⟩ := h2
    simp only [List.map_cons, List.cons.injEq] at e
    obtain ⟨e1, e2⟩ := e
    exact ⟨q, vs, rfl, h1.1, by rw [e1]; exact h3, h1.2, by rw [e2]; exact h4⟩
theorem KR.cons {p : κ × Dat} {q : κ × V} {ds : List (κ × Dat)} {vs : List (κ × V)} (h1 : q.1 = p.1) (h2 : Rp K H p.2 q.2) (h3 : KR K H ds vs) : KR K H (p :: ds) (q :: vs) :=
  ⟨by simp only [List.map_cons]; rw [h1, h3.1], ⟨_, _, rfl, h2, h3.2⟩⟩
theorem KR.any {p : κ → Bool} : ∀ {ds : List (κ × Dat)} {vs : List (κ × V)}, KR K H ds vs → vs.any (fun kv => p kv.1) = ds.any fun kv => p kv.1
  | [], vs, h => by
    have e : vs = [] := by simpa using h.1
    subst e; rfl
  | d :: ds, vs, h => by
    obtain ⟨q, vs', rfl, e, _, t⟩ := h.uncons
    rw [List.any_cons, List.any_cons, KR.any t, e]
theorem KR.snoc {p : κ × Dat} {q : κ × V} (h1 : q.1 = p.1) (h2 : Rp K H p.2 q.2) {ds : List (κ × Dat)} {vs : List (κ × V)} (h : KR K H ds vs) : KR K H (ds ++ [p]) (vs ++ [q]) := by
  refine ⟨?_, ?_⟩
  · rw [List.map_append, List.map_append, h.1]; simp [h1]
  · rw [List.map_append, List.map_append]
    exact h.2.append (.one h2)
theorem KR.repl [DecidableEq κ] {k : κ} {d : Dat} {v : V} (rp : Rp K H d v) : ∀ {ds : List (κ × Dat)} {vs : List (κ × V)}, KR K H ds vs → KR K H (ds.map fun kv => if kv.1 = k then (kv.1, d) else kv) (vs.map fun kv => if kv.1 = k then (kv.1, v) else kv)
  | [], vs, h => by
    have e : vs = [] := by simpa using h.1
    subst e; exact ⟨rfl, .nil⟩
  | d :: ds, vs, h => by
    obtain ⟨q, vs', rfl, e, r, t⟩ := h.uncons
    rw [List.map_cons, List.map_cons]
    refine KR.cons ?_ ?_ (KR.repl rp t)
    · by_cases hk : d.1 = k
      · rw [if_pos hk, if_pos (e.trans hk)]; exact e
      · rw [if_neg hk, if_neg (fun z => hk (e.symm.trans z))]; exact e
    · by_cases hk : d.1 = k
      · rw [if_pos hk, if_pos (e.trans hk)]; exact rp
      · rw [if_neg hk, if_neg (fun z => hk (e.symm.trans z))]; exact r
theorem KR.put {ds : List (Key × Dat)} {vs : List (Key × V)} {k : Key} {d : Dat} {v : V} (h : KR K H ds vs) (rp : Rp K H d v) : KR K H (putD ds k d) (putK vs k v) := by
  unfold putD putK
  rw [h.any (p := fun x => decide (x = k))]
  split
  · exact h.repl rp
  · exact h.snoc rfl rp
theorem KR.len {ds : List (κ × Dat)} {vs : List (κ × V)} (h : KR K H ds vs) : vs.length = ds.length := by simpa using congrArg List.length h.1
end

/-! ### o[i], o[i] = v, by values -/
def rGet (K : PySem.W.Frag) : V → V → Hp → VK → Prop := fun x y H Q => rIxL K x y H Q ∨ rIxD x y H Q
theorem get_all {X : Cx} (hu : X.A.units + 1 < cLine) : PGet X (rGet X.K) := by
  intro pins s σ H x y v u Q I rx ry h
  rcases h with h | h
  · obtain ⟨p, xs, i, z, rfl, rfl, hq, he, q⟩ := h
    cases rx
    obtain ⟨t, rfl⟩ := ry
    obtain ⟨its, r, pl, hz⟩ := I.list hq
    obtain ⟨j, h1, h2, h3, h4, h5⟩ := atI_get he
    obtain ⟨w, ew, rw'⟩ := r.get h2
    have hl := r.length
    have hn := line63
    have fin : EP X pins σ Q w s := ⟨z, H, I, rw', q⟩
    by_cases h0 : 0 ≤ i
    · have hj : i.toNat = j := by
        rw [seqIndex_of h0 h5] at h1
        exact Option.some.inj h1
      exact wpAny_getItem_list pl.isList h0 (by omega) (by rw [hj]; simpa using ew) fin
    · have hj : (i + (its.toArray.size : Int)).toNat = j := by
        rw [seqIndex_neg (by omega) h4] at h1
        rw [List.size_toArray, ← hl]
        exact Option.some.inj h1
      exact wpAny_getItem_list_neg pl.isList (by omega) (by rw [List.size_toArray] <;> omega) (by omega) (by rw [hj]; simpa using ew) fin
  · obtain ⟨a, z, rfl, g, q⟩ := h
    cases rx
    exact d_getItem hu I g ry fun w' s3 I3 rw' => ⟨z, H, I3, rw', q⟩
def rSet : V → V → V → Hp → (Hp → Prop) → Prop := fun o i v H Q => rSetL o i v H Q ∨ rSetD o i v H Q
theorem set_all {X : Cx} (hu : X.A.units + 1 < cLine) : PSet X rSet := by
  intro pins s σ H o i v ov iv u Q I ro ri rv h
  rcases h with h | h
  · exact set_list pins s σ H o i v ov iv u Q I ro ri rv h
  · exact set_dict hu pins s σ H o i v ov iv u Q I ro ri rv h
section
variable {K : PySem.W.Frag} {S : Sto} {H H0 : Hp} {x y : XD} {v u : V} {q : QX} {Q : VK}
theorem rGet_of (r : Rel K S H) (rx : RpX K H0 H S x v) (ry : RpX K H0 H S y u) (hr : ∃ a, x = .d (.ref a)) (h : opIx x y S q) (f : Fin K S H0 H q Q) : rGet K v u H Q := by
  obtain ⟨a, rfl⟩ := hr
  obtain rfl : v = .ref a := rx
  unfold opIx at h
  split at h
  · rename_i a' k e
    cases e
    have ru : Rp K H k u := ry
    split at h
    · rename_i ds e
      obtain ⟨vs, q1, rr⟩ := r _ _ e
      split at h <;> try cases h
      · rename_i i
        split at h <;> try cases h
        · rename_i d ed
          obtain ⟨w, e1, rp⟩ := atI_of rr ed
          obtain rfl : u = .int i := ru
          exact .inl ⟨a, vs, i, w, rfl, rfl, SqL.of q1, e1, f.same r rp h⟩
    · rename_i kvs e
      split at h <;> try cases h
      · rename_i key ek
        split at h <;> try cases h
        · rename_i d ed
          obtain rfl := keyOf_V ek ru
          obtain ⟨vs, kr, g⟩ := RpO.dget (k := key) (.inl (r _ _ e))
          obtain ⟨w, e1, rp⟩ := (kr.look key).1 d ed
          rw [e1] at g
          exact .inr ⟨a, w, rfl, g, f.same r rp h⟩
    · rename_i kvs e
      split at h <;> try cases h
      · rename_i key ek
        split at h <;> try cases h
        · rename_i d ed
          obtain rfl := keyOf_V ek ru
          obtain ⟨vs, kr, g⟩ := RpO.dget (k := key) (.inr (r _ _ e))
          obtain ⟨w, e1, rp⟩ := (kr.look key).1 d ed
          rw [e1] at g
          exact .inr ⟨a, w, rfl, g, f.same r rp h⟩
    · cases h
  · rename_i e; cases e
  · rename_i e; cases e
  · rename_i e; cases e
  · cases h
theorem rSet_of {d : Dat} {w : V} {k : Sto → Prop} {R : Hp → Prop} (r : Rel K S H) (rx : RpX K H0 H S x v) (ry : RpX K H0 H S y u) (rd : Rp K H d w) (h : opSet x y d S k) (f : ∀ S' H', Rel K S' H' → Fr S H S' H' → k S' → R H') : rSet v u w H R := by
  unfold opSet at h
  split at h <;> try cases h
  · rename_i a kd
    obtain rfl : v = .ref a := rx
    have ru : Rp K H kd u := ry
    split at h
    · rename_i ds e
      obtain ⟨vs, q1, rr⟩ := r _ _ e
      split at h <;> try cases h
      · rename_i i
        split at h <;> try cases h
        · rename_i j ej
          obtain rfl : u = .int i := ru
          have k := TK.lst (K := K) (ws := vs.set j w) q1
          exact .inl ⟨a, vs, i, j, rfl, rfl, q1, by rw [rr.length]; exact ej, f _ _ (r.mut (mo' := .lst (ds.set j d)) e ⟨_, upd_same, RpL.keep k _ _ (rr.set j rd)⟩) (Fr.mut e (nofrzL q1)) h⟩
    · rename_i kvs e
      obtain ⟨vs, q1, kr⟩ := r _ _ e
      split at h
      · rename_i key ek
        obtain rfl := keyOf_V ek ru
        obtain ⟨h1, h2⟩ := h
        have k := TK.mut (o := .dK (putK vs key w)) r e
        exact .inr ⟨a, _, rfl, DPut.k q1 (by rw [kr.len]; exact h1), f _ _ (r.mut (mo' := .dct (putD kvs key d)) e ⟨_, upd_same, (kr.put rd).keep k⟩) (Fr.mut e (nofrzK q1)) h2⟩
      · cases h
    · cases h
end

/-! ### ends -/
structure EndsR (K : PySem.W.Frag) (S0 : Sto) (H0 : Hp) (D' : EndsD) (D : Ends) : Prop where
  nx : ∀ δ σ S H, RpS K H δ σ → Rel K S H → Fr S0 H0 S H → D'.nx δ S → D.nx σ H
  rt : ∀ v H x S, Rel K S H → RpX K H0 H S x v → Fr S0 H0 S H → D'.rt x S → D.rt v H
  bk : ∀ δ σ S H, RpS K H δ σ → Rel K S H → Fr S0 H0 S H → D'.bk δ S → D.bk σ H
  ct : ∀ δ σ S H, RpS K H δ σ → Rel K S H → Fr S0 H0 S H → D'.ct δ S → D.ct σ H
theorem EndsR.at {K : PySem.W.Frag} {S S1 : Sto} {H H1 : Hp} {D' : EndsD} {D : Ends} (e : EndsR K S H D' D) (f : Fr S H S1 H1) : EndsR K S1 H1 D' D :=
  ⟨fun δ σ S H a b c d => e.nx δ σ S H a b (f.trans c) d, fun v H x S a b c d => e.rt v H x S a (b.base f.dom) (f.trans c) d, fun δ σ S H a b c d => e.bk δ σ S H a b (f.trans c) d, fun δ σ S H a b c d => e.ct δ σ S H a b (f.trans c) d⟩
def TSo (K : PySem.W.Frag) (B : Sto) (HB : Hp) (w : EndsD → SD → Sto → Prop) : TS := fun D σ H => ∃ δ S D', RpS K H δ σ ∧ Rel K S H ∧ Fr B HB S H ∧ w D' δ S ∧ EndsR K S H D' D
theorem psM {X : Cx} {e : Stmt} {t t' : TS} (h : PS X e t) (f : ∀ D σ H, t' D σ H → t D σ H) : PS X e t' := ⟨fun pins s σ H D I q => h.run pins s σ H D I (f D σ H q)⟩
theorem pssM {X : Cx} {e : List Stmt} {t t' : TS} (h : PSs X e t) (f : ∀ D σ H, t' D σ H → t D σ H) : PSs X e t' := ⟨fun pins s σ H D I q => h.run pins s σ H D I (f D σ H q)⟩

theorem sw_no {e : Expr} {t : Option Expr} {l : Nat} {env : Env} (h : isLc e = false) : swapsWith e t l env = pure false := by
  cases e <;> first | rfl | cases h
theorem sw_sub {e a b : Expr} {p : Pos} {l : Nat} {env : Env} : swapsWith e (some (.Subscript a b p)) l env = pure false := by
  cases e <;> rfl
theorem sw_tup {e : Expr} {a : List Expr} {b : Nat} {p : Pos} {l : Nat} {env : Env} : swapsWith e (some (.Tuple a b p)) l env = pure false := by
  cases e <;> rfl
theorem sws_none {c : Sc} {tg : Tg} {t e : Expr} {env : Env} (hk : ckT c tg t = true) (h : (isTupE t && isTupE e) = false) : swappedStores [t] e env = pure none := by
  cases tg with
  | n i => unfold ckT at hk; split at hk <;> first | (cases e <;> rfl) | cases hk
  | t ts => unfold ckT at hk; split at hk <;> first | (cases e <;> first | rfl | cases h) | cases hk
theorem asg_sub {o i : Expr} {p : Pos} {env : Env} (h : plainE i = true) : ∀ v, assign (.Subscript o i p) env v = (do
      let ov ← holding [v] (eval o env)
      let iv ← holding [v, ov] (eval i env)
      standAt p
      holding [v, ov, iv] (setItem ov iv v)
      release [v, ov, iv] []) := by
  intro v
  cases i <;> first | rfl | cases h
theorem aug_sub {i : Expr} (h : plainE i = true) : ∀ ov iv new, augStore i ov iv new = (do holding [new, ov, iv] (setItem ov iv new); release [new, ov, iv] []; pure .next) := by
  intro ov iv new
  cases i <;> first | rfl | cases h
end DL
/-! The data layer, part 14: statements are sound. -/
namespace DL
open PySem PySem.Spec PyProof.Rows L2

theorem sw_lc {elt : Expr} {gs : List Comprehension} {scope : Scope} {pos py : Pos} {y : Str} {l : Nat} {env : Env} :
    swapsWith (.ListComp elt gs scope pos) (some (.Name y py)) l env = pure (env.blockKind == .function && env.kindOf y == some .local && py.line == pos.line && !(scope.names.any fun (n, k) => n == y && (k == .local || k == .cell))) := rfl
theorem sw_sole {t e : Expr} {l : Nat} {env : Env} : swapsWithSole [t] e l env = swapsWith e (some t) l env := by unfold swapsWithSole; rfl
theorem asg_mono {X : Cx} {B : Sto} {HB : Hp} {Er : QE} {tg : Tg} {e : E} : ∀ D σ H, TSo X.K B HB (wpS (.asg tg e) Er) D σ H → TEo X.K B HB (wpX e Er) σ H fun x H1 => gT X.K tg x σ H1 D.nx := fun D σ H h => by
  obtain ⟨δ, S, D', hσ, hS, hB, hw, en⟩ := h
  unfold wpS at hw
  refine te1 hσ hS hB hw fun v H1 x S1 r1 rx f1 h1 => ?_
  obtain ⟨d, S2, r2, rp, h2, _, frf⟩ := settle_of r1 rx h1
  exact bind_of tg (hσ.keep (TK.of_fr hS f1)) rp h2 fun δ' σ' hσ' hk _ => en.nx δ' σ' S2 H1 hσ' r2 (frf S H f1 fun _ z => z) hk
/-- a loop over data -/
theorem for_core {X : Cx} {c : Sc} {B : Sto} {HB : Hp} {tg : Tg} {t : Expr} {wb : EndsD → SD → Sto → Prop} {ws : SD → Sto → (List Dat → (Sto → Prop) → Sto → Prop) → Prop} (hck : ckT c tg t = true) :
    ∀ D σ H, TSo X.K B HB (fun D' δ S => ws δ S fun ds G S1 => forW (fun d D' δ S => bindTg tg d δ fun δ' => wb D' δ' S) D' ds G δ S1) D σ H → tFor (TIo X.K (isTupE t) B HB ws) (gT X.K tg) (TSo X.K B HB wb) D σ H := by
  intro D σ H h
  obtain ⟨δ, S, D', hσ, hS, hB, hw, en⟩ := h
  refine ⟨δ, S, _, hσ, hS, hB, hw, fun J H1 ds G S1 r1 f1 wk hk => ?_⟩
  obtain ⟨hz, wk⟩ := wk
  have en1 := en.at f1
  refine ⟨fun i m σ' H' => m = ds.length - i ∧ i ≤ ds.length ∧ ∃ δ' S', RpS X.K H' δ' σ' ∧ Rel X.K S' H' ∧ Fr S1 H1 S' H' ∧ forW (fun d D' δ S => bindTg tg d δ fun δ' => wb D' δ' S) D' (ds.drop i) G δ' S',
    ⟨ds.length, by simp, Nat.zero_le _, δ, S1, hσ.keep (TK.of_fr hS f1), r1, .refl, by simpa using hk⟩, ?_⟩
  rintro i m σ' H' ⟨rfl, hi, δ', S', hσ', r2, f2, hc⟩
  by_cases hlt : i < ds.length
  · have e : ds[i]? = some ds[i] := List.getElem?_eq_getElem hlt
    rw [List.drop_eq_getElem_cons hlt] at hc
    obtain ⟨g, hc⟩ := hc
    obtain ⟨w1, _⟩ := wk i S' H' r2 f2 g
    obtain ⟨go, yl⟩ := w1 _ e
    refine .inr ⟨go, fun σ'' H'' => ∃ δ' S', RpS X.K H'' δ' σ'' ∧ Rel X.K S' H'' ∧ Fr S1 H1 S' H'' ∧ forW (fun d D' δ S => bindTg tg d δ fun δ' => wb D' δ' S) D' (ds.drop (i + 1)) G δ' S', fun σ'' H'' n => ⟨ds.length - (i + 1), by omega, rfl, hlt, n⟩, fun x H'' y => ?_⟩
    have y := yl x H'' y
    obtain ⟨r3, f3, k3⟩ := y.rel r2
    refine bindY hck y hσ' hc fun δ2 σ2 hσ2 hk2 _ => ?_
    have f4 := f2.trans f3
    refine ⟨δ2, S', _, hσ2, r3, (hB.trans f1).trans f4, hk2, ⟨fun δ3 σ3 S3 H3 a b cc d => ⟨δ3, S3, a, b, f4.trans cc, d⟩, (en1.at f4).rt, fun δ3 σ3 S3 H3 a b cc d => (en1.at f4).nx δ3 σ3 S3 H3 a b cc d, fun δ3 σ3 S3 H3 a b cc d => ⟨δ3, S3, a, b, f4.trans cc, d⟩⟩⟩
  · have e : i = ds.length := by omega
    subst e
    rw [List.drop_length] at hc
    obtain ⟨g, hc⟩ := hc
    obtain ⟨_, w2⟩ := wk _ S' H' r2 f2 g
    exact .inl ⟨w2 (Nat.le_refl _), en1.nx _ _ _ _ hσ' r2 f2 hc⟩

mutual
theorem sS : ∀ (s : Sm) {X : Cx} {c : Sc} {B : Sto} {HB : Hp} {Er : QE} (_ : Good X c B HB Er) (_ : PassesOwn (model X.prog X.w) X.A X.env X.xe) {st : Stmt}, ckS s c st = true → okS (CallOk X) (GlobOk X) s → PS X st (TSo X.K B HB (wpS s Er))
  | .asg tg e, X, c, B, HB, Er, g, po, st, hck, hok => by
    unfold ckS at hck
    split at hck
    · rename_i t v pos
      simp only [Bool.and_eq_true, Bool.not_eq_true'] at hck
      obtain ⟨⟨h1, h2⟩, h3⟩ := hck
      unfold okS at hok
      have he := (sE e g h2 hok).1
      have hg := sT g tg t h1
      have hN : X.N.Nodup := by rw [g.hN]; exact g.nd
      have h4 : (assignEach [t] X.env).map (·.2) = [assign t X.env] := by rw [each_star (ckT_noStar h1)]; rfl
      have plain : swapsWithSole [t] v pos.line X.env = pure false → PS X (.Assign [t] v pos) (TSo X.K B HB (wpS (.asg tg e) Er)) := fun hs => psM (ps_asg he hg hs (sws_none h1 h3) h4) asg_mono
      by_cases hl : isLc v = true
      · cases tg with
        | t ts =>
          refine plain ?_
          unfold ckT at h1
          split at h1
          · rw [sw_sole]; exact sw_tup
          · cases h1
        | n i =>
          have h1' := h1
          unfold ckT at h1
          split at h1
          · rename_i y py
            simp only [Bool.and_eq_true, decide_eq_true_eq] at h1
            obtain ⟨l1, l2⟩ := g.loc h1.2
            have main : ∀ (elt : Expr) (gs : List Comprehension) (scope : Scope) (p : Pos), v = .ListComp elt gs scope p → (swapsWith (.ListComp elt gs scope p) (some (.Name y py)) pos.line X.env = pure true → X.env.scope.names.lookup y = some .local → PS X (.Assign [.Name y py] v pos) (TSo X.K B HB (wpS (.asg (.n i) e) Er))) →
                PS X (.Assign [.Name y py] v pos) (TSo X.K B HB (wpS (.asg (.n i) e) Er)) := fun elt gs scope p ev h => by
              subst ev
              cases hb : (X.env.blockKind == .function && X.env.kindOf y == some .local && py.line == p.line && !(scope.names.any fun (n, k) => n == y && (k == .local || k == .cell))) with
              | false => exact plain (by rw [sw_sole, sw_lc, hb])
              | true =>
                refine h (by rw [sw_lc, hb]) ?_
                simp only [Bool.and_eq_true, beq_iff_eq] at hb
                exact hb.1.1.2
            cases e with
            | comp elt tg src cond =>
              unfold ckE at h2
              split at h2
              · rename_i e1 t iter ifs a scope p
                refine main _ _ _ _ rfl fun hsw hyl => ?_
                simp only [Bool.and_eq_true] at h2
                obtain ⟨⟨⟨⟨⟨k0, k1⟩, k2⟩, k3⟩, k4⟩, k5⟩ := h2
                have ea := eq_of_beq k0
                subst ea
                unfold okE at hok
                have ok : BlkOk X.N X.env.scope scope (ownOf c.N (slotsT tg)) := by
                  rw [g.hN, g.sc]
                  exact blkOk_by k1
                refine psM (ps_setLc (g := gT X.K tg) (tt := TCo X.K B HB (wpC cond)) (te := TEo X.K B HB (wpX elt E0)) g.calm hN (by rw [g.hN]; exact h1.1) hyl hsw (sSrc src g t k3 hok.2.1) ok (fun s H C cl fp => sT (g.blk s H scope C cl fp) tg t k2) (fun s H C cl fp => sC cond (g.blk s H scope C cl fp) k4 hok.2.2)
                  (fun s H C cl fp => (sE elt (g.blk s H scope C cl fp) k5 hok.1).1) (fun x => ckSrc_fold k3 x)) fun D σ H h => ?_
                rw [ownOf_slots]
                exact compX_core k2 σ H _ (asg_mono D σ H h)
              · cases h2
            | compK elt i2 j cond =>
              unfold ckE at h2
              split at h2
              · rename_i e1 t tp d dp ifs a0 scope p
                refine main _ _ _ _ rfl fun hsw hyl => ?_
                simp only [Bool.and_eq_true, Bool.not_eq_true', decide_eq_true_eq] at h2
                obtain ⟨⟨⟨⟨⟨⟨⟨⟨k0, k1⟩, k2⟩, k3⟩, k4⟩, k5⟩, k6⟩, k7⟩, k8⟩ := h2
                have ea := eq_of_beq k0
                subst ea
                unfold okE at hok
                have ok : BlkOk X.N X.env.scope scope (ownOf c.N [i2]) := by
                  rw [g.hN, g.sc]
                  exact blkOk_by k1
                have pv : PE X (.Name d dp) (tVar j) := pe_var (by rw [g.hN]; exact k3) (g.vis k4) k5 k6
                refine psM (ps_lock (ps_setLc (g := gT X.K (.n i2)) (tt := TCo X.K B HB (wpC cond)) (te := TEo X.K B HB (wpX elt E0)) g.calm hN (by rw [g.hN]; exact h1.1) hyl hsw (pi_keys pv) ok (fun s H C cl fp => sT (g.blk s H scope C cl fp) (.n i2) (.Name t tp) k2) (fun s H C cl fp => sC cond (g.blk s H scope C cl fp) k7 hok.2)
                  (fun s H C cl fp => (sE elt (g.blk s H scope C cl fp) k8 hok.1).1))) fun D σ H h => ?_
                rw [ownOf_slots]
                exact compK_core k2 σ H _ (asg_mono D σ H h)
              · cases h2
            | _ => unfold ckE at h2; split at h2 <;> first | (cases hl; done) | (cases h2; done)
          · cases h1
      · exact plain (by rw [sw_sole]; exact sw_no (by simpa using hl))
    · cases hck
  | .setIx o i v, X, c, B, HB, Er, g, po, st, hck, hok => by
    have hu : X.A.units + 1 < cLine := by have := g.room; omega
    unfold ckS at hck
    split at hck
    · rename_i a b bp x pos
      simp only [Bool.and_eq_true, Bool.not_eq_true'] at hck
      obtain ⟨⟨⟨⟨h1, h2⟩, h3⟩, h4⟩, h5⟩ := hck
      unfold okS at hok
      have ho := (sE o g h1 hok.1).1
      have hi := (sE i g h2 hok.2.1).1
      have hv := (sE v g h4 hok.2.2).1
      refine psM (ps_asg hv (pg_sub (pos := bp) ho hi (set_all hu) (asg_sub h3)) (by rw [sw_sole]; exact sw_sub) (by cases x <;> rfl) rfl) fun D σ H h => ?_
      obtain ⟨δ, S, D', hσ, hS, hB, hw, en⟩ := h
      unfold wpS at hw
      refine te1 hσ hS hB hw fun v0 H1 x S1 r1 rx f1 h1 => ?_
      obtain ⟨d, S2, r2, rp, h2, _, frf⟩ := settle_of r1 rx h1
      have f2 := frf S H f1 fun _ z => z
      refine te2 (hσ.keep (TK.of_fr hS f1)) r2 (frf B HB (hB.trans f1) hB.dom) h2 fun v1 u1 H3 y z S3 r3 ry rz f3 h3 => ?_
      exact rSet_of r3 ry rz (Rp.keep (TK.of_fr r2 f3) _ _ rp) h3 fun S' H' r4 f4 h4 => en.nx δ σ S' H' (hσ.keep ((TK.of_fr hS f1).trans ((TK.of_fr r2 f3).trans (TK.of_fr r3 f4)))) r4 ((f2.trans f3).trans f4) h4
    · cases hck
  | .aug i op e, X, c, B, HB, Er, g, po, st, hck, hok => by
    unfold ckS at hck
    split at hck
    · rename_i x px o v pos
      simp only [Bool.and_eq_true, decide_eq_true_eq] at hck
      obtain ⟨⟨⟨h1, h2⟩, h3⟩, h4⟩ := hck
      subst h3
      unfold okS at hok
      obtain ⟨l1, l2⟩ := g.loc h2
      refine psM (ps_aug (i := i) (by rw [g.hN]; exact g.nd) (by rw [g.hN]; exact h1) l1 (sE e g h4 hok).1 (op_aug op) l2) fun D σ H h => ?_
      obtain ⟨δ, S, D', hσ, hS, hB, hw, en⟩ := h
      unfold wpS at hw
      split at hw
      · rename_i d ed
        obtain ⟨w, ew, rp⟩ := hσ.2 _ _ ed
        refine ⟨w, ew, te1 hσ hS hB hw fun v1 H1 y S1 r1 ry f1 h1 => ?_⟩
        have k1 := TK.of_fr hS f1
        refine rAug_of (x := .d d) (H0 := H) r1 f1.dom (Rp.keep k1 _ _ rp) ry h1 fun v2 H2 z S2 r2 rz f2 h2 => ?_
        obtain ⟨d', S3, r3, rp3, h3, _, frf⟩ := settle_of r2 rz h2
        exact en.nx _ _ S3 H2 ((hσ.keep (k1.trans (TK.of_fr r1 f2))).set rp3 i) r3 (frf S H (f1.trans f2) fun _ z => z) h3
      · cases hw
    · cases hck
  | .augIx o i op e, X, c, B, HB, Er, g, po, st, hck, hok => by
    have hu : X.A.units + 1 < cLine := by have := g.room; omega
    unfold ckS at hck
    split at hck
    · rename_i x y p1 o' v pos
      simp only [Bool.and_eq_true, decide_eq_true_eq] at hck
      obtain ⟨⟨⟨⟨h1, h2⟩, h3⟩, h4⟩, h5⟩ := hck
      subst h4
      unfold okS at hok
      refine psM (ps_augS (tpos := p1) (sE o g h1 hok.1).1 (sE i g h2 hok.2.1).1 (get_all hu) (sE e g h5 hok.2.2).1 (op_aug op) (set_all hu) (aug_sub h3)) fun D σ H h => ?_
      obtain ⟨δ, S, D', hσ, hS, hB, hw, en⟩ := h
      unfold wpS at hw
      refine te2 hσ hS hB hw fun v1 u1 H2 y z S2 r2 ry rz f2 h2 => ?_
      obtain ⟨a, ey, ev, h2⟩ := asRef_of ry h2
      refine rGet_of r2 ry rz ⟨a, ey⟩ h2 fun v3 H3 w S3 r3 rw' f3 h3 => ?_
      have fa := f2.trans f3
      refine te1 (hσ.keep ((TK.of_fr hS f2).trans (TK.of_fr r2 f3))) r3 (hB.trans fa) h3 fun v4 H4 u S4 r4 ru f4 h4 => ?_
      refine rAug_of (H0 := H) r4 (fa.trans f4).dom (rw'.keep r3 f4) (ru.base fa.dom) h4 fun v5 H5 r S5 r5 rr f5 h5 => ?_
      obtain ⟨d, S6, r6, rp6, h6, less, frf⟩ := settle_of r5 rr h5
      have k2 := (((TK.of_fr hS f2).trans (TK.of_fr r2 f3)).trans (TK.of_fr r3 f4)).trans (TK.of_fr r4 f5)
      have fb := frf S H ((fa.trans f4).trans f5) fun _ z => z
      have ry' : RpX X.K H H5 S6 y v1 := by
        rw [ey] at ry ⊢
        exact ry
      have rz' : RpX X.K H H5 S6 z u1 := by
        cases z with
        | d d => exact Rp.keep ((TK.of_fr r2 f3).trans ((TK.of_fr r3 f4).trans (TK.of_fr r4 f5))) _ _ rz
        | l ds => unfold opSet at h6; rw [ey] at h6; cases h6
      exact rSet_of r6 ry' rz' rp6 h6 fun S' H' r7 f7 h7 => en.nx δ σ S' H' (hσ.keep (k2.trans (TK.of_fr r6 f7))) r7 (fb.trans f7) h7
    · cases hck
  | .ex e, X, c, B, HB, Er, g, po, st, hck, hok => by
    unfold ckS at hck
    split at hck
    · rename_i v pos
      simp only [Bool.and_eq_true, Bool.not_eq_true'] at hck
      unfold okS at hok
      refine psM (ps_expr (sE e g hck.1 hok).1 (sw_no hck.2)) fun D σ H h => ?_
      obtain ⟨δ, S, D', hσ, hS, hB, hw, en⟩ := h
      unfold wpS at hw
      exact te1 hσ hS hB hw fun v1 H1 x S1 r1 rx f1 h1 => en.nx δ σ S1 H1 (hσ.keep (TK.of_fr hS f1)) r1 f1 h1
    · cases hck
  | .ret e, X, c, B, HB, Er, g, po, st, hck, hok => by
    unfold ckS at hck
    split at hck
    · rename_i v pos
      unfold okS at hok
      refine psM (ps_ret (sE e g hck hok).1) fun D σ H h => ?_
      obtain ⟨δ, S, D', hσ, hS, hB, hw, en⟩ := h
      unfold wpS at hw
      exact te1 hσ hS hB hw fun v1 H1 x S1 r1 rx f1 h1 => en.rt v1 H1 x S1 r1 rx f1 h1
    · cases hck
  | .retN, X, c, B, HB, Er, g, po, st, hck, hok => by
    unfold ckS at hck
    split at hck
    · refine psM ps_retN fun D σ H h => ?_
      obtain ⟨δ, S, D', hσ, hS, hB, hw, en⟩ := h
      unfold wpS at hw
      exact en.rt .non H (.d .non) S hS rfl .refl hw
    · cases hck
  | .ite k a b, X, c, B, HB, Er, g, po, st, hck, hok => by
    unfold ckS at hck
    split at hck
    · rename_i t x y pos
      simp only [Bool.and_eq_true] at hck
      obtain ⟨⟨h1, h2⟩, h3⟩ := hck
      unfold okS at hok
      refine psM (ps_if (sE k g h1 hok.1).2 (sSs a g po h2 hok.2.1) (sSs b g po h3 hok.2.2)) fun D σ H h => ?_
      obtain ⟨δ, S, D', hσ, hS, hB, hw, en⟩ := h
      unfold wpS at hw
      refine ⟨δ, S, _, hσ, hS, hB, hw, fun v H2 x S2 r rx f h => ?_⟩
      obtain ⟨kk, t, hk⟩ := tru_of r rx h
      refine ⟨kk, t, ?_⟩
      cases kk with
      | true => exact ⟨δ, S2, D', hσ.keep (TK.of_fr hS f), r, hB.trans f, hk, en.at f⟩
      | false => exact ⟨δ, S2, D', hσ.keep (TK.of_fr hS f), r, hB.trans f, hk, en.at f⟩
    · cases hck
  | .wh k b, X, c, B, HB, Er, g, po, st, hck, hok => by
    unfold ckS at hck
    split at hck
    · rename_i t x pos
      simp only [Bool.and_eq_true] at hck
      obtain ⟨h1, h2⟩ := hck
      unfold okS at hok
      refine psM (ps_while po (sE k g h1 hok.1).2 (sSs b g po h2 hok.2)) fun D σ H h => ?_
      obtain ⟨δ, S, D', hσ, hS, hB, hw, en⟩ := h
      unfold wpS at hw
      obtain ⟨W, ⟨m0, w0⟩, turn⟩ := hw
      refine ⟨fun m σ' H' => ∃ δ' S', RpS X.K H' δ' σ' ∧ Rel X.K S' H' ∧ Fr S H S' H' ∧ W m δ' S', ⟨m0, δ, S, hσ, hS, .refl, w0⟩, ?_⟩
      rintro m σ' H' ⟨δ', S', hσ', r', f', w'⟩
      refine ⟨δ', S', _, hσ', r', hB.trans f', turn m δ' S' w', fun v H2 x S2 r rx f h => ?_⟩
      obtain ⟨kk, t, hk⟩ := tru_of r rx h
      refine ⟨kk, t, ?_⟩
      have fa := f'.trans f
      cases kk with
      | true =>
        refine ⟨fun σ'' H'' => ∃ m', m' < m ∧ ∃ δ' S', RpS X.K H'' δ' σ'' ∧ Rel X.K S' H'' ∧ Fr S H S' H'' ∧ W m' δ' S', fun σ'' H'' n => n, ?_⟩
        refine ⟨δ', S2, _, hσ'.keep (TK.of_fr r' f), r, (hB.trans f').trans f, hk, ⟨fun δ3 σ3 S3 H3 a b cc d => ?_, (en.at fa).rt, (en.at fa).nx, fun δ3 σ3 S3 H3 a b cc d => ?_⟩⟩
        · obtain ⟨m', hm, w3⟩ := d
          exact ⟨m', hm, δ3, S3, a, b, fa.trans cc, w3⟩
        · obtain ⟨m', hm, w3⟩ := d
          exact ⟨m', hm, δ3, S3, a, b, fa.trans cc, w3⟩
      | false => exact (en.at f').nx δ' σ' S2 H2 (hσ'.keep (TK.of_fr r' f)) r f hk
    · cases hck
  | .fr tg src b, X, c, B, HB, Er, g, po, st, hck, hok => by
    unfold ckS at hck
    split at hck
    · rename_i t iter x pos
      simp only [Bool.and_eq_true] at hck
      obtain ⟨⟨h1, h2⟩, h3⟩ := hck
      unfold okS at hok
      refine psM (ps_for po g.calm (sSrc src g t h2 hok.1) (sT g tg t h1) (sSs b g po h3 hok.2) (fun x => ckSrc_fold h2 x)) fun D σ H h => ?_
      refine for_core h1 D σ H ?_
      obtain ⟨δ, S, D', hσ, hS, hB, hw, en⟩ := h
      unfold wpS at hw
      exact ⟨δ, S, D', hσ, hS, hB, hw, en⟩
    · cases hck
  | .brk, X, c, B, HB, Er, g, po, st, hck, hok => by
    unfold ckS at hck
    split at hck
    · refine psM ps_break fun D σ H h => ?_
      obtain ⟨δ, S, D', hσ, hS, hB, hw, en⟩ := h
      unfold wpS at hw
      exact en.bk δ σ S H hσ hS .refl hw
    · cases hck
  | .cont, X, c, B, HB, Er, g, po, st, hck, hok => by
    unfold ckS at hck
    split at hck
    · refine psM ps_continue fun D σ H h => ?_
      obtain ⟨δ, S, D', hσ, hS, hB, hw, en⟩ := h
      unfold wpS at hw
      exact en.ct δ σ S H hσ hS .refl hw
    · cases hck
  | .pass, X, c, B, HB, Er, g, po, st, hck, hok => by
    unfold ckS at hck
    split at hck
    · refine psM ps_pass fun D σ H h => ?_
      obtain ⟨δ, S, D', hσ, hS, hB, hw, en⟩ := h
      unfold wpS at hw
      exact en.nx δ σ S H hσ hS .refl hw
    · cases hck
theorem sSs : ∀ (s : Ss) {X : Cx} {c : Sc} {B : Sto} {HB : Hp} {Er : QE} (_ : Good X c B HB Er) (_ : PassesOwn (model X.prog X.w) X.A X.env X.xe) {st : List Stmt}, ckSs s c st = true → okSs (CallOk X) (GlobOk X) s → PSs X st (TSo X.K B HB (wpSs s Er))
  | .nil, X, c, B, HB, Er, g, po, st, hck, hok => by
    unfold ckSs at hck
    cases st with
    | cons _ _ => cases hck
    | nil =>
      refine pssM pss_nil fun D σ H h => ?_
      obtain ⟨δ, S, D', hσ, hS, hB, hw, en⟩ := h
      unfold wpSs at hw
      exact en.nx δ σ S H hσ hS .refl hw
  | .cons s r, X, c, B, HB, Er, g, po, st, hck, hok => by
    unfold ckSs at hck
    cases st with
    | nil => cases hck
    | cons x xs =>
      simp only [Bool.and_eq_true] at hck
      unfold okSs at hok
      refine pssM (pss_cons (sS s g po hck.1 hok.1) (sSs r g po hck.2 hok.2)) fun D σ H h => ?_
      obtain ⟨δ, S, D', hσ, hS, hB, hw, en⟩ := h
      unfold wpSs at hw
      exact ⟨δ, S, _, hσ, hS, hB, hw, ⟨fun δ1 σ1 S1 H1 a b cc d => ⟨δ1, S1, D', a, b, hB.trans cc, d, en.at cc⟩, en.rt, en.bk, en.ct⟩⟩
end
end DL
/-! The data layer, part 15: defs. -/
namespace DL
open PySem PySem.Spec PyProof.Rows L2

def startD (N : List Str) (ds : List Dat) : SD := ds.map some ++ List.replicate (N.length - ds.length) none
theorem start_rel {K : PySem.W.Frag} {H : Hp} {N : List Str} {ds : List Dat} {vs : List V} (h : RpL K H ds vs) : RpS K H (startD N ds) (L2.start N vs) := by
  unfold startD L2.start
  have hl := h.length
  refine ⟨by simp [hl], fun i d e => ?_⟩
  by_cases hi : i < ds.length
  · rw [List.getElem?_append_left (by simpa using hi), List.getElem?_map, Option.map_eq_some_iff] at e
    obtain ⟨d', e, e2⟩ := e
    cases e2
    obtain ⟨v, e3, rp⟩ := h.get e
    exact ⟨v, by rw [List.getElem?_append_left (by simpa [hl] using hi), List.getElem?_map, e3] <;> rfl, rp⟩
  · rw [List.getElem?_append_right (by simpa using hi), List.getElem?_replicate] at e
    split at e <;> cases e

section
variable (P : Program) (w : World) (K : PySem.W.Frag) (mg : Str → Option Value) (base : Heap)
/-- the def of that name keeps its promise within k calls -/
def DefOk (k : Nat) (f : Str) (sp : DSp) : Prop :=
  ∃ (a : Addr) (fd : FuncData) (ps : List Str), FnOk P w K mg base (L2.CX P w) k a fd ps (SpOf K sp) ∧ mg f = some (.ref a) ∧ PySem.W.keepIn K (.ref a) = true ∧ Binds K fd ps []
end
section
variable {P : Program} {w : World} {K : PySem.W.Frag} {mg : Str → Option Value} {base : Heap}
theorem DefOk.call {k j : Nat} {f : Str} {sp : DSp} {A : Around} (h : DefOk P w K mg base j f sp) (hr : Room k A) (hk : j ≤ k) : CallOkF P w K mg base A f sp := by
  obtain ⟨a, fd, ps, F, hm, hkp, hb⟩ := h
  exact ⟨a, fd, ps, j, F, hr.mono hk, hm, hkp, hb⟩
theorem DefOk.imp {k : Nat} {f : Str} {sp sp' : DSp} (h : DefOk P w K mg base k f sp) (hi : ∀ ds S q e, sp' ds S q e → sp ds S q e) : DefOk P w K mg base k f sp' := by
  obtain ⟨a, fd, ps, F, hm, hkp, hb⟩ := h
  exact ⟨a, fd, ps, F.imp fun vs H Q E ⟨ds, S, q, e, r, rr, s, f, x⟩ => ⟨ds, S, q, e, r, rr, hi _ _ _ _ s, f, x⟩, hm, hkp, hb⟩
def Sub (S S' : Sto) : Prop := ∀ b o, S b = some o → S' b = some o
theorem Sub.refl {S : Sto} : Sub S S := fun _ _ h => h
theorem Sub.trans {S S1 S2 : Sto} (a : Sub S S1) (b : Sub S1 S2) : Sub S S2 := fun x o h => b x o (a x o h)
theorem Sub.non {S S1 : Sto} (a : Sub S S1) : ∀ b, S1 b = none → S b = none := fun b h => by
  cases e : S b with
  | none => rfl
  | some o => rw [a b o e] at h; cases h
/-- what a def's body must do; what it made itself may be forgotten -/
def bodyW (b : Ss) (N : List Str) (np : Nat) : DSp := fun ds S q e => ds.length = np ∧ wpSs b (fun x _ S => ∃ S1, Sub S1 S ∧ e x S1) ⟨fun _ S => ∃ S1, Sub S1 S ∧ q (.d .non) S1, fun x S => ∃ S1, Sub S1 S ∧ q x S1, fun _ _ => False, fun _ _ => False⟩ (startD N ds) S
theorem def_ok {x qual : Str} {st : Stmt} {f : Addr} {fd : FuncData} {N ps : List Str} {k : Nat} {sp : DSp} (b : Ss) (F : Fun K x qual st f fd) (S : FnScope N ps (defScope st)) (hb : Binds K fd ps [])
    (hm : mg x = some (.ref f)) (hblt : ∀ y ∈ bltNames, mg y = none) (hck : ckSs b ⟨N, defScope st, fun _ => true⟩ (defBody st) = true) (hok : ∀ A, Room k A → okSs (CallOkF P w K mg base A) (GlobOkF K mg) b)
    (hsp : ∀ ds S q e, sp ds S q e → bodyW b N ps.length ds S q e) : DefOk P w K mg base (k + 1) x sp := by
  refine ⟨f, fd, ps, F.okX S (fun vs H Q E h => ?_) fun cdv A outer s H vs Q E hr h => ?_, hm, F.kp, hb⟩
  · obtain ⟨ds, S0, q, e, r, rr, s, _, _⟩ := h
    exact rr.length.trans (hsp _ _ _ _ s).1
  · obtain ⟨ds, S0, q, e, r, rr, sx, fin, fe⟩ := h
    have g : Good (cxOf (L2.CX P w) P w K mg base N qual (defScope st) f cdv A outer s H E) ⟨N, defScope st, fun _ => true⟩ S0 H (fun x _ S => ∃ S1, Sub S1 S ∧ e x S1) :=
      { hN := rfl, nd := S.nd, sc := rfl, fn := rfl, calm := rfl, room := by have := hr.un; show (A.deeper _).units + 200 < cLine; omega, blt := hblt,
        tk := (takes_of (X := cxOf (L2.CX P w) P w K mg base N qual (defScope st) f cdv A outer s H E) rfl rfl rfl rfl).imp fun cls d σ H' ⟨δ, S', x, _, r', fr, xr, S1, hs, he⟩ =>
          fe cls d H' x S1 (r'.less hs) xr (fr.trans (.less hs.non)) he }
    refine ⟨_, sSs b g (passes_of rfl) hck (hok _ hr), startD N ds, S0, _, start_rel rr, r, .refl, (hsp _ _ _ _ sx).2, ⟨fun δ σ S1 H1 _ r1 f1 ⟨S2, hs, h⟩ => fin .non H1 (.d .non) S2 (r1.less hs) rfl (f1.trans (.less hs.non)) h, fun v H1 x S1 r1 rx f1 ⟨S2, hs, h⟩ => fin v H1 x S2 (r1.less hs) ?_ (f1.trans (.less hs.non)) h, fun _ _ _ _ _ _ _ h => h.elim, fun _ _ _ _ _ _ _ h => h.elim⟩⟩
    cases x with
    | d d => exact rx
    | l ds =>
      obtain ⟨p, vs, e1, e2, rr, n, z⟩ := rx
      exact ⟨p, vs, e1, e2, rr, hs.non _ n, z⟩
end
end DL
/-! The data layer, part 16: stores, loops, comprehensions over data. -/
namespace DL
open PySem PySem.Spec PyProof.Rows L2

section
variable {S S1 S2 : Sto} {a b p : Addr} {o o' : MO}
theorem supd_supd : supd (supd S a o) a o' = supd S a o' := by funext x; unfold supd; split <;> rfl
theorem supd_self (h : S a = some o) : supd S a o = S := by
  funext x
  unfold supd
  split
  · rename_i e; rw [e, h]
  · rfl
theorem Sub.new (h : S p = none) : Sub S (supd S p o) := fun x u e => by rw [supd_ne (by intro z; rw [z, h] at e; cases e)]; exact e
theorem Sub.newOf (s : Sub S S1) (h : S1 p = none) : Sub S (supd S1 p o) := s.trans (.new h)
theorem Sub.put (s : Sub S S1) (h : S p = none) : Sub S (supd S1 p o) := fun x u e => by rw [supd_ne (by intro z; rw [z, h] at e; cases e)]; exact s x u e
theorem ne_of_st (h : S a = some o) (h' : S b = none) : a ≠ b := by intro e; rw [e, h'] at h; cases h
end

theorem wpSs_nil {X : QE} {D : EndsD} {δ : SD} {S : Sto} : wpSs .nil X D δ S = D.nx δ S := by rw [wpSs]
theorem wp_step {s : Sm} {r : Ss} {X : QE} {D : EndsD} {δ : SD} {S : Sto} (h : ∀ N : SD → Sto → Prop, (∀ δ S, wpSs r X D δ S → N δ S) → wpS s X ⟨N, D.rt, D.bk, D.ct⟩ δ S) : wpSs (.cons s r) X D δ S := by
  rw [wpSs]
  exact h _ fun _ _ h => h
/-! ### comprehensions -/
/-- turns that leave the store -/
theorem compW_pure {T : Dat → Sto → (Option Dat → Sto → Prop) → Prop} {S : Sto} {G : Sto → Prop} (g : G S) (f : Dat → Option Dat) : ∀ (ds acc : List Dat) (k : List Dat → Sto → Prop), (∀ d ∈ ds, ∀ k : Option Dat → Sto → Prop, k (f d) S → T d S k) → k (acc ++ ds.filterMap f) S → compW T ds G S acc k
  | [], acc, k, _, h => ⟨g, by simpa using h⟩
  | d :: ds, acc, k, hT, h => by
    refine ⟨g, hT d List.mem_cons_self _ ?_⟩
    cases e : f d with
    | none => exact compW_pure g f ds acc k (fun x hx => hT x (List.mem_cons_of_mem _ hx)) (by rw [List.filterMap_cons_none e] at h; exact h)
    | some y =>
      refine compW_pure g f ds (acc ++ [y]) k (fun x hx => hT x (List.mem_cons_of_mem _ hx)) ?_
      rw [List.filterMap_cons_some e] at h
      simpa using h
/-- turns with an invariant -/
theorem compW_inv {T : Dat → Sto → (Option Dat → Sto → Prop) → Prop} {G : Sto → Prop} (I : Nat → List Dat → Sto → Prop) (full : List Dat) (hI : ∀ i acc S, I i acc S → G S)
    (hT : ∀ (i : Nat) (d : Dat) (acc : List Dat) (S : Sto) (k : Option Dat → Sto → Prop), full[i]? = some d → I i acc S → (∀ o S1, (match o with | some y => I (i + 1) (acc ++ [y]) S1 | none => I (i + 1) acc S1) → k o S1) → T d S k) :
    ∀ (n : Nat) (i : Nat) (acc : List Dat) (S : Sto) (k : List Dat → Sto → Prop), i + n = full.length → I i acc S → (∀ acc S1, I full.length acc S1 → k acc S1) → compW T (full.drop i) G S acc k
  | 0, i, acc, S, k, hn, h, hk => by
    have e : i = full.length := by omega
    subst e
    rw [List.drop_length]
    exact ⟨hI _ _ _ h, hk _ _ h⟩
  | n + 1, i, acc, S, k, hn, h, hk => by
    have hlt : i < full.length := by omega
    rw [List.drop_eq_getElem_cons hlt]
    refine ⟨hI _ _ _ h, hT i _ acc S _ (List.getElem?_eq_getElem hlt) h fun o S1 h1 => ?_⟩
    cases o with
    | some y => exact compW_inv I full hI hT n (i + 1) _ S1 k (by omega) h1 hk
    | none => exact compW_inv I full hI hT n (i + 1) _ S1 k (by omega) h1 hk
theorem compW_by {T : Dat → Sto → (Option Dat → Sto → Prop) → Prop} {G : Sto → Prop} {full : List Dat} {S : Sto} {k : List Dat → Sto → Prop} (I : Nat → List Dat → Sto → Prop) (h : I 0 [] S) (hI : ∀ i acc S, I i acc S → G S)
    (hT : ∀ (i : Nat) (d : Dat) (acc : List Dat) (S : Sto) (k : Option Dat → Sto → Prop), full[i]? = some d → I i acc S → (∀ o S1, (match o with | some y => I (i + 1) (acc ++ [y]) S1 | none => I (i + 1) acc S1) → k o S1) → T d S k)
    (hk : ∀ acc S1, I full.length acc S1 → k acc S1) : compW T full G S [] k := by
  have := compW_inv I full hI hT full.length 0 [] S k (by omega) h hk
  simpa using this
/-! ### for -/
theorem forW_inv {Bd : Dat → EndsD → SD → Sto → Prop} {D : EndsD} {G : Sto → Prop} (I : Nat → SD → Sto → Prop) (full : List Dat) (hG : ∀ i δ S, I i δ S → G S)
    (hB : ∀ (i : Nat) (d : Dat) (δ : SD) (S : Sto) (N : SD → Sto → Prop), full[i]? = some d → I i δ S → (∀ δ S, I (i + 1) δ S → N δ S) → Bd d ⟨N, D.rt, D.nx, N⟩ δ S) (hn : ∀ δ S, I full.length δ S → D.nx δ S) :
    ∀ (n i : Nat) (δ : SD) (S : Sto), i + n = full.length → I i δ S → forW Bd D (full.drop i) G δ S
  | 0, i, δ, S, e, h => by
    have e : i = full.length := by omega
    subst e
    rw [List.drop_length]
    exact ⟨hG _ _ _ h, hn _ _ h⟩
  | n + 1, i, δ, S, e, h => by
    have hlt : i < full.length := by omega
    rw [List.drop_eq_getElem_cons hlt]
    exact ⟨hG _ _ _ h, hB i _ δ S _ (List.getElem?_eq_getElem hlt) h fun δ' S' h' => forW_inv I full hG hB hn n (i + 1) δ' S' (by omega) h'⟩
theorem forW_by {Bd : Dat → EndsD → SD → Sto → Prop} {D : EndsD} {G : Sto → Prop} {full : List Dat} {δ : SD} {S : Sto} (I : Nat → SD → Sto → Prop) (h : I 0 δ S) (hG : ∀ i δ S, I i δ S → G S)
    (hB : ∀ (i : Nat) (d : Dat) (δ : SD) (S : Sto) (N : SD → Sto → Prop), full[i]? = some d → I i δ S → (∀ δ S, I (i + 1) δ S → N δ S) → Bd d ⟨N, D.rt, D.nx, N⟩ δ S) (hn : ∀ δ S, I full.length δ S → D.nx δ S) : forW Bd D full G δ S := by
  have := forW_inv I full hG hB hn full.length 0 δ S (by omega) h
  simpa using this
end DL
/-! The data layer, part 17: a law's defs, its head. -/
namespace DL
open PySem PySem.Spec PyProof.Rows L2

abbrev FnP (K : PySem.W.Frag) (x qual : Str) (st : Stmt) (f : Addr) (fd : FuncData) : Prop := FunD K x qual (defArgs st) (defBody st) (defScope st) [] [] f fd
section
variable {P : Program} {w : World} {K : PySem.W.Frag} {mg : Str → Option Value} {base : Heap}
theorem fn_okD {x qual : Str} {st : Stmt} {f : Addr} {fd : FuncData} {N ps : List Str} {k : Nat} {sp : DSp} (b : Ss) (F : FnP K x qual st f fd) (S : FnScope N ps (defScope st))
    (hblt : ∀ y ∈ bltNames, mg y = none) (hck : ckSs b ⟨N, defScope st, fun _ => true⟩ (defBody st) = true) (hok : ∀ A, Room k A → okSs (CallOkF P w K mg base A) (GlobOkF K mg) b)
    (hsp : ∀ ds S q e, sp ds S q e → bodyW b N ps.length ds S q e) : FnOk P w K mg base (L2.CX P w) (k + 1) f fd ps (SpOf K sp) := by
  refine F.ok S (fun vs H Q E h => ?_) fun cdv A outer s H vs Q E hr h => ?_
  · obtain ⟨ds, S0, q, e, r, rr, s, _, _⟩ := h
    exact rr.length.trans (hsp _ _ _ _ s).1
  · obtain ⟨ds, S0, q, e, r, rr, sx, fin, fe⟩ := h
    have g : Good (cxOf (L2.CX P w) P w K mg base N qual (defScope st) f cdv A outer s H E) ⟨N, defScope st, fun _ => true⟩ S0 H (fun x _ S => ∃ S1, Sub S1 S ∧ e x S1) :=
      { hN := rfl, nd := S.nd, sc := rfl, fn := rfl, calm := rfl, room := by have := hr.un; show (A.deeper _).units + 200 < cLine; omega, blt := hblt,
        tk := (takes_of (X := cxOf (L2.CX P w) P w K mg base N qual (defScope st) f cdv A outer s H E) rfl rfl rfl rfl).imp fun cls d σ H' ⟨δ, S', x, _, r', fr, xr, S1, hs, he⟩ =>
          fe cls d H' x S1 (r'.less hs) xr (fr.trans (.less hs.non)) he }
    refine ⟨_, sSs b g (passes_of rfl) hck (hok _ hr), startD N ds, S0, _, start_rel rr, r, .refl, (hsp _ _ _ _ sx).2, ⟨fun δ σ S1 H1 _ r1 f1 ⟨S2, hs, h⟩ => fin .non H1 (.d .non) S2 (r1.less hs) rfl (f1.trans (.less hs.non)) h, fun v H1 x S1 r1 rx f1 ⟨S2, hs, h⟩ => fin v H1 x S2 (r1.less hs) ?_ (f1.trans (.less hs.non)) h, fun _ _ _ _ _ _ _ h => h.elim, fun _ _ _ _ _ _ _ h => h.elim⟩⟩
    cases x with
    | d d => exact rx
    | l ds =>
      obtain ⟨p, vs, e1, e2, rr, n, z⟩ := rx
      exact ⟨p, vs, e1, e2, rr, hs.non _ n, z⟩
theorem def_okD {x qual : Str} {st : Stmt} {f : Addr} {fd : FuncData} {N ps : List Str} {k : Nat} {sp : DSp} (b : Ss) (F : FnP K x qual st f fd) (S : FnScope N ps (defScope st)) (hb : Binds K fd ps [])
    (hm : mg x = some (.ref f)) (hblt : ∀ y ∈ bltNames, mg y = none) (hck : ckSs b ⟨N, defScope st, fun _ => true⟩ (defBody st) = true) (hok : ∀ A, Room k A → okSs (CallOkF P w K mg base A) (GlobOkF K mg) b)
    (hsp : ∀ ds S q e, sp ds S q e → bodyW b N ps.length ds S q e) : DefOk P w K mg base (k + 1) x sp :=
  ⟨f, fd, ps, fn_okD b F S hblt hck hok hsp, hm, F.kp, hb⟩
theorem def_no {x qual : Str} {st : Stmt} {f : Addr} {fd : FuncData} {ps : List Str} (F : FnP K x qual st f fd) (hb : Binds K fd ps []) (hm : mg x = some (.ref f)) : DefOk P w K mg base 0 x fun _ _ _ _ => False :=
  ⟨f, fd, ps, ⟨fun vs H Q E h => (by obtain ⟨_, _, _, _, _, _, z, _⟩ := h; exact z.elim), fun A outer s H args us vs Q E _ _ _ _ h => (by obtain ⟨_, _, _, _, _, _, z, _⟩ := h; exact z.elim)⟩, hm, F.kp, hb⟩
/-- nothing is let out -/
theorem fn_cx0 {k : Nat} {f : Addr} {fd : FuncData} {ps : List Str} {sp : Sp} (F : FnOk P w K mg base (L2.CX P w) k f fd ps sp) : FnOk P w K mg base CX0 k f fd ps (fun vs H Q _ => sp vs H Q fun _ _ _ => False) :=
  ⟨fun vs H Q E h => F.len _ _ _ _ h, fun A outer s H args us vs Q E hr e0 hb r h => codeAny_mono (F.run A outer s H args us vs Q (fun _ _ _ => False) hr e0 hb r h) fun r s' hq => by
    cases r with
    | error e =>
      obtain ⟨_, _, _, _, _, _, _, _, _, _, _, _, z⟩ := hq
      exact z.elim
    | ok fl => cases fl <;> exact hq⟩
def sp_true : DSp := fun ds S q _ => ∃ l : List Int, ds = [.scr l] ∧ q (.d (.bl true)) S
theorem law_sp {K : PySem.W.Frag} {H : Hp} {a : Addr} {ns : List Int} (ho : Only H) (hS : SqL K H a (ns.map V.int)) : SpOf K sp_true [.ref a] H (fun v _ => v = .bl true) fun _ _ _ => False := by
  refine ⟨[.scr ns], fun _ => none, fun x _ => x = .d (.bl true), fun _ _ => False, (fun _ _ h => by cases h), ⟨.ref a, [], rfl, ⟨a, rfl, ?_⟩, rfl⟩, ⟨ns, rfl, rfl⟩, fun v' H' z S' _ rx _ hq => ?_, fun _ _ _ _ _ _ _ _ h => h⟩
  · rcases hS with (h | h) | h
    · rcases ho a with e | ⟨o, xs, e⟩
      · rw [e] at h; cases h
      · rw [e] at h; cases h
    · exact .inl h
    · exact .inr h
  · subst hq; exact rx
def Has (K : PySem.W.Frag) (mg : Str → Option Value) (x : Str) (st : Stmt) : Prop := ∃ f fd, FnP K x x st f fd ∧ mg x = some (.ref f)
end
def defD (x : Str) (st : Stmt) : He.DefD := ⟨(x, none), x, x, defArgs st, defBody st, defScope st, [], []⟩
theorem has_of {K : PySem.W.Frag} {h : Heap} {mg : Str → Option Value} {fa : List He.Fa} {fn : List He.DefD} (X : K.In h) (G : h.Ns mainGlobals mg) (c : He.SaysD fa fn K) {x : Str} {st : Stmt} (i j : Nat) (h1 : fn[i]? = some (defD x st)) (h2 : fa[j]? = some (.glo x)) : Has K mg x st := by
  obtain ⟨fd, F⟩ := c.def_ i h1
  exact ⟨_, fd, F, He.glo_ok X G (c.fact j h2)⟩
def isFree (y : Str) : He.Fa → Bool
  | .free z => z == y
  | _ => false
theorem free_of {K : PySem.W.Frag} {h : Heap} {mg : Str → Option Value} {fa : List He.Fa} {fn : List He.DefD} (X : K.In h) (G : h.Ns mainGlobals mg) (c : He.SaysD fa fn K) (hall : bltNames.all (fun y => fa.any (isFree y)) = true) : ∀ y ∈ bltNames, mg y = none := fun y hy => by
  have h1 := List.all_eq_true.mp hall y hy
  obtain ⟨z, hz, hf⟩ := List.any_eq_true.mp h1
  obtain ⟨j, hj⟩ := List.getElem?_of_mem hz
  cases z with
  | free z =>
    have e := eq_of_beq hf
    subst e
    exact He.free_ok X G (c.fact j hj)
  | _ => cases hf
end DL
namespace DL
open PySem PySem.Spec PyProof.Rows L2
def top (i : Nat) : Stmt := PySem.Challenge.pw_columndays_k85_first_plans_by_trying.main.body.getD i (.Pass ⟨0, 0, 0, 0⟩)

def N_takers : List Str := ["share", "day", "ask"]
def b_takers  : Ss :=
 (Ss.cons (Sm.ret (E.comp (E.v 2) (Tg.n 2) (Src.rng1 (E.blt Blt.len (Es.cons (E.v 0) Es.nil))) (Eo.yes (E.cmp CmpOp.In (E.v 1) (E.ix (E.v 0) (E.v 2))))))
 Ss.nil)
theorem sc_takers : FnScope N_takers ["share", "day"] (defScope (top 1)) := ⟨rfl, rfl, rfl, by decide +kernel, rfl, by decide +kernel, by decide +kernel⟩
theorem ck_takers  : ckSs (b_takers ) ⟨N_takers, defScope (top 1), fun _ => true⟩ (defBody (top 1)) = true := by kernel_rfl
def N_searched : List Str := ["wants", "share", "begun", "by", "via", "waiting", "ask", "day", "other"]
def b_searched (sp_takers : DSp) : Ss :=
 (Ss.cons (Sm.asg (Tg.n 3) E.dct0)
 (Ss.cons (Sm.asg (Tg.n 4) E.dct0)
 (Ss.cons (Sm.asg (Tg.n 5) (E.blt Blt.list (Es.cons (E.v 2) Es.nil)))
 (Ss.cons (Sm.fr (Tg.n 6) (Src.seq (E.v 5))
  (Ss.cons (Sm.setIx (E.v 4) (E.v 6) (E.c Dat.non))
  Ss.nil))
 (Ss.cons (Sm.wh (E.cmp CmpOp.NotEq (E.v 5) (E.lst Es.nil))
  (Ss.cons (Sm.asg (Tg.n 6) (E.mth Mth.popAt (E.v 5) (Es.cons (E.c (Dat.int 0)) Es.nil)))
  (Ss.cons (Sm.fr (Tg.n 7) (Src.seq (E.ixn (E.ix (E.v 0) (E.v 6)) 1))
   (Ss.cons (Sm.ite (E.bool false (E.cmp CmpOp.In (E.v 7) (E.ix (E.v 1) (E.v 6))) (Es.cons (E.cmp CmpOp.In (E.v 7) (E.v 3)) Es.nil))
    (Ss.cons Sm.cont
    Ss.nil)
    Ss.nil)
   (Ss.cons (Sm.setIx (E.v 3) (E.v 7) (E.v 6))
   (Ss.cons (Sm.fr (Tg.n 8) (Src.seq (E.call "takers" sp_takers (Es.cons (E.v 1) (Es.cons (E.v 7) Es.nil))))
    (Ss.cons (Sm.ite (E.cmp CmpOp.NotIn (E.v 8) (E.v 4))
     (Ss.cons (Sm.setIx (E.v 4) (E.v 8) (E.v 7))
     (Ss.cons (Sm.ex (E.mth Mth.append (E.v 5) (Es.cons (E.v 8) Es.nil)))
     Ss.nil))
     Ss.nil)
    Ss.nil))
   Ss.nil))))
  Ss.nil)))
 (Ss.cons (Sm.ret (E.tup (Es.cons (E.v 3) (Es.cons (E.v 4) Es.nil))))
 Ss.nil))))))
theorem sc_searched : FnScope N_searched ["wants", "share", "begun"] (defScope (top 2)) := ⟨rfl, rfl, rfl, by decide +kernel, rfl, by decide +kernel, by decide +kernel⟩
theorem ck_searched (sp_takers : DSp) : ckSs (b_searched sp_takers) ⟨N_searched, defScope (top 2), fun _ => true⟩ (defBody (top 2)) = true := by kernel_rfl
def N_lengthened : List Str := ["slots", "wants", "share", "ask", "free", "day", "one", "by", "via"]
def b_lengthened (sp_searched : DSp) (sp_takers : DSp) : Ss :=
 (Ss.cons (Sm.asg (Tg.t (Tgs.cons (Tg.n 7) (Tgs.cons (Tg.n 8) Tgs.nil))) (E.call "searched" sp_searched (Es.cons (E.v 1) (Es.cons (E.v 2) (Es.cons (E.lst (Es.cons (E.v 3) Es.nil)) Es.nil)))))
 (Ss.cons (Sm.asg (Tg.n 4) (E.compK (E.v 5) 5 7 (Eo.yes (E.cmp CmpOp.Lt (E.blt Blt.len (Es.cons (E.call "takers" sp_takers (Es.cons (E.v 2) (Es.cons (E.v 5) Es.nil))) Es.nil)) (E.ix (E.v 0) (E.v 5))))))
 (Ss.cons (Sm.ite (E.cmp CmpOp.Eq (E.v 4) (E.lst Es.nil))
  (Ss.cons (Sm.ret (E.c (Dat.bl false)))
  Ss.nil)
  Ss.nil)
 (Ss.cons (Sm.asg (Tg.n 5) (E.ixn (E.v 4) 0))
 (Ss.cons (Sm.asg (Tg.n 6) (E.ix (E.v 7) (E.v 5)))
 (Ss.cons (Sm.ex (E.mth Mth.append (E.ix (E.v 2) (E.v 6)) (Es.cons (E.v 5) Es.nil)))
 (Ss.cons (Sm.wh (E.cmp CmpOp.NotEq (E.v 6) (E.v 3))
  (Ss.cons (Sm.asg (Tg.n 5) (E.ix (E.v 8) (E.v 6)))
  (Ss.cons (Sm.ex (E.mth Mth.remove (E.ix (E.v 2) (E.v 6)) (Es.cons (E.v 5) Es.nil)))
  (Ss.cons (Sm.asg (Tg.n 6) (E.ix (E.v 7) (E.v 5)))
  (Ss.cons (Sm.ex (E.mth Mth.append (E.ix (E.v 2) (E.v 6)) (Es.cons (E.v 5) Es.nil)))
  Ss.nil)))))
 (Ss.cons (Sm.ret (E.c (Dat.bl true)))
 Ss.nil))))))))
theorem sc_lengthened : FnScope N_lengthened ["slots", "wants", "share", "ask"] (defScope (top 3)) := ⟨rfl, rfl, rfl, by decide +kernel, rfl, by decide +kernel, by decide +kernel⟩
theorem ck_lengthened (sp_searched : DSp) (sp_takers : DSp) : ckSs (b_lengthened sp_searched sp_takers) ⟨N_lengthened, defScope (top 3), fun _ => true⟩ (defBody (top 3)) = true := by kernel_rfl
def N_filled : List Str := ["slots", "wants", "share", "found", "ask", "going", "row"]
def b_filled (sp_lengthened : DSp) : Ss :=
 (Ss.cons (Sm.asg (Tg.n 3) (E.comp (E.blt Blt.list (Es.cons (E.v 6) Es.nil)) (Tg.n 6) (Src.seq (E.v 2)) Eo.no))
 (Ss.cons (Sm.fr (Tg.n 4) (Src.rng1 (E.blt Blt.len (Es.cons (E.v 1) Es.nil)))
  (Ss.cons (Sm.asg (Tg.n 5) (E.c (Dat.bl true)))
  (Ss.cons (Sm.wh (E.bool true (E.v 5) (Es.cons (E.cmp CmpOp.Lt (E.blt Blt.len (Es.cons (E.ix (E.v 3) (E.v 4)) Es.nil)) (E.ixn (E.ix (E.v 1) (E.v 4)) 0)) Es.nil))
   (Ss.cons (Sm.asg (Tg.n 5) (E.call "lengthened" sp_lengthened (Es.cons (E.v 0) (Es.cons (E.v 1) (Es.cons (E.v 3) (Es.cons (E.v 4) Es.nil))))))
   Ss.nil))
  Ss.nil)))
 (Ss.cons (Sm.ret (E.v 3))
 Ss.nil)))
theorem sc_filled : FnScope N_filled ["slots", "wants", "share"] (defScope (top 4)) := ⟨rfl, rfl, rfl, by decide +kernel, rfl, by decide +kernel, by decide +kernel⟩
theorem ck_filled (sp_lengthened : DSp) : ckSs (b_filled sp_lengthened) ⟨N_filled, defScope (top 4), fun _ => true⟩ (defBody (top 4)) = true := by kernel_rfl
def N_rows_of : List Str := ["share", "row"]
def b_rows_of  : Ss :=
 (Ss.cons (Sm.ret (E.blt Blt.tuple (Es.cons (E.comp (E.blt Blt.tuple (Es.cons (E.blt Blt.sorted (Es.cons (E.v 1) Es.nil)) Es.nil)) (Tg.n 1) (Src.seq (E.v 0)) Eo.no) Es.nil)))
 Ss.nil)
theorem sc_rows_of : FnScope N_rows_of ["share"] (defScope (top 5)) := ⟨rfl, rfl, rfl, by decide +kernel, rfl, by decide +kernel, by decide +kernel⟩
theorem ck_rows_of  : ckSs (b_rows_of ) ⟨N_rows_of, defScope (top 5), fun _ => true⟩ (defBody (top 5)) = true := by kernel_rfl
def N_many_in : List Str := ["share", "row"]
def b_many_in  : Ss :=
 (Ss.cons (Sm.ret (E.blt Blt.sum (Es.cons (E.comp (E.blt Blt.len (Es.cons (E.v 1) Es.nil)) (Tg.n 1) (Src.seq (E.v 0)) Eo.no) Es.nil)))
 Ss.nil)
theorem sc_many_in : FnScope N_many_in ["share"] (defScope (top 6)) := ⟨rfl, rfl, rfl, by decide +kernel, rfl, by decide +kernel, by decide +kernel⟩
theorem ck_many_in  : ckSs (b_many_in ) ⟨N_many_in, defScope (top 6), fun _ => true⟩ (defBody (top 6)) = true := by kernel_rfl
def N_wanted_by : List Str := ["wants", "many", "days"]
def b_wanted_by  : Ss :=
 (Ss.cons (Sm.ret (E.blt Blt.sum (Es.cons (E.comp (E.v 1) (Tg.t (Tgs.cons (Tg.n 1) (Tgs.cons (Tg.n 2) Tgs.nil))) (Src.seq (E.v 0)) Eo.no) Es.nil)))
 Ss.nil)
theorem sc_wanted_by : FnScope N_wanted_by ["wants"] (defScope (top 7)) := ⟨rfl, rfl, rfl, by decide +kernel, rfl, by decide +kernel, by decide +kernel⟩
theorem ck_wanted_by  : ckSs (b_wanted_by ) ⟨N_wanted_by, defScope (top 7), fun _ => true⟩ (defBody (top 7)) = true := by kernel_rfl
def N_lot_by : List Str := ["wants", "share", "begun", "ask"]
def b_lot_by (sp_searched : DSp) : Ss :=
 (Ss.cons (Sm.asg (Tg.n 2) (E.comp (E.v 3) (Tg.n 3) (Src.rng1 (E.blt Blt.len (Es.cons (E.v 0) Es.nil))) (Eo.yes (E.cmp CmpOp.Lt (E.blt Blt.len (Es.cons (E.ix (E.v 1) (E.v 3)) Es.nil)) (E.ixn (E.ix (E.v 0) (E.v 3)) 0)))))
 (Ss.cons (Sm.ret (E.blt Blt.tuple (Es.cons (E.blt Blt.sorted (Es.cons (E.ixn (E.call "searched" sp_searched (Es.cons (E.v 0) (Es.cons (E.v 1) (Es.cons (E.v 2) Es.nil)))) 0) Es.nil)) Es.nil)))
 Ss.nil))
theorem sc_lot_by : FnScope N_lot_by ["wants", "share"] (defScope (top 8)) := ⟨rfl, rfl, rfl, by decide +kernel, rfl, by decide +kernel, by decide +kernel⟩
theorem ck_lot_by (sp_searched : DSp) : ckSs (b_lot_by sp_searched) ⟨N_lot_by, defScope (top 8), fun _ => true⟩ (defBody (top 8)) = true := by kernel_rfl
def N_most : List Str := ["slots", "wants", "share", "ask"]
def b_most (sp_filled : DSp) (sp_lot_by : DSp) (sp_rows_of : DSp) (sp_many_in : DSp) : Ss :=
 (Ss.cons (Sm.asg (Tg.n 2) (E.call "filled" sp_filled (Es.cons (E.v 0) (Es.cons (E.v 1) (Es.cons (E.comp (E.tup Es.nil) (Tg.n 3) (Src.seq (E.v 1)) Eo.no) Es.nil)))))
 (Ss.cons (Sm.ret (E.tup (Es.cons (E.call "many_in" sp_many_in (Es.cons (E.v 2) Es.nil)) (Es.cons (E.call "rows_of" sp_rows_of (Es.cons (E.v 2) Es.nil)) (Es.cons (E.call "lot_by" sp_lot_by (Es.cons (E.v 1) (Es.cons (E.v 2) Es.nil))) Es.nil)))))
 Ss.nil))
theorem sc_most : FnScope N_most ["slots", "wants"] (defScope (top 9)) := ⟨rfl, rfl, rfl, by decide +kernel, rfl, by decide +kernel, by decide +kernel⟩
theorem ck_most (sp_filled : DSp) (sp_lot_by : DSp) (sp_rows_of : DSp) (sp_many_in : DSp) : ckSs (b_most sp_filled sp_lot_by sp_rows_of sp_many_in) ⟨N_most, defScope (top 9), fun _ => true⟩ (defBody (top 9)) = true := by kernel_rfl
def N_plan_of : List Str := ["slots", "wants", "number", "share", "lot"]
def b_plan_of (sp_most : DSp) (sp_wanted_by : DSp) : Ss :=
 (Ss.cons (Sm.asg (Tg.t (Tgs.cons (Tg.n 2) (Tgs.cons (Tg.n 3) (Tgs.cons (Tg.n 4) Tgs.nil)))) (E.call "most" sp_most (Es.cons (E.v 0) (Es.cons (E.v 1) Es.nil))))
 (Ss.cons (Sm.ite (E.cmp CmpOp.Eq (E.v 2) (E.call "wanted_by" sp_wanted_by (Es.cons (E.v 1) Es.nil)))
  (Ss.cons (Sm.ret (E.tup (Es.cons (E.c (Dat.str "plan")) (Es.cons (E.v 3) Es.nil))))
  Ss.nil)
  Ss.nil)
 (Ss.cons (Sm.ret (E.tup (Es.cons (E.c (Dat.str "lot")) (Es.cons (E.v 4) Es.nil))))
 Ss.nil)))
theorem sc_plan_of : FnScope N_plan_of ["slots", "wants"] (defScope (top 10)) := ⟨rfl, rfl, rfl, by decide +kernel, rfl, by decide +kernel, by decide +kernel⟩
theorem ck_plan_of (sp_most : DSp) (sp_wanted_by : DSp) : ckSs (b_plan_of sp_most sp_wanted_by) ⟨N_plan_of, defScope (top 10), fun _ => true⟩ (defBody (top 10)) = true := by kernel_rfl
def N_spent : List Str := ["plan", "ask", "day", "days", "row", "one"]
def b_spent  : Ss :=
 (Ss.cons (Sm.asg (Tg.n 3) (E.lst (Es.cons (E.v 2) Es.nil)))
 (Ss.cons (Sm.fr (Tg.n 4) (Src.seq (E.sl (E.v 0) Eo.no (Eo.yes (E.v 1))))
  (Ss.cons (Sm.ex (E.mth Mth.extend (E.v 3) (Es.cons (E.blt Blt.list (Es.cons (E.v 4) Es.nil)) Es.nil)))
  Ss.nil))
 (Ss.cons (Sm.ex (E.mth Mth.extend (E.v 3) (Es.cons (E.comp (E.v 5) (Tg.n 5) (Src.seq (E.ix (E.v 0) (E.v 1))) (Eo.yes (E.cmp CmpOp.Lt (E.v 5) (E.v 2)))) Es.nil)))
 (Ss.cons (Sm.ret (E.v 3))
 Ss.nil))))
theorem sc_spent : FnScope N_spent ["plan", "ask", "day"] (defScope (top 12)) := ⟨rfl, rfl, rfl, by decide +kernel, rfl, by decide +kernel, by decide +kernel⟩
theorem ck_spent  : ckSs (b_spent ) ⟨N_spent, defScope (top 12), fun _ => true⟩ (defBody (top 12)) = true := by kernel_rfl
def N_what_left : List Str := ["slots", "wants", "plan", "ask", "day", "days", "rest", "many", "behind", "own", "place", "one"]
def b_what_left (sp_spent : DSp) : Ss :=
 (Ss.cons (Sm.asg (Tg.n 5) (E.call "spent" sp_spent (Es.cons (E.v 2) (Es.cons (E.v 3) (Es.cons (E.v 4) Es.nil)))))
 (Ss.cons (Sm.asg (Tg.n 6) (E.blt Blt.tuple (Es.cons (E.comp (E.bin BOp.sub (E.v 7) (E.mth Mth.count (E.v 5) (Es.cons (E.v 10) Es.nil))) (Tg.t (Tgs.cons (Tg.n 10) (Tgs.cons (Tg.n 7) Tgs.nil))) (Src.enum (E.v 0)) Eo.no) Es.nil)))
 (Ss.cons (Sm.asg (Tg.t (Tgs.cons (Tg.n 7) (Tgs.cons (Tg.n 9) Tgs.nil))) (E.ix (E.v 1) (E.v 3)))
 (Ss.cons (Sm.aug 7 BOp.sub (E.bin BOp.add (E.c (Dat.int 1)) (E.blt Blt.len (Es.cons (E.comp (E.v 11) (Tg.n 11) (Src.seq (E.ix (E.v 2) (E.v 3))) (Eo.yes (E.cmp CmpOp.Lt (E.v 11) (E.v 4)))) Es.nil))))
 (Ss.cons (Sm.asg (Tg.n 8) (E.sl (E.v 1) (Eo.yes (E.bin BOp.add (E.v 3) (E.c (Dat.int 1)))) Eo.no))
 (Ss.cons (Sm.ite (E.cmp CmpOp.Gt (E.v 7) (E.c (Dat.int 0)))
  (Ss.cons (Sm.asg (Tg.n 8) (E.bin BOp.add (E.tup (Es.cons (E.tup (Es.cons (E.v 7) (Es.cons (E.blt Blt.tuple (Es.cons (E.comp (E.v 11) (Tg.n 11) (Src.seq (E.v 9)) (Eo.yes (E.cmp CmpOp.Gt (E.v 11) (E.v 4)))) Es.nil)) Es.nil))) Es.nil)) (E.v 8)))
  Ss.nil)
  Ss.nil)
 (Ss.cons (Sm.ret (E.tup (Es.cons (E.v 6) (Es.cons (E.v 8) Es.nil))))
 Ss.nil)))))))
theorem sc_what_left : FnScope N_what_left ["slots", "wants", "plan", "ask", "day"] (defScope (top 13)) := ⟨rfl, rfl, rfl, by decide +kernel, rfl, by decide +kernel, by decide +kernel⟩
theorem ck_what_left (sp_spent : DSp) : ckSs (b_what_left sp_spent) ⟨N_what_left, defScope (top 13), fun _ => true⟩ (defBody (top 13)) = true := by kernel_rfl
def N_is_open : List Str := ["slots", "wants", "plan", "ask", "day", "rest", "behind"]
def b_is_open (sp_what_left : DSp) (sp_plan_of : DSp) : Ss :=
 (Ss.cons (Sm.asg (Tg.t (Tgs.cons (Tg.n 5) (Tgs.cons (Tg.n 6) Tgs.nil))) (E.call "what_left" sp_what_left (Es.cons (E.v 0) (Es.cons (E.v 1) (Es.cons (E.v 2) (Es.cons (E.v 3) (Es.cons (E.v 4) Es.nil)))))))
 (Ss.cons (Sm.ret (E.bool true (E.cmp CmpOp.GtE (E.blt Blt.min (Es.cons (E.v 5) Es.nil)) (E.c (Dat.int 0))) (Es.cons (E.cmp CmpOp.Eq (E.ixn (E.call "plan_of" sp_plan_of (Es.cons (E.v 5) (Es.cons (E.v 6) Es.nil))) 0) (E.c (Dat.str "plan"))) Es.nil)))
 Ss.nil))
theorem sc_is_open : FnScope N_is_open ["slots", "wants", "plan", "ask", "day"] (defScope (top 14)) := ⟨rfl, rfl, rfl, by decide +kernel, rfl, by decide +kernel, by decide +kernel⟩
theorem ck_is_open (sp_what_left : DSp) (sp_plan_of : DSp) : ckSs (b_is_open sp_what_left sp_plan_of) ⟨N_is_open, defScope (top 14), fun _ => true⟩ (defBody (top 14)) = true := by kernel_rfl
def N_first_row : List Str := ["slots", "wants", "plan", "ask", "row", "day"]
def b_first_row (sp_is_open : DSp) : Ss :=
 (Ss.cons (Sm.asg (Tg.n 4) (E.tup Es.nil))
 (Ss.cons (Sm.fr (Tg.n 5) (Src.seq (E.ixn (E.ix (E.v 1) (E.v 3)) 1))
  (Ss.cons (Sm.ite (E.bool true (E.cmp CmpOp.Lt (E.blt Blt.len (Es.cons (E.v 4) Es.nil)) (E.ixn (E.ix (E.v 1) (E.v 3)) 0)) (Es.cons (E.call "is_open" sp_is_open (Es.cons (E.v 0) (Es.cons (E.v 1) (Es.cons (E.bin BOp.add (E.v 2) (E.tup (Es.cons (E.v 4) Es.nil))) (Es.cons (E.v 3) (Es.cons (E.v 5) Es.nil)))))) Es.nil))
   (Ss.cons (Sm.asg (Tg.n 4) (E.bin BOp.add (E.v 4) (E.tup (Es.cons (E.v 5) Es.nil))))
   Ss.nil)
   Ss.nil)
  Ss.nil))
 (Ss.cons (Sm.ret (E.v 4))
 Ss.nil)))
theorem sc_first_row : FnScope N_first_row ["slots", "wants", "plan", "ask"] (defScope (top 15)) := ⟨rfl, rfl, rfl, by decide +kernel, rfl, by decide +kernel, by decide +kernel⟩
theorem ck_first_row (sp_is_open : DSp) : ckSs (b_first_row sp_is_open) ⟨N_first_row, defScope (top 15), fun _ => true⟩ (defBody (top 15)) = true := by kernel_rfl
def N_first_plan : List Str := ["slots", "wants", "plan", "ask"]
def b_first_plan (sp_plan_of : DSp) (sp_first_row : DSp) : Ss :=
 (Ss.cons (Sm.ite (E.cmp CmpOp.Eq (E.ixn (E.call "plan_of" sp_plan_of (Es.cons (E.v 0) (Es.cons (E.v 1) Es.nil))) 0) (E.c (Dat.str "lot")))
  (Ss.cons (Sm.ret (E.c Dat.non))
  Ss.nil)
  Ss.nil)
 (Ss.cons (Sm.asg (Tg.n 2) (E.tup Es.nil))
 (Ss.cons (Sm.fr (Tg.n 3) (Src.rng1 (E.blt Blt.len (Es.cons (E.v 1) Es.nil)))
  (Ss.cons (Sm.asg (Tg.n 2) (E.bin BOp.add (E.v 2) (E.tup (Es.cons (E.call "first_row" sp_first_row (Es.cons (E.v 0) (Es.cons (E.v 1) (Es.cons (E.v 2) (Es.cons (E.v 3) Es.nil))))) Es.nil))))
  Ss.nil))
 (Ss.cons (Sm.ret (E.v 2))
 Ss.nil))))
theorem sc_first_plan : FnScope N_first_plan ["slots", "wants"] (defScope (top 16)) := ⟨rfl, rfl, rfl, by decide +kernel, rfl, by decide +kernel, by decide +kernel⟩
theorem ck_first_plan (sp_plan_of : DSp) (sp_first_row : DSp) : ckSs (b_first_plan sp_plan_of sp_first_row) ⟨N_first_plan, defScope (top 16), fun _ => true⟩ (defBody (top 16)) = true := by kernel_rfl
def N__law_source : List Str := ["_law_script", "_law_cells", "_law_cell"]
def b__law_source  : Ss :=
 (Ss.cons (Sm.asg (Tg.n 1) (E.comp (E.bin BOp.add (E.bin BOp.mul (E.c (Dat.int 2)) (E.blt Blt.abs (Es.cons (E.v 2) Es.nil))) (E.blt Blt.int (Es.cons (E.cmp CmpOp.Lt (E.v 2) (E.c (Dat.int 0))) Es.nil))) (Tg.n 2) (Src.seq (E.sl (E.v 0) Eo.no (Eo.yes (E.c (Dat.int 63))))) Eo.no))
 (Ss.cons (Sm.ret (E.lst (Es.cons (E.v 1) (Es.cons (E.c (Dat.int 0)) (Es.cons (E.c (Dat.int 0)) (Es.cons (E.c (Dat.int 0)) (Es.cons (E.bin BOp.mod (E.blt Blt.sum (Es.cons (E.v 1) Es.nil)) (E.c (Dat.int 2147483647))) Es.nil)))))))
 Ss.nil))
theorem sc__law_source : FnScope N__law_source ["_law_script"] (defScope (top 18)) := ⟨rfl, rfl, rfl, by decide +kernel, rfl, by decide +kernel, by decide +kernel⟩
theorem ck__law_source  : ckSs (b__law_source ) ⟨N__law_source, defScope (top 18), fun _ => true⟩ (defBody (top 18)) = true := by kernel_rfl
def N__law_draw : List Str := ["_law_left", "_law_many", "_law_told", "_law_cell"]
def b__law_draw  : Ss :=
 (Ss.cons (Sm.augIx (E.v 0) (E.c (Dat.int 3)) BOp.add (E.c (Dat.int 1)))
 (Ss.cons (Sm.ite (E.bool true (E.cmp CmpOp.Eq (E.ixn (E.v 0) 2) (E.c (Dat.int 0))) (Es.cons (E.cmp CmpOp.Lt (E.ixn (E.v 0) 1) (E.blt Blt.len (Es.cons (E.ixn (E.v 0) 0) Es.nil))) Es.nil))
  (Ss.cons (Sm.asg (Tg.n 3) (E.ix (E.ixn (E.v 0) 0) (E.ixn (E.v 0) 1)))
  (Ss.cons (Sm.augIx (E.v 0) (E.c (Dat.int 1)) BOp.add (E.c (Dat.int 1)))
  (Ss.cons (Sm.ite (E.cmp CmpOp.GtE (E.v 3) (E.bin BOp.pow (E.c (Dat.int 10)) (E.c (Dat.int 18))))
   (Ss.cons (Sm.setIx (E.v 0) (E.c (Dat.int 2)) (E.v 3))
   Ss.nil)
   (Ss.cons (Sm.setIx (E.v 0) (E.c (Dat.int 4)) (E.bin BOp.mod (E.bin BOp.add (E.bin BOp.mul (E.ixn (E.v 0) 4) (E.c (Dat.int 31))) (E.v 3)) (E.c (Dat.int 2147483647))))
   Ss.nil))
  Ss.nil)))
  Ss.nil)
 (Ss.cons (Sm.ite (E.cmp CmpOp.Gt (E.ixn (E.v 0) 2) (E.c (Dat.int 0)))
  (Ss.cons (Sm.asg (Tg.n 2) (E.bin BOp.mod (E.ixn (E.v 0) 2) (E.v 1)))
  (Ss.cons (Sm.augIx (E.v 0) (E.c (Dat.int 2)) BOp.fdiv (E.v 1))
  (Ss.cons (Sm.ret (E.v 2))
  Ss.nil)))
  Ss.nil)
 (Ss.cons (Sm.asg (Tg.n 2) (E.bin BOp.mod (E.bin BOp.pow (E.bin BOp.add (E.bin BOp.add (E.ixn (E.v 0) 4) (E.c (Dat.int 1))) (E.bin BOp.mul (E.ixn (E.v 0) 3) (E.c (Dat.int 7919)))) (E.c (Dat.int 3))) (E.c (Dat.int 2147483647))))
 (Ss.cons (Sm.ret (E.bin BOp.mod (E.bin BOp.fdiv (E.bin BOp.mod (E.bin BOp.pow (E.bin BOp.add (E.bin BOp.mul (E.v 2) (E.c (Dat.int 48271))) (E.ixn (E.v 0) 3)) (E.c (Dat.int 2))) (E.c (Dat.int 2147483629))) (E.c (Dat.int 64))) (E.v 1)))
 Ss.nil)))))
theorem sc__law_draw : FnScope N__law_draw ["_law_left", "_law_many"] (defScope (top 19)) := ⟨rfl, rfl, rfl, by decide +kernel, rfl, by decide +kernel, by decide +kernel⟩
theorem ck__law_draw  : ckSs (b__law_draw ) ⟨N__law_draw, defScope (top 19), fun _ => true⟩ (defBody (top 19)) = true := by kernel_rfl
def N__law_subset : List Str := ["_law_left", "_law_high", "_law_many", "_law_told", "_law_k", "_law_one"]
def b__law_subset (sp__law_draw : DSp) : Ss :=
 (Ss.cons (Sm.asg (Tg.n 3) (E.lst Es.nil))
 (Ss.cons (Sm.fr (Tg.n 4) (Src.rng1 (E.v 2))
  (Ss.cons (Sm.asg (Tg.n 5) (E.call "_law_draw" sp__law_draw (Es.cons (E.v 0) (Es.cons (E.v 1) Es.nil))))
  (Ss.cons (Sm.ite (E.cmp CmpOp.NotIn (E.v 5) (E.v 3))
   (Ss.cons (Sm.ex (E.mth Mth.append (E.v 3) (Es.cons (E.v 5) Es.nil)))
   Ss.nil)
   Ss.nil)
  Ss.nil)))
 (Ss.cons (Sm.ret (E.blt Blt.tuple (Es.cons (E.blt Blt.sorted (Es.cons (E.v 3) Es.nil)) Es.nil)))
 Ss.nil)))
theorem sc__law_subset : FnScope N__law_subset ["_law_left", "_law_high", "_law_many"] (defScope (top 20)) := ⟨rfl, rfl, rfl, by decide +kernel, rfl, by decide +kernel, by decide +kernel⟩
theorem ck__law_subset (sp__law_draw : DSp) : ckSs (b__law_subset sp__law_draw) ⟨N__law_subset, defScope (top 20), fun _ => true⟩ (defBody (top 20)) = true := by kernel_rfl
def N__law_wants : List Str := ["_law_left", "_law_slots", "_law_many", "_law_far", "_law_wants_here", "_law_k", "_law_days"]
def b__law_wants (sp__law_subset : DSp) (sp__law_draw : DSp) : Ss :=
 (Ss.cons (Sm.asg (Tg.n 4) (E.lst Es.nil))
 (Ss.cons (Sm.fr (Tg.n 5) (Src.rng1 (E.v 2))
  (Ss.cons (Sm.asg (Tg.n 6) (E.call "_law_subset" sp__law_subset (Es.cons (E.v 0) (Es.cons (E.blt Blt.len (Es.cons (E.v 1) Es.nil)) (Es.cons (E.bin BOp.add (E.c (Dat.int 1)) (E.call "_law_draw" sp__law_draw (Es.cons (E.v 0) (Es.cons (E.bin BOp.add (E.c (Dat.int 2)) (E.blt Blt.len (Es.cons (E.v 1) Es.nil))) Es.nil)))) Es.nil)))))
  (Ss.cons (Sm.ite (E.cmp CmpOp.Eq (E.call "_law_draw" sp__law_draw (Es.cons (E.v 0) (Es.cons (E.c (Dat.int 16)) Es.nil))) (E.c (Dat.int 0)))
   (Ss.cons (Sm.asg (Tg.n 6) (E.tup Es.nil))
   Ss.nil)
   Ss.nil)
  (Ss.cons (Sm.ex (E.mth Mth.append (E.v 4) (Es.cons (E.tup (Es.cons (E.bin BOp.add (E.c (Dat.int 1)) (E.call "_law_draw" sp__law_draw (Es.cons (E.v 0) (Es.cons (E.blt Blt.max (Es.cons (E.c (Dat.int 1)) (Es.cons (E.blt Blt.min (Es.cons (E.v 3) (Es.cons (E.blt Blt.len (Es.cons (E.v 6) Es.nil)) Es.nil))) Es.nil))) Es.nil)))) (Es.cons (E.v 6) Es.nil))) Es.nil)))
  Ss.nil))))
 (Ss.cons (Sm.ret (E.blt Blt.tuple (Es.cons (E.v 4) Es.nil)))
 Ss.nil)))
theorem sc__law_wants : FnScope N__law_wants ["_law_left", "_law_slots", "_law_many", "_law_far"] (defScope (top 21)) := ⟨rfl, rfl, rfl, by decide +kernel, rfl, by decide +kernel, by decide +kernel⟩
theorem ck__law_wants (sp__law_subset : DSp) (sp__law_draw : DSp) : ckSs (b__law_wants sp__law_subset sp__law_draw) ⟨N__law_wants, defScope (top 21), fun _ => true⟩ (defBody (top 21)) = true := by kernel_rfl
def N__law_need : List Str := ["_law_wants_here", "_law_lot", "_law_lacking", "_law_many", "_law_days", "_law_day"]
def b__law_need  : Ss :=
 (Ss.cons (Sm.asg (Tg.n 2) (E.c (Dat.int 0)))
 (Ss.cons (Sm.fr (Tg.t (Tgs.cons (Tg.n 3) (Tgs.cons (Tg.n 4) Tgs.nil))) (Src.seq (E.v 0))
  (Ss.cons (Sm.aug 2 BOp.add (E.blt Blt.max (Es.cons (E.c (Dat.int 0)) (Es.cons (E.bin BOp.sub (E.v 3) (E.blt Blt.len (Es.cons (E.comp (E.v 5) (Tg.n 5) (Src.seq (E.v 4)) (Eo.yes (E.cmp CmpOp.NotIn (E.v 5) (E.v 1)))) Es.nil))) Es.nil))))
  Ss.nil))
 (Ss.cons (Sm.ret (E.v 2))
 Ss.nil)))
theorem sc__law_need : FnScope N__law_need ["_law_wants_here", "_law_lot"] (defScope (top 22)) := ⟨rfl, rfl, rfl, by decide +kernel, rfl, by decide +kernel, by decide +kernel⟩
theorem ck__law_need  : ckSs (b__law_need ) ⟨N__law_need, defScope (top 22), fun _ => true⟩ (defBody (top 22)) = true := by kernel_rfl
def N__law_is_row : List Str := ["_law_thing", "_law_high", "_law_last", "_law_one"]
def b__law_is_row  : Ss :=
 (Ss.cons (Sm.ite (E.not (E.isi (E.v 0) Ty.tuple))
  (Ss.cons (Sm.ret (E.c (Dat.bl false)))
  Ss.nil)
  Ss.nil)
 (Ss.cons (Sm.asg (Tg.n 2) (E.neg (E.c (Dat.int 1))))
 (Ss.cons (Sm.fr (Tg.n 3) (Src.seq (E.v 0))
  (Ss.cons (Sm.ite (E.bool false (E.not (E.isi (E.v 3) Ty.int)) (Es.cons (E.isi (E.v 3) Ty.bool) (Es.cons (E.not (E.cmp2 CmpOp.Lt CmpOp.Lt (E.v 2) (E.v 3) (E.v 1))) Es.nil)))
   (Ss.cons (Sm.ret (E.c (Dat.bl false)))
   Ss.nil)
   Ss.nil)
  (Ss.cons (Sm.asg (Tg.n 2) (E.v 3))
  Ss.nil)))
 (Ss.cons (Sm.ret (E.c (Dat.bl true)))
 Ss.nil))))
theorem sc__law_is_row : FnScope N__law_is_row ["_law_thing", "_law_high"] (defScope (top 23)) := ⟨rfl, rfl, rfl, by decide +kernel, rfl, by decide +kernel, by decide +kernel⟩
theorem ck__law_is_row  : ckSs (b__law_is_row ) ⟨N__law_is_row, defScope (top 23), fun _ => true⟩ (defBody (top 23)) = true := by kernel_rfl
def N__law_is_lot : List Str := ["_law_slots", "_law_wants_here", "_law_lot", "_law_day"]
def b__law_is_lot (sp__law_is_row : DSp) (sp__law_need : DSp) : Ss :=
 (Ss.cons (Sm.ret (E.bool true (E.call "_law_is_row" sp__law_is_row (Es.cons (E.v 2) (Es.cons (E.blt Blt.len (Es.cons (E.v 0) Es.nil)) Es.nil))) (Es.cons (E.cmp CmpOp.Gt (E.call "_law_need" sp__law_need (Es.cons (E.v 1) (Es.cons (E.v 2) Es.nil))) (E.blt Blt.sum (Es.cons (E.comp (E.ix (E.v 0) (E.v 3)) (Tg.n 3) (Src.seq (E.v 2)) Eo.no) Es.nil))) Es.nil)))
 Ss.nil)
theorem sc__law_is_lot : FnScope N__law_is_lot ["_law_slots", "_law_wants_here", "_law_lot"] (defScope (top 24)) := ⟨rfl, rfl, rfl, by decide +kernel, rfl, by decide +kernel, by decide +kernel⟩
theorem ck__law_is_lot (sp__law_is_row : DSp) (sp__law_need : DSp) : ckSs (b__law_is_lot sp__law_is_row sp__law_need) ⟨N__law_is_lot, defScope (top 24), fun _ => true⟩ (defBody (top 24)) = true := by kernel_rfl
def N__law_every : List Str := ["_law_rows_here", "_law_found", "_law_row"]
def b__law_every  : Ss :=
 (Ss.cons (Sm.asg (Tg.n 1) (E.lst Es.nil))
 (Ss.cons (Sm.fr (Tg.n 2) (Src.seq (E.v 0))
  (Ss.cons (Sm.aug 1 BOp.add (E.blt Blt.list (Es.cons (E.v 2) Es.nil)))
  Ss.nil))
 (Ss.cons (Sm.ret (E.v 1))
 Ss.nil)))
theorem sc__law_every : FnScope N__law_every ["_law_rows_here"] (defScope (top 25)) := ⟨rfl, rfl, rfl, by decide +kernel, rfl, by decide +kernel, by decide +kernel⟩
theorem ck__law_every  : ckSs (b__law_every ) ⟨N__law_every, defScope (top 25), fun _ => true⟩ (defBody (top 25)) = true := by kernel_rfl
def N__law_is_plan : List Str := ["_law_slots", "_law_wants_here", "_law_plan", "_law_every_here", "_law_row", "_law_want", "_law_day"]
def b__law_is_plan (sp__law_is_row : DSp) (sp__law_every : DSp) : Ss :=
 (Ss.cons (Sm.ite (E.bool false (E.not (E.isi (E.v 2) Ty.tuple)) (Es.cons (E.cmp CmpOp.NotEq (E.blt Blt.len (Es.cons (E.v 2) Es.nil)) (E.blt Blt.len (Es.cons (E.v 1) Es.nil))) Es.nil))
  (Ss.cons (Sm.ret (E.c (Dat.bl false)))
  Ss.nil)
  Ss.nil)
 (Ss.cons (Sm.fr (Tg.t (Tgs.cons (Tg.n 4) (Tgs.cons (Tg.n 5) Tgs.nil))) (Src.zip (E.v 2) (E.v 1))
  (Ss.cons (Sm.ite (E.bool false (E.not (E.call "_law_is_row" sp__law_is_row (Es.cons (E.v 4) (Es.cons (E.blt Blt.len (Es.cons (E.v 0) Es.nil)) Es.nil)))) (Es.cons (E.cmp CmpOp.NotEq (E.blt Blt.len (Es.cons (E.v 4) Es.nil)) (E.ixn (E.v 5) 0)) Es.nil))
   (Ss.cons (Sm.ret (E.c (Dat.bl false)))
   Ss.nil)
   Ss.nil)
  (Ss.cons (Sm.ite (E.cmp CmpOp.NotEq (E.comp (E.v 6) (Tg.n 6) (Src.seq (E.v 4)) (Eo.yes (E.cmp CmpOp.NotIn (E.v 6) (E.ixn (E.v 5) 1)))) (E.lst Es.nil))
   (Ss.cons (Sm.ret (E.c (Dat.bl false)))
   Ss.nil)
   Ss.nil)
  Ss.nil)))
 (Ss.cons (Sm.asg (Tg.n 3) (E.call "_law_every" sp__law_every (Es.cons (E.v 2) Es.nil)))
 (Ss.cons (Sm.ret (E.cmp CmpOp.Eq (E.comp (E.v 6) (Tg.n 6) (Src.rng1 (E.blt Blt.len (Es.cons (E.v 0) Es.nil))) (Eo.yes (E.cmp CmpOp.Gt (E.mth Mth.count (E.v 3) (Es.cons (E.v 6) Es.nil)) (E.ix (E.v 0) (E.v 6))))) (E.lst Es.nil)))
 Ss.nil))))
theorem sc__law_is_plan : FnScope N__law_is_plan ["_law_slots", "_law_wants_here", "_law_plan"] (defScope (top 26)) := ⟨rfl, rfl, rfl, by decide +kernel, rfl, by decide +kernel, by decide +kernel⟩
theorem ck__law_is_plan (sp__law_is_row : DSp) (sp__law_every : DSp) : ckSs (b__law_is_plan sp__law_is_row sp__law_every) ⟨N__law_is_plan, defScope (top 26), fun _ => true⟩ (defBody (top 26)) = true := by kernel_rfl
def N__law_rows : List Str := ["_law_days", "_law_many", "_law_rows_here", "_law_day", "_law_row"]
def b__law_rows  : Ss :=
 (Ss.cons (Sm.asg (Tg.n 2) (E.lst (Es.cons (E.tup Es.nil) Es.nil)))
 (Ss.cons (Sm.fr (Tg.n 3) (Src.seq (E.v 0))
  (Ss.cons (Sm.aug 2 BOp.add (E.comp (E.bin BOp.add (E.v 4) (E.tup (Es.cons (E.v 3) Es.nil))) (Tg.n 4) (Src.seq (E.v 2)) (Eo.yes (E.cmp CmpOp.Lt (E.blt Blt.len (Es.cons (E.v 4) Es.nil)) (E.v 1)))))
  Ss.nil))
 (Ss.cons (Sm.ret (E.blt Blt.sorted (Es.cons (E.comp (E.v 4) (Tg.n 4) (Src.seq (E.v 2)) (Eo.yes (E.cmp CmpOp.Eq (E.blt Blt.len (Es.cons (E.v 4) Es.nil)) (E.v 1)))) Es.nil)))
 Ss.nil)))
theorem sc__law_rows : FnScope N__law_rows ["_law_days", "_law_many"] (defScope (top 27)) := ⟨rfl, rfl, rfl, by decide +kernel, rfl, by decide +kernel, by decide +kernel⟩
theorem ck__law_rows  : ckSs (b__law_rows ) ⟨N__law_rows, defScope (top 27), fun _ => true⟩ (defBody (top 27)) = true := by kernel_rfl
def N__law_least : List Str := ["_law_slots", "_law_wants_here", "_law_row", "_law_rest", "_law_behind", "_law_day"]
def b__law_least (sp__law_rows : DSp) (sp__law_least : DSp) : Ss :=
 (Ss.cons (Sm.ite (E.cmp CmpOp.Eq (E.v 1) (E.tup Es.nil))
  (Ss.cons (Sm.ret (E.tup Es.nil))
  Ss.nil)
  Ss.nil)
 (Ss.cons (Sm.fr (Tg.n 2) (Src.seq (E.call "_law_rows" sp__law_rows (Es.cons (E.ixn (E.ixn (E.v 1) 0) 1) (Es.cons (E.ixn (E.ixn (E.v 1) 0) 0) Es.nil))))
  (Ss.cons (Sm.asg (Tg.n 3) (E.blt Blt.tuple (Es.cons (E.comp (E.bin BOp.sub (E.ix (E.v 0) (E.v 5)) (E.mth Mth.count (E.v 2) (Es.cons (E.v 5) Es.nil))) (Tg.n 5) (Src.rng1 (E.blt Blt.len (Es.cons (E.v 0) Es.nil))) Eo.no) Es.nil)))
  (Ss.cons (Sm.ite (E.cmp CmpOp.GtE (E.blt Blt.min (Es.cons (E.v 3) Es.nil)) (E.c (Dat.int 0)))
   (Ss.cons (Sm.asg (Tg.n 4) (E.call "_law_least" sp__law_least (Es.cons (E.v 3) (Es.cons (E.sl (E.v 1) (Eo.yes (E.c (Dat.int 1))) Eo.no) Es.nil))))
   (Ss.cons (Sm.ite (E.cmp CmpOp.IsNot (E.v 4) (E.c Dat.non))
    (Ss.cons (Sm.ret (E.bin BOp.add (E.tup (Es.cons (E.v 2) Es.nil)) (E.v 4)))
    Ss.nil)
    Ss.nil)
   Ss.nil))
   Ss.nil)
  Ss.nil)))
 (Ss.cons (Sm.ret (E.c Dat.non))
 Ss.nil)))
theorem sc__law_least : FnScope N__law_least ["_law_slots", "_law_wants_here"] (defScope (top 28)) := ⟨rfl, rfl, rfl, by decide +kernel, rfl, by decide +kernel, by decide +kernel⟩
theorem ck__law_least (sp__law_rows : DSp) (sp__law_least : DSp) : ckSs (b__law_least sp__law_rows sp__law_least) ⟨N__law_least, defScope (top 28), fun _ => true⟩ (defBody (top 28)) = true := by kernel_rfl
def N_law : List Str := ["_law_script", "_law_left", "_law_k", "_law_slots", "_law_wants_here", "_law_due", "_law_turn", "_law_found", "_law_day"]
def b_law (sp__law_source : DSp) (sp__law_draw : DSp) (sp__law_wants : DSp) (sp__law_least : DSp) (sp_first_plan : DSp) (sp__law_is_plan : DSp) : Ss :=
 (Ss.cons (Sm.asg (Tg.n 1) (E.call "_law_source" sp__law_source (Es.cons (E.v 0) Es.nil)))
 (Ss.cons (Sm.fr (Tg.n 2) (Src.rng1 (E.c (Dat.int 4)))
  (Ss.cons (Sm.asg (Tg.n 3) (E.blt Blt.tuple (Es.cons (E.comp (E.call "_law_draw" sp__law_draw (Es.cons (E.v 1) (Es.cons (E.c (Dat.int 4)) Es.nil))) (Tg.n 8) (Src.rng1 (E.bin BOp.add (E.c (Dat.int 1)) (E.call "_law_draw" sp__law_draw (Es.cons (E.v 1) (Es.cons (E.c (Dat.int 4)) Es.nil))))) Eo.no) Es.nil)))
  (Ss.cons (Sm.asg (Tg.n 4) (E.call "_law_wants" sp__law_wants (Es.cons (E.v 1) (Es.cons (E.v 3) (Es.cons (E.call "_law_draw" sp__law_draw (Es.cons (E.v 1) (Es.cons (E.c (Dat.int 5)) Es.nil))) (Es.cons (E.c (Dat.int 4)) Es.nil))))))
  (Ss.cons (Sm.asg (Tg.n 5) (E.call "_law_least" sp__law_least (Es.cons (E.v 3) (Es.cons (E.v 4) Es.nil))))
  (Ss.cons (Sm.fr (Tg.n 6) (Src.rng1 (E.c (Dat.int 2)))
   (Ss.cons (Sm.asg (Tg.n 7) (E.call "first_plan" sp_first_plan (Es.cons (E.v 3) (Es.cons (E.v 4) Es.nil))))
   (Ss.cons (Sm.ite (E.cmp CmpOp.Is (E.v 5) (E.c Dat.non))
    (Ss.cons (Sm.ite (E.cmp CmpOp.IsNot (E.v 7) (E.c Dat.non))
     (Ss.cons (Sm.ret (E.c (Dat.bl false)))
     Ss.nil)
     Ss.nil)
    Ss.nil)
    (Ss.cons (Sm.ite (E.bool false (E.not (E.call "_law_is_plan" sp__law_is_plan (Es.cons (E.v 3) (Es.cons (E.v 4) (Es.cons (E.v 7) Es.nil))))) (Es.cons (E.cmp CmpOp.NotEq (E.v 7) (E.v 5)) Es.nil))
     (Ss.cons (Sm.ret (E.c (Dat.bl false)))
     Ss.nil)
     Ss.nil)
    Ss.nil))
   Ss.nil)))
  Ss.nil)))))
 (Ss.cons (Sm.ret (E.c (Dat.bl true)))
 Ss.nil)))
theorem sc_law : FnScope N_law ["_law_script"] (defScope (top 29)) := ⟨rfl, rfl, rfl, by decide +kernel, rfl, by decide +kernel, by decide +kernel⟩
theorem ck_law (sp__law_source : DSp) (sp__law_draw : DSp) (sp__law_wants : DSp) (sp__law_least : DSp) (sp_first_plan : DSp) (sp__law_is_plan : DSp) : ckSs (b_law sp__law_source sp__law_draw sp__law_wants sp__law_least sp_first_plan sp__law_is_plan) ⟨N_law, defScope (top 29), fun _ => true⟩ (defBody (top 29)) = true := by kernel_rfl
end DL
/-! The plain law of k85, part 1: a search that ends without a free day shows that there is no plan. -/
namespace K85

abbrev Row := List Int
abbrev Want := Int × List Int
def rowAt (rows : List Row) (i : Nat) : Row := rows.getD i []
def dem (ws : List Want) (i : Nat) : Int := (ws.getD i (0, [])).1
def own (ws : List Want) (i : Nat) : List Int := (ws.getD i (0, [])).2
def takers (rows : List Row) (d : Int) : List Nat := (List.range rows.length).filter fun i => decide (d ∈ rowAt rows i)
def cnt (rows : List Row) (d : Int) : Nat := (takers rows d).length
def cap (c : List Int) (d : Int) : Int := c.getD d.toNat 0
def InR (c : List Int) (d : Int) : Prop := 0 ≤ d ∧ d < c.length

theorem nodup_len {α : Type} [DecidableEq α] : ∀ {l m : List α}, l.Nodup → (∀ x ∈ l, x ∈ m) → l.length ≤ m.length
  | [], _, _, _ => Nat.zero_le _
  | a :: l, m, h, s => by
    have ha := s a List.mem_cons_self
    rw [List.nodup_cons] at h
    have := nodup_len (l := l) (m := m.erase a) h.2 fun x hx => by
      have hx2 := s x (List.mem_cons_of_mem _ hx)
      have ne : x ≠ a := by intro z; subst z; exact h.1 hx
      exact (List.mem_erase_of_ne ne).mpr hx2
    rw [List.length_erase_of_mem ha] at this
    have : 0 < m.length := List.length_pos_of_mem ha
    rw [List.length_cons]; omega
def sumL {α : Type} (l : List α) (f : α → Nat) : Nat := (l.map f).sum
theorem sumL_nil {α : Type} (f : α → Nat) : sumL [] f = 0 := rfl
theorem sumL_cons {α : Type} (a : α) (l : List α) (f : α → Nat) : sumL (a :: l) f = f a + sumL l f := by simp [sumL]
theorem sumL_le {α : Type} {l : List α} {f g : α → Nat} (h : ∀ a ∈ l, f a ≤ g a) : sumL l f ≤ sumL l g := by
  induction l with
  | nil => exact Nat.le_refl _
  | cons a l ih =>
    rw [sumL_cons, sumL_cons]
    have := ih fun x hx => h x (List.mem_cons_of_mem _ hx)
    have := h a List.mem_cons_self
    omega
theorem sumL_lt {α : Type} {l : List α} {f g : α → Nat} (h : ∀ a ∈ l, f a ≤ g a) (s : ∃ a ∈ l, f a < g a) : sumL l f < sumL l g := by
  induction l with
  | nil => obtain ⟨_, h, _⟩ := s; cases h
  | cons a l ih =>
    rw [sumL_cons, sumL_cons]
    have h1 := h a List.mem_cons_self
    have h2 : ∀ x ∈ l, f x ≤ g x := fun x hx => h x (List.mem_cons_of_mem _ hx)
    obtain ⟨b, hb, hlt⟩ := s
    rcases List.mem_cons.mp hb with e | hb
    · subst e
      have := sumL_le h2
      omega
    · have := ih h2 ⟨b, hb, hlt⟩
      omega
theorem sumL_add {α : Type} (l : List α) (f g : α → Nat) : sumL l (fun a => f a + g a) = sumL l f + sumL l g := by
  induction l with
  | nil => rfl
  | cons a l ih => rw [sumL_cons, sumL_cons, sumL_cons, ih]; omega
theorem sumL_swap {α β : Type} (l : List α) (m : List β) (f : α → β → Nat) : sumL l (fun a => sumL m fun b => f a b) = sumL m fun b => sumL l fun a => f a b := by
  induction l with
  | nil =>
    rw [sumL_nil]
    induction m with
    | nil => rfl
    | cons b m ih => rw [sumL_cons, sumL_nil, ← ih]
  | cons a l ih =>
    rw [sumL_cons, ih, ← sumL_add]
    exact congrArg (sumL m) (funext fun b => (sumL_cons a l fun a => f a b).symm)
theorem sumL_ite {α : Type} (l : List α) (p : α → Prop) [DecidablePred p] : sumL l (fun a => if p a then 1 else 0) = (l.filter fun a => decide (p a)).length := by
  induction l with
  | nil => rfl
  | cons a l ih =>
    rw [sumL_cons, ih, List.filter_cons]
    by_cases h : p a
    · rw [if_pos h, if_pos (by simpa using h), List.length_cons]; omega
    · rw [if_neg h, if_neg (by simpa using h)]; omega
theorem filter_two {α : Type} (l : List α) (p : α → Bool) : (l.filter p).length + (l.filter fun a => !p a).length = l.length := by
  induction l with
  | nil => rfl
  | cons a l ih =>
    rw [List.filter_cons, List.filter_cons]
    cases p a with
    | true => simp only [if_true, Bool.not_true, Bool.false_eq_true, if_false, List.length_cons]; omega
    | false => simp only [Bool.false_eq_true, if_false, Bool.not_false, if_true, List.length_cons]; omega
theorem takers_nodup (rows : List Row) (d : Int) : (takers rows d).Nodup := List.nodup_range.filter _
theorem mem_takers {rows : List Row} {d : Int} {i : Nat} : i ∈ takers rows d ↔ i < rows.length ∧ d ∈ rowAt rows i := by
  unfold takers
  rw [List.mem_filter, List.mem_range, decide_eq_true_eq]
theorem rowAt_out {rows : List Row} {i : Nat} (h : ¬ i < rows.length) : rowAt rows i = [] := by
  unfold rowAt
  rw [List.getD_eq_getElem?_getD, List.getElem?_eq_none (by omega)]; rfl
theorem mem_takers' {rows : List Row} {d : Int} {i : Nat} : i ∈ takers rows d ↔ d ∈ rowAt rows i := by
  rw [mem_takers]
  refine ⟨fun h => h.2, fun h => ⟨?_, h⟩⟩
  by_cases hl : i < rows.length
  · exact hl
  · rw [rowAt_out hl] at h; cases h

/-- rows that the days still let -/
structure Alloc (c : List Int) (ws : List Want) (rows : List Row) : Prop where
  len : rows.length = ws.length
  nd : ∀ i, (rowAt rows i).Nodup
  sub : ∀ i, ∀ d ∈ rowAt rows i, d ∈ own ws i
  fit : ∀ d, InR c d → (cnt rows d : Int) ≤ cap c d
  size : ∀ i, i < ws.length → ((rowAt rows i).length : Int) ≤ dem ws i
structure IsPlan (c : List Int) (ws : List Want) (rows : List Row) : Prop extends Alloc c ws rows where
  full : ∀ i, i < ws.length → ((rowAt rows i).length : Int) = dem ws i
def HasPlan (c : List Int) (ws : List Want) : Prop := ∃ x, IsPlan c ws x

theorem no_plan {c : List Int} {ws : List Want} {R : List Row} {A : List Nat} {D : List Int} (al : Alloc c ws R) (hA : A.Nodup) (hD : D.Nodup) (hr : ∀ d ∈ D, InR c d) (ha : ∀ a ∈ A, a < ws.length)
    (closed : ∀ a ∈ A, ∀ d ∈ own ws a, d ∈ rowAt R a ∨ d ∈ D) (full : ∀ d ∈ D, cap c d ≤ cnt R d) (tk : ∀ d ∈ D, ∀ o ∈ takers R d, o ∈ A) (short : ∃ a ∈ A, ((rowAt R a).length : Int) < dem ws a) : ¬ HasPlan c ws := by
  rintro ⟨x, px⟩
  have e1 : ∀ a ∈ A, (rowAt x a).length ≤ sumL D (fun d => if d ∈ rowAt x a then 1 else 0) + ((rowAt R a).filter fun d => !decide (d ∈ D)).length := fun a ha' => by
    rw [sumL_ite, ← filter_two (rowAt x a) fun d => decide (d ∈ D)]
    have h1 : ((rowAt x a).filter fun d => decide (d ∈ D)).length ≤ (D.filter fun d => decide (d ∈ rowAt x a)).length := nodup_len ((px.nd a).filter _) fun d hd => by
      simp only [List.mem_filter, decide_eq_true_eq] at hd ⊢
      exact ⟨hd.2, hd.1⟩
    have h2 : ((rowAt x a).filter fun d => !decide (d ∈ D)).length ≤ ((rowAt R a).filter fun d => !decide (d ∈ D)).length := nodup_len ((px.nd a).filter _) fun d hd => by
      simp only [List.mem_filter, Bool.not_eq_true', decide_eq_false_iff_not] at hd ⊢
      exact ⟨(closed a ha' d (px.sub a d hd.1)).resolve_right hd.2, hd.2⟩
    omega
  have e2 : sumL D (fun d => sumL A fun a => if d ∈ rowAt x a then 1 else 0) ≤ sumL D fun d => sumL A fun a => if d ∈ rowAt R a then 1 else 0 := sumL_le fun d hd => by
    rw [sumL_ite, sumL_ite]
    have h1 : (A.filter fun a => decide (d ∈ rowAt x a)).length ≤ cnt x d := nodup_len (hA.filter _) fun a h => by
      simp only [List.mem_filter, decide_eq_true_eq] at h
      exact mem_takers'.mpr h.2
    have h2 : cnt R d ≤ (A.filter fun a => decide (d ∈ rowAt R a)).length := nodup_len (takers_nodup R d) fun a h => by
      simp only [List.mem_filter, decide_eq_true_eq]
      exact ⟨tk d hd a h, mem_takers'.mp h⟩
    have h3 := px.fit d (hr d hd)
    have h4 := full d hd
    omega
  have e3 : ∀ a ∈ A, sumL D (fun d => if d ∈ rowAt R a then 1 else 0) + ((rowAt R a).filter fun d => !decide (d ∈ D)).length ≤ (rowAt R a).length := fun a _ => by
    rw [sumL_ite]
    have h1 : (D.filter fun d => decide (d ∈ rowAt R a)).length ≤ ((rowAt R a).filter fun d => decide (d ∈ D)).length := nodup_len (hD.filter _) fun d hd => by
      simp only [List.mem_filter, decide_eq_true_eq] at hd ⊢
      exact ⟨hd.2, hd.1⟩
    have := filter_two (rowAt R a) fun d => decide (d ∈ D)
    omega
  have f1 := sumL_le e1
  have f3 := sumL_le e3
  rw [sumL_add] at f1 f3
  rw [sumL_swap A D] at f1 f3
  have f4 : sumL A (fun a => (rowAt R a).length) < sumL A fun a => (rowAt x a).length := sumL_lt (fun a h => by
      have h1 := px.full a (ha a h)
      have h2 := al.size a (ha a h)
      omega) (by
      obtain ⟨a, h, hs⟩ := short
      have h1 := px.full a (ha a h)
      exact ⟨a, h, by omega⟩)
  omega
end K85
/-! The plain law of k85, part 2: the search, and the longer share. -/
namespace K85

abbrev ksB (kb : List (Int × Nat)) : List Int := kb.map (·.1)
abbrev ksV (kv : List (Nat × Option Int)) : List Nat := kv.map (·.1)
structure Inv (c : List Int) (ws : List Want) (R : List Row) (begun : List Nat) (xa : Nat → Prop) (xd : Int → Prop) (kb : List (Int × Nat)) (kv : List (Nat × Option Int)) (w : List Nat) : Prop where
  kbnd : (ksB kb).Nodup
  kvnd : (ksV kv).Nodup
  kvn : ∀ o ∈ ksV kv, o < ws.length
  win : ∀ a ∈ w, a ∈ ksV kv
  closed : ∀ a ∈ ksV kv, a ∉ w → ¬ xa a → ∀ d ∈ own ws a, d ∈ rowAt R a ∨ d ∈ ksB kb
  tk : ∀ d ∈ ksB kb, ¬ xd d → ∀ o ∈ takers R d, o ∈ ksV kv
  by_ : ∀ d a, (d, a) ∈ kb → a ∈ ksV kv ∧ d ∈ own ws a ∧ d ∉ rowAt R a ∧ InR c d
  tree : ∀ pre o d post, kv = pre ++ (o, some d) :: post → d ∈ rowAt R o ∧ ∃ a, (d, a) ∈ kb ∧ a ∈ ksV pre
  non : ∀ o, (o, none) ∈ kv → o ∈ begun
  beg : ∀ o ∈ begun, o ∈ ksV kv
section
variable {c : List Int} {ws : List Want} {R : List Row} {begun : List Nat} {xa : Nat → Prop} {xd : Int → Prop} {kb : List (Int × Nat)} {kv : List (Nat × Option Int)} {w : List Nat}
abbrev No {α : Type} : α → Prop := fun _ => False
theorem Inv.init (hn : begun.Nodup) (hl : ∀ o ∈ begun, o < ws.length) : Inv c ws R begun No No [] (begun.map fun o => (o, none)) begun := by
  have e : ksV (begun.map fun o => (o, (none : Option Int))) = begun := by
    show (begun.map _).map _ = _
    rw [List.map_map]; exact List.map_id' _
  refine ⟨List.nodup_nil, by rw [e]; exact hn, by rw [e]; exact hl, by rw [e]; exact fun _ h => h, fun a h h2 => absurd (by rwa [e] at h) h2, fun d h => (List.not_mem_nil h).elim, fun d a h => (List.not_mem_nil h).elim, fun pre o d post h => ?_, fun o h => ?_, by rw [e]; exact fun _ h => h⟩
  · have hm : (o, some d) ∈ begun.map fun o => (o, (none : Option Int)) := by rw [h]; simp
    obtain ⟨x, _, hx⟩ := List.mem_map.mp hm
    cases hx
  · obtain ⟨x, hx, e2⟩ := List.mem_map.mp h
    cases e2; exact hx
theorem Inv.pop {a : Nat} (i : Inv c ws R begun No No kb kv (a :: w)) : Inv c ws R begun (· = a) No kb kv w ∧ a ∈ ksV kv :=
  ⟨{ i with win := fun x h => i.win x (List.mem_cons_of_mem _ h), closed := fun x h h2 h3 => i.closed x h (fun z => by rcases List.mem_cons.mp z with z | z; exact h3 z; exact h2 z) (fun z => z) }, i.win a List.mem_cons_self⟩
theorem mem_ksB {d : Int} : d ∈ ksB kb ↔ ∃ a, (d, a) ∈ kb := by
  refine ⟨fun h => ?_, fun ⟨a, h⟩ => List.mem_map_of_mem h⟩
  obtain ⟨x, hx, e⟩ := List.mem_map.mp h
  exact ⟨x.2, by rw [← e]; exact hx⟩
theorem Inv.day {a : Nat} {d : Int} (i : Inv c ws R begun (· = a) No kb kv w) (h : d ∉ ksB kb) (ha : a ∈ ksV kv) (h1 : d ∈ own ws a) (h2 : d ∉ rowAt R a) (h3 : InR c d) : Inv c ws R begun (· = a) (· = d) (kb ++ [(d, a)]) kv w where
  kbnd := by
    show ((kb ++ [(d, a)]).map _).Nodup
    rw [List.map_append, List.nodup_append]
    exact ⟨i.kbnd, by simp, fun x hx y hy e => by simp at hy; subst hy; subst e; exact h hx⟩
  kvnd := i.kvnd
  kvn := i.kvn
  win := i.win
  closed := fun x hx hw hn y hy => by
    rcases i.closed x hx hw hn y hy with z | z
    · exact .inl z
    · refine .inr ?_
      show y ∈ (kb ++ [(d, a)]).map _
      rw [List.map_append]; exact List.mem_append_left _ z
  tk := fun y hy hn o ho => by
    have hy : y ∈ (kb ++ [(d, a)]).map _ := hy
    rw [List.map_append] at hy
    rcases List.mem_append.mp hy with z | z
    · exact i.tk y z (fun z => z) o ho
    · simp at z; exact (hn z).elim
  by_ := fun y b hy => by
    rcases List.mem_append.mp hy with z | z
    · exact i.by_ y b z
    · simp at z; obtain ⟨rfl, rfl⟩ := z; exact ⟨ha, h1, h2, h3⟩
  tree := fun pre o y post e => let ⟨p, b, q, r⟩ := i.tree pre o y post e; ⟨p, b, List.mem_append_left _ q, r⟩
  non := i.non
  beg := i.beg
theorem Inv.other {a o : Nat} {d : Int} (i : Inv c ws R begun (· = a) (· = d) kb kv w) (h : o ∉ ksV kv) (ho : o < ws.length) (h1 : d ∈ rowAt R o) (h2 : (d, a) ∈ kb) (ha : a ∈ ksV kv) :
    Inv c ws R begun (· = a) (· = d) kb (kv ++ [(o, some d)]) (w ++ [o]) := by
  have e : ksV (kv ++ [(o, some d)]) = ksV kv ++ [o] := by
    show (kv ++ _).map _ = _
    rw [List.map_append]; rfl
  refine ⟨i.kbnd, ?_, ?_, ?_, ?_, ?_, ?_, ?_, ?_, ?_⟩
  · rw [e, List.nodup_append]
    exact ⟨i.kvnd, by simp, fun x hx y hy z => by simp at hy; subst hy; subst z; exact h hx⟩
  · rw [e]; intro x hx
    rcases List.mem_append.mp hx with z | z
    · exact i.kvn x z
    · simp at z; subst z; exact ho
  · rw [e]; intro x hx
    rcases List.mem_append.mp hx with z | z
    · exact List.mem_append_left _ (i.win x z)
    · exact List.mem_append_right _ z
  · rw [e]; intro x hx hw hn y hy
    have hw' : x ∉ w := fun z => hw (List.mem_append_left _ z)
    rcases List.mem_append.mp hx with z | z
    · exact i.closed x z hw' hn y hy
    · exact (hw (List.mem_append_right _ z)).elim
  · rw [e]; intro y hy hn x hx; exact List.mem_append_left _ (i.tk y hy hn x hx)
  · rw [e]; intro y b hy
    obtain ⟨p, q⟩ := i.by_ y b hy
    exact ⟨List.mem_append_left _ p, q⟩
  · intro pre x y post hk
    rcases List.eq_nil_or_concat post with hp | ⟨post', z, hp⟩
    · subst hp
      have := List.append_inj' hk rfl
      obtain ⟨e1, e2⟩ := this
      cases e2
      subst e1
      exact ⟨h1, a, h2, ha⟩
    · subst hp
      have hk2 : kv ++ [(o, some d)] = (pre ++ (x, some y) :: post') ++ [z] := by rw [hk]; simp
      obtain ⟨e1, _⟩ := List.append_inj' hk2 rfl
      exact i.tree pre x y post' e1
  · intro x hx
    rcases List.mem_append.mp hx with z | z
    · exact i.non x z
    · simp at z
  · rw [e]; intro x hx; exact List.mem_append_left _ (i.beg x hx)
theorem Inv.dayEnd {a : Nat} {d : Int} (i : Inv c ws R begun (· = a) (· = d) kb kv w) (h : ∀ o ∈ takers R d, o ∈ ksV kv) : Inv c ws R begun (· = a) No kb kv w :=
  { i with tk := fun y hy _ o ho => (Classical.em (y = d)).elim (fun e => h o (e ▸ ho)) fun e => i.tk y hy e o ho }
theorem Inv.askEnd {a : Nat} (i : Inv c ws R begun (· = a) No kb kv w) (h : ∀ d ∈ own ws a, d ∈ rowAt R a ∨ d ∈ ksB kb) : Inv c ws R begun No No kb kv w :=
  { i with closed := fun x hx hw _ => (Classical.em (x = a)).elim (fun e => e ▸ h) fun e => i.closed x hx hw e }
theorem Inv.few (i : Inv c ws R begun xa xd kb kv w) : kv.length ≤ ws.length := by
  have := nodup_len (l := ksV kv) (m := List.range ws.length) i.kvnd fun x hx => List.mem_range.mpr (i.kvn x hx)
  simpa using this
theorem Inv.fewB (i : Inv c ws R begun xa xd kb kv w) : kb.length ≤ c.length := by
  have := nodup_len (l := ksB kb) (m := (List.range c.length).map fun (n : Nat) => (n : Int)) i.kbnd fun x hx => by
    obtain ⟨a, ha⟩ := mem_ksB.mp hx
    obtain ⟨_, _, _, h0, h1⟩ := i.by_ x a ha
    exact List.mem_map.mpr ⟨x.toNat, List.mem_range.mpr (by omega), by omega⟩
  simpa using this

/-- no free day: no plan -/
theorem Inv.none_left {ask : Nat} (i : Inv c ws R [ask] No No kb kv []) (al : Alloc c ws R) (hs : ((rowAt R ask).length : Int) < dem ws ask) (full : ∀ d ∈ ksB kb, ¬ ((takers R d).length : Int) < cap c d) : ¬ HasPlan c ws :=
  no_plan al i.kvnd i.kbnd (fun d hd => let ⟨a, h⟩ := mem_ksB.mp hd; (i.by_ d a h).2.2.2) i.kvn (fun a ha => i.closed a ha (by simp) (fun z => z)) (fun d hd => Int.not_lt.mp (full d hd)) (fun d hd => i.tk d hd (fun z => z)) ⟨ask, i.beg ask (by simp), hs⟩

/-! ### counts -/
theorem sum_upd {f g : Nat → Nat} {i : Nat} (h : ∀ j, j ≠ i → f j = g j) : ∀ n, i < n → sumL (List.range n) f + g i = sumL (List.range n) g + f i
  | 0, hn => by omega
  | n + 1, hn => by
    have sp : ∀ f : Nat → Nat, sumL (List.range (n + 1)) f = sumL (List.range n) f + f n := fun f => by
      unfold sumL
      rw [List.range_succ, List.map_append, List.sum_append]; simp
    rw [sp, sp]
    by_cases e : i = n
    · subst e
      have : sumL (List.range i) f = sumL (List.range i) g := Nat.le_antisymm (sumL_le fun a ha => by rw [h a (by have := List.mem_range.mp ha; omega)]; exact Nat.le_refl _) (sumL_le fun a ha => by rw [h a (by have := List.mem_range.mp ha; omega)]; exact Nat.le_refl _)
      omega
    · have := sum_upd h n (by omega)
      have := h n (by omega)
      omega
theorem rowAt_set {R : List Row} {i j : Nat} {r : Row} (hi : i < R.length) : rowAt (R.set i r) j = if j = i then r else rowAt R j := by
  unfold rowAt
  rw [List.getD_eq_getElem?_getD, List.getD_eq_getElem?_getD]
  by_cases h : j = i
  · subst h
    rw [if_pos rfl, List.getElem?_set_self hi]; rfl
  · rw [if_neg h, List.getElem?_set_ne (Ne.symm h)]
theorem cnt_sum (R : List Row) (d : Int) : cnt R d = sumL (List.range R.length) fun i => if d ∈ rowAt R i then 1 else 0 := (sumL_ite _ _).symm
theorem cnt_set {R : List Row} {i : Nat} {r : Row} (hi : i < R.length) (d : Int) : cnt (R.set i r) d + (if d ∈ rowAt R i then 1 else 0) = cnt R d + if d ∈ r then 1 else 0 := by
  rw [cnt_sum, cnt_sum, List.length_set]
  have := sum_upd (f := fun j => if d ∈ rowAt (R.set i r) j then 1 else 0) (g := fun j => if d ∈ rowAt R j then 1 else 0) (i := i) (fun j hj => by simp only [rowAt_set hi, if_neg hj]) R.length hi
  rw [show rowAt (R.set i r) i = r from by rw [rowAt_set hi, if_pos rfl]] at this
  exact this

/-- on the way back along the tree -/
structure Aug (c : List Int) (ws : List Want) (R R' : List Row) (kv : List (Nat × Option Int)) (d0 : Int) (pre : List (Nat × Option Int)) (a : Nat) : Prop where
  pos : ∃ x post, kv = pre ++ (a, x) :: post
  last : ∃ e, rowAt R' a = rowAt R a ++ [e] ∧ e ∉ rowAt R a ∧ e ∈ own ws a
  same : ∀ o ∈ ksV pre, rowAt R' o = rowAt R o
  nd : ∀ o, (rowAt R' o).Nodup
  sub : ∀ o, ∀ d ∈ rowAt R' o, d ∈ own ws o
  size : ∀ o, o ≠ a → (rowAt R' o).length = (rowAt R o).length
  count : ∀ d, cnt R' d = cnt R d + if d = d0 then 1 else 0
  len : R'.length = R.length
theorem ks_at {pre post : List (Nat × Option Int)} {a : Nat} {x : Option Int} (e : kv = pre ++ (a, x) :: post) : a ∈ ksV kv := by rw [e]; simp [ksV]
theorem Aug.start {d0 : Int} {a : Nat} (i : Inv c ws R begun No No kb kv []) (al : Alloc c ws R) (h : (d0, a) ∈ kb) : ∃ pre, Aug c ws R (R.set a (rowAt R a ++ [d0])) kv d0 pre a := by
  obtain ⟨h1, h2, h3, h4⟩ := i.by_ d0 a h
  have hal : a < R.length := by rw [al.len]; exact i.kvn a h1
  obtain ⟨x, hx, e⟩ := List.mem_map.mp h1
  obtain ⟨pre, post, hk⟩ := List.append_of_mem hx
  have ex : x = (a, x.2) := by rw [← e]
  have nk := i.kvnd
  rw [hk] at nk
  have nk' : ((ksV pre) ++ x.1 :: ksV post).Nodup := by simpa [ksV] using nk
  have hna : a ∉ ksV pre := fun z => by
    rw [List.nodup_append] at nk'
    exact nk'.2.2 a z x.1 (by simp) e.symm
  refine ⟨pre, ⟨x.2, post, by rw [hk, ← ex]⟩, ⟨d0, by rw [rowAt_set hal, if_pos rfl], h3, h2⟩, fun o ho => ?_, fun o => ?_, fun o d hd => ?_, fun o ho => ?_, fun d => ?_, List.length_set⟩
  · rw [rowAt_set hal, if_neg (by intro z; subst z; exact hna ho)]
  · rw [rowAt_set hal]
    split
    · rw [List.nodup_append]
      exact ⟨al.nd a, by simp, fun p hp q hq z => by simp at hq; subst hq; subst z; exact h3 hp⟩
    · exact al.nd o
  · rw [rowAt_set hal] at hd
    split at hd
    · rename_i z
      subst z
      rcases List.mem_append.mp hd with z | z
      · exact al.sub o d z
      · simp at z; subst z; exact h2
    · exact al.sub o d hd
  · rw [rowAt_set hal, if_neg ho]
  · have := cnt_set (r := rowAt R a ++ [d0]) hal d
    by_cases e : d = d0
    · subst e
      rw [if_neg h3, if_pos (by simp)] at this
      rw [if_pos rfl]; omega
    · rw [if_neg e]
      by_cases hm : d ∈ rowAt R a
      · rw [if_pos hm, if_pos (by simp [hm])] at this; omega
      · rw [if_neg hm, if_neg (by simp [hm, e])] at this; omega
theorem kb_uniq (nd : (ksB kb).Nodup) {d : Int} {a b : Nat} (h1 : (d, a) ∈ kb) (h2 : (d, b) ∈ kb) : a = b := by
  induction kb with
  | nil => cases h1
  | cons x r ih =>
    have nd' : x.1 ∉ ksB r ∧ (ksB r).Nodup := by simpa [ksB] using nd
    rcases List.mem_cons.mp h1 with e1 | e1 <;> rcases List.mem_cons.mp h2 with e2 | e2
    · rw [← e1] at e2; cases e2; rfl
    · exact (nd'.1 (by rw [← e1]; exact mem_ksB.mpr ⟨_, e2⟩)).elim
    · exact (nd'.1 (by rw [← e2]; exact mem_ksB.mpr ⟨_, e1⟩)).elim
    · exact ih nd'.2 e1 e2
theorem Aug.step {R' : List Row} {d0 : Int} {ask a : Nat} {pre : List (Nat × Option Int)} (i : Inv c ws R [ask] No No kb kv []) (al : Alloc c ws R) (g : Aug c ws R R' kv d0 pre a) (hne : a ≠ ask) :
    ∃ d b pre', (a, some d) ∈ kv ∧ (d, b) ∈ kb ∧ a < R'.length ∧ b < R'.length ∧ d ∈ rowAt R' a ∧ pre'.length < pre.length ∧ rowAt (R'.set a ((rowAt R' a).erase d)) b = rowAt R' b ∧
      Aug c ws R ((R'.set a ((rowAt R' a).erase d)).set b (rowAt R' b ++ [d])) kv d0 pre' b := by
  obtain ⟨x, post, hk⟩ := g.pos
  cases x with
  | none => exact (hne (by have := i.non a (by rw [hk]; simp); simpa using this)).elim
  | some d =>
    obtain ⟨hd, b, hb, hbp⟩ := i.tree pre a d post hk
    obtain ⟨h1, h2, h3, h4⟩ := i.by_ d b hb
    have hal : a < R'.length := by rw [g.len, al.len]; exact i.kvn a (ks_at hk)
    have hbl : b < R'.length := by rw [g.len, al.len]; exact i.kvn b h1
    obtain ⟨e, he, hen, heo⟩ := g.last
    obtain ⟨y, hy, ey⟩ := List.mem_map.mp hbp
    obtain ⟨pre', post', hk'⟩ := List.append_of_mem hy
    have ey' : y = (b, y.2) := by rw [← ey]
    have nk := i.kvnd
    rw [hk, hk'] at nk
    have nk' : (ksV pre' ++ (b :: (ksV post' ++ a :: ksV post))).Nodup := by
      have : ksV (pre' ++ y :: post' ++ (a, some d) :: post) = ksV pre' ++ (b :: (ksV post' ++ a :: ksV post)) := by simp [ksV, ey]
      rw [← this]; exact nk
    rw [List.nodup_append] at nk'
    obtain ⟨n1, n2, n3⟩ := nk'
    have hba : b ≠ a := fun z => by rw [List.nodup_cons] at n2; exact n2.1 (by rw [z]; simp)
    have hd' : d ∈ rowAt R' a := by rw [he]; exact List.mem_append_left _ hd
    have hb' : rowAt R' b = rowAt R b := g.same b hbp
    have hr1 : rowAt (R'.set a ((rowAt R' a).erase d)) b = rowAt R' b := by rw [rowAt_set hal, if_neg hba]
    have hlen : b < (R'.set a ((rowAt R' a).erase d)).length := by rw [List.length_set]; exact hbl
    have row2 : ∀ o, rowAt ((R'.set a ((rowAt R' a).erase d)).set b (rowAt R' b ++ [d])) o = if o = b then rowAt R' b ++ [d] else if o = a then (rowAt R' a).erase d else rowAt R' o := fun o => by rw [rowAt_set hlen, rowAt_set hal]
    refine ⟨d, b, pre', by rw [hk]; simp, hb, hal, hbl, hd', by rw [hk']; simp, hr1, ⟨y.2, post' ++ (a, some d) :: post, by rw [hk, hk', ← ey']; simp⟩, ⟨d, by rw [row2, if_pos rfl, hb'], h3, h2⟩, fun o ho => ?_, fun o => ?_, fun o z hz => ?_, fun o ho => ?_, fun z => ?_, by rw [List.length_set, List.length_set]; exact g.len⟩
    · have hob : o ≠ b := fun z => n3 o ho b (by simp) z
      have hoa : o ≠ a := fun z => n3 o ho a (by simp) z
      rw [row2, if_neg hob, if_neg hoa]
      exact g.same o (by rw [hk']; simp only [ksV, List.map_append, List.mem_append]; exact .inl ho)
    · rw [row2]
      split
      · rw [List.nodup_append]
        refine ⟨g.nd b, by simp, fun p hp q hq z => ?_⟩
        simp at hq; subst hq; subst z
        rw [hb'] at hp; exact h3 hp
      · split
        · exact (g.nd a).erase d
        · exact g.nd o
    · rw [row2] at hz
      split at hz
      · rename_i e1; subst e1
        rcases List.mem_append.mp hz with z1 | z1
        · exact g.sub o z z1
        · simp at z1; subst z1; exact h2
      · split at hz
        · rename_i e1; subst e1
          exact g.sub o z (List.mem_of_mem_erase hz)
        · exact g.sub o z hz
    · rw [row2, if_neg ho]
      split
      · rename_i e1; subst e1
        rw [List.length_erase_of_mem hd', he]; simp
      · rename_i e1; exact g.size o e1
    · have c1 := cnt_set (r := (rowAt R' a).erase d) hal z
      have c2 := cnt_set (r := rowAt R' b ++ [d]) hlen z
      rw [hr1] at c2
      have c3 := g.count z
      have m1 : z ∈ (rowAt R' a).erase d ↔ z ≠ d ∧ z ∈ rowAt R' a := (g.nd a).mem_erase_iff
      have m2 : z ∈ rowAt R' b ++ [d] ↔ z ∈ rowAt R' b ∨ z = d := by simp
      by_cases e1 : z = d
      · subst e1
        have hnb : z ∉ rowAt R' b := by rw [hb']; exact h3
        rw [if_pos hd', if_neg (fun q => (m1.mp q).1 rfl)] at c1
        rw [if_neg hnb, if_pos (m2.mpr (.inr rfl))] at c2
        omega
      · have i1 : (if z ∈ (rowAt R' a).erase d then 1 else 0) = if z ∈ rowAt R' a then 1 else (0 : Nat) := by
          by_cases q : z ∈ rowAt R' a
          · rw [if_pos q, if_pos (m1.mpr ⟨e1, q⟩)]
          · rw [if_neg q, if_neg (fun r => q (m1.mp r).2)]
        have i2 : (if z ∈ rowAt R' b ++ [d] then 1 else 0) = if z ∈ rowAt R' b then 1 else (0 : Nat) := by
          by_cases q : z ∈ rowAt R' b
          · rw [if_pos q, if_pos (m2.mpr (.inl q))]
          · rw [if_neg q, if_neg (fun r => (m2.mp r).elim q e1)]
        rw [i1] at c1
        rw [i2] at c2
        omega
theorem Aug.done {R' : List Row} {d0 : Int} {ask : Nat} {pre : List (Nat × Option Int)} (al : Alloc c ws R) (g : Aug c ws R R' kv d0 pre ask) (hs : ((rowAt R ask).length : Int) < dem ws ask) (hf : ((takers R d0).length : Int) < cap c d0) :
    Alloc c ws R' ∧ (∀ o, o ≠ ask → (rowAt R' o).length = (rowAt R o).length) ∧ (rowAt R' ask).length = (rowAt R ask).length + 1 := by
  obtain ⟨e, he, _, _⟩ := g.last
  have hl : (rowAt R' ask).length = (rowAt R ask).length + 1 := by rw [he]; simp
  refine ⟨⟨g.len.trans al.len, g.nd, g.sub, fun d hd => ?_, fun o ho => ?_⟩, g.size, hl⟩
  · have := g.count d
    by_cases q : d = d0
    · subst q
      rw [if_pos rfl] at this
      unfold cnt at this ⊢
      omega
    · rw [if_neg q] at this
      have := al.fit d hd
      omega
  · by_cases q : o = ask
    · subst q; rw [hl]; omega
    · rw [g.size o q]; exact al.size o ho
end
end K85
/-! The plain law of k85, part 3: the first plan, day by day, is the least of all plans. -/
namespace K85

def sub (c : List Int) (r : Row) : List Int := c.mapIdx fun (i : Nat) v => v - (r.count (i : Int) : Int)
def Okc (c : List Int) : Prop := ∀ v ∈ c, (0 : Int) ≤ v
theorem sub_len (c : List Int) (r : Row) : (sub c r).length = c.length := by simp [sub]
theorem sub_get (c : List Int) (r : Row) (i : Nat) : (sub c r)[i]? = (c[i]?).map fun v => v - (r.count (i : Int) : Int) := by simp [sub]
theorem sub_sub (c : List Int) (r s : Row) : sub (sub c r) s = sub c (r ++ s) := by
  apply List.ext_getElem?
  intro i
  rw [sub_get, sub_get, sub_get, Option.map_map]
  congr 1
  funext v
  simp only [Function.comp, List.count_append]
  omega
theorem sub_nil (c : List Int) : sub c [] = c := by
  apply List.ext_getElem?
  intro i
  rw [sub_get]
  cases c[i]? <;> simp
theorem cap_get {c : List Int} {d : Int} (h : InR c d) : c[d.toNat]? = some (cap c d) := by
  have hl : d.toNat < c.length := by have := h.1; have := h.2; omega
  unfold cap
  rw [List.getD_eq_getElem?_getD, List.getElem?_eq_getElem hl]; rfl
theorem cap_sub {c : List Int} {r : Row} {d : Int} (h : InR c d) : cap (sub c r) d = cap c d - (r.count d : Int) := by
  have h2 : InR (sub c r) d := ⟨h.1, by rw [sub_len]; exact h.2⟩
  have e := cap_get h2
  rw [sub_get, cap_get h] at e
  have e3 : ((d.toNat : Nat) : Int) = d := by have := h.1; omega
  rw [e3] at e
  exact (Option.some.inj e).symm
theorem okc_iff {c : List Int} : Okc c ↔ ∀ d, InR c d → 0 ≤ cap c d := by
  refine ⟨fun h d hd => h _ (List.mem_of_getElem? (cap_get hd)), fun h v hv => ?_⟩
  obtain ⟨i, hi⟩ := List.getElem?_of_mem hv
  have hl := (List.getElem?_eq_some_iff.mp hi).1
  have := h (i : Int) ⟨by omega, by omega⟩
  have e := cap_get (c := c) (d := (i : Int)) ⟨by omega, by omega⟩
  rw [Int.toNat_natCast, hi] at e
  cases e; exact this
theorem count_nd {r : Row} (h : r.Nodup) (d : Int) : r.count d = if d ∈ r then 1 else 0 := by
  by_cases hd : d ∈ r
  · rw [if_pos hd]; exact h.count.trans (by rw [if_pos hd])
  · rw [if_neg hd]; exact List.count_eq_zero.mpr hd
theorem sub_same {c : List Int} {r s : Row} (h : r.Nodup) (h2 : s.Nodup) (e : ∀ d, d ∈ r ↔ d ∈ s) : sub c r = sub c s := by
  apply List.ext_getElem?
  intro i
  rw [sub_get, sub_get, count_nd h, count_nd h2]
  simp only [e]
theorem okc_less {c : List Int} {r s : Row} (h : Okc (sub c (r ++ s))) : Okc (sub c r) := by
  rw [okc_iff] at h ⊢
  intro d hd
  have hd' : InR c d := ⟨hd.1, by have := hd.2; rw [sub_len] at this; exact this⟩
  have := h d ⟨hd.1, by rw [sub_len]; exact hd'.2⟩
  rw [cap_sub hd', List.count_append] at this
  rw [cap_sub hd']
  omega
theorem cnt_cons (r : Row) (x : List Row) (d : Int) : cnt (r :: x) d = (if d ∈ r then 1 else 0) + cnt x d := by
  rw [cnt_sum, cnt_sum, List.length_cons, List.range_succ_eq_map]
  unfold sumL
  rw [List.map_cons, List.sum_cons, List.map_map]
  rfl
theorem cnt_nil (d : Int) : cnt [] d = 0 := rfl
theorem rowAt_cons (r : Row) (x : List Row) (i : Nat) : rowAt (r :: x) (i + 1) = rowAt x i := rfl
theorem own_cons (w : Want) (ws : List Want) (i : Nat) : own (w :: ws) (i + 1) = own ws i := rfl
theorem dem_cons (w : Want) (ws : List Want) (i : Nat) : dem (w :: ws) (i + 1) = dem ws i := rfl
def okRow (W : List Int) (m : Int) (r : Row) : Prop := r.Nodup ∧ (∀ d ∈ r, d ∈ W) ∧ (r.length : Int) = m
theorem plan_cons {c : List Int} {m : Int} {W : List Int} {ws : List Want} {r : Row} {x : List Row} :
    IsPlan c ((m, W) :: ws) (r :: x) ↔ okRow W m r ∧ Okc (sub c r) ∧ IsPlan (sub c r) ws x := by
  refine ⟨fun p => ?_, fun ⟨⟨h1, h2, h3⟩, h4, p⟩ => ?_⟩
  · have hr : r.Nodup := p.nd 0
    have fit : ∀ d, InR c d → (cnt x d : Int) ≤ cap (sub c r) d := fun d hd => by
      have := p.fit d hd
      rw [cnt_cons] at this
      rw [cap_sub hd, count_nd hr]
      split <;> simp_all <;> omega
    have inr : ∀ d, InR (sub c r) d → InR c d := fun d hd => ⟨hd.1, by have := hd.2; rw [sub_len] at this; exact this⟩
    refine ⟨⟨hr, p.sub 0, p.full 0 (by simp)⟩, okc_iff.mpr fun d hd => ?_, ⟨⟨?_, fun i => p.nd (i + 1), fun i => p.sub (i + 1), fun d hd => fit d (inr d hd), fun i hi => p.size (i + 1) (by simp; omega)⟩, fun i hi => p.full (i + 1) (by simp; omega)⟩⟩
    · have := fit d (inr d hd); omega
    · have := p.len; simpa using this
  · refine ⟨⟨by have := p.len; simp [this], fun i => ?_, fun i => ?_, fun d hd => ?_, fun i hi => ?_⟩, fun i hi => ?_⟩
    · cases i with
      | zero => exact h1
      | succ i => exact p.nd i
    · cases i with
      | zero => exact h2
      | succ i => exact p.sub i
    · have hd' : InR (sub c r) d := ⟨hd.1, by rw [sub_len]; exact hd.2⟩
      have := p.fit d hd'
      rw [cap_sub hd, count_nd h1] at this
      rw [cnt_cons]
      split at this <;> rename_i q
      · rw [if_pos q]; omega
      · rw [if_neg q]; omega
    · cases i with
      | zero => exact Int.le_of_eq h3
      | succ i => exact p.size i (by simpa using hi)
    · cases i with
      | zero => exact h3
      | succ i => exact p.full i (by simpa using hi)
theorem plan_nil {c : List Int} (h : Okc c) : IsPlan c [] [] :=
  ⟨⟨rfl, fun i => by simp [rowAt], fun i d hd => by simp [rowAt] at hd, fun d hd => by rw [cnt_nil]; exact okc_iff.mp h d hd, fun i hi => by simp at hi⟩, fun i hi => by simp at hi⟩
theorem has_nil {c : List Int} (h : Okc c) : HasPlan c [] := ⟨[], plan_nil h⟩
/-- by sublists of the days -/
theorem has_cons {c : List Int} {m : Int} {W : List Int} {ws : List Want} (hW : W.Nodup) :
    HasPlan c ((m, W) :: ws) ↔ ∃ r : Row, r.Sublist W ∧ (r.length : Int) = m ∧ Okc (sub c r) ∧ HasPlan (sub c r) ws := by
  constructor
  · rintro ⟨x, p⟩
    cases x with
    | nil => have := p.len; simp at this
    | cons r x =>
      obtain ⟨⟨h1, h2, h3⟩, h4, p⟩ := plan_cons.mp p
      have e : ∀ d, d ∈ r ↔ d ∈ W.filter fun d => decide (d ∈ r) := fun d => by
        rw [List.mem_filter, decide_eq_true_eq]
        exact ⟨fun h => ⟨h2 d h, h⟩, fun h => h.2⟩
      have nf : (W.filter fun d => decide (d ∈ r)).Nodup := hW.filter _
      have es := sub_same (c := c) h1 nf e
      have l1 := nodup_len h1 fun d hd => (e d).mp hd
      have l2 := nodup_len nf fun d hd => (e d).mpr hd
      exact ⟨W.filter fun d => decide (d ∈ r), List.filter_sublist, by omega, by rw [← es]; exact h4, x, by rw [← es]; exact p⟩
  · rintro ⟨r, h1, h2, h3, x, p⟩
    exact ⟨r :: x, plan_cons.mpr ⟨⟨h1.nodup hW, fun d hd => h1.subset hd, h2⟩, h3, p⟩⟩

/-! ### the greedy row -/
section
variable (P : Row → Prop) (m : Int)
def Open (r : Row) (W : List Int) : Prop := ∃ e : Row, e.Sublist W ∧ (r.length : Int) + e.length = m ∧ P (r ++ e)
open Classical in
noncomputable def greedy : Row → List Int → Row
  | r, [] => r
  | r, d :: W => if (r.length : Int) < m ∧ Open P m (r ++ [d]) W then greedy (r ++ [d]) W else greedy r W
end
theorem app_le {r a b : List Int} (h : a ≤ b) : r ++ a ≤ r ++ b := by
  induction r with
  | nil => exact h
  | cons x r ih =>
    intro h2
    apply ih
    have h2 : x :: (r ++ b) < x :: (r ++ a) := h2
    rw [List.cons_lt_cons_iff] at h2
    rcases h2 with h2 | h2
    · exact absurd h2 (by omega)
    · exact h2.2
theorem cons_le {d x : Int} {a b : List Int} (h : d < x) : d :: a ≤ x :: b := by
  intro h2
  rw [List.cons_lt_cons_iff] at h2
  rcases h2 with h2 | h2
  · omega
  · omega
theorem greedy_ok {P : Row → Prop} {m : Int} : ∀ {W : List Int} {r : Row}, W.Pairwise (· < ·) → Open P m r W → ∃ e : Row, greedy P m r W = r ++ e ∧ e.Sublist W ∧ (r.length : Int) + e.length = m ∧ P (r ++ e) ∧
    ∀ e' : Row, e'.Sublist W → (r.length : Int) + e'.length = m → P (r ++ e') → r ++ e ≤ r ++ e'
  | [], r, _, h => by
    obtain ⟨e, h1, h2, h3⟩ := h
    have e0 : e = [] := List.sublist_nil.mp h1
    subst e0
    refine ⟨[], by simp [greedy], h1, h2, h3, fun e' he _ _ => ?_⟩
    rw [List.sublist_nil.mp he]
    exact List.le_refl _
  | d :: W, r, hW, h => by
    rw [List.pairwise_cons] at hW
    obtain ⟨hd, hW⟩ := hW
    unfold greedy
    split
    · rename_i t
      obtain ⟨t1, t2⟩ := t
      obtain ⟨e, g1, g2, g3, g4, g5⟩ := greedy_ok hW t2
      refine ⟨d :: e, by rw [g1]; simp, g2.cons_cons d, by simp at g3 ⊢; omega, by simpa using g4, fun e' he hl hp => ?_⟩
      cases he with
      | cons _ he =>
        cases e' with
        | nil => simp at hl; omega
        | cons x e' =>
          have hx : x ∈ W := he.subset List.mem_cons_self
          exact app_le (cons_le (hd x hx))
      | cons_cons _ he =>
        have := g5 _ he (by simp at hl ⊢; omega) (by simpa using hp)
        simpa using this
    · rename_i t
      have no : ∀ e' : Row, e'.Sublist W → (r.length : Int) + (e'.length + 1) = m → ¬ P (r ++ d :: e') := fun e' he hl hp => t ⟨by omega, e', he, by simp; omega, by simpa using hp⟩
      have hO : Open P m r W := by
        obtain ⟨e, h1, h2, h3⟩ := h
        cases h1 with
        | cons _ h1 => exact ⟨e, h1, h2, h3⟩
        | cons_cons _ h1 => exact (no _ h1 (by simpa using h2) h3).elim
      obtain ⟨e, g1, g2, g3, g4, g5⟩ := greedy_ok hW hO
      refine ⟨e, g1, g2.cons d, g3, g4, fun e' he hl hp => ?_⟩
      cases he with
      | cons _ he => exact g5 e' he hl hp
      | cons_cons _ he => exact (no _ he (by simpa using hl) hp).elim

/-! ### all rows -/
def moreRows (m : Int) (rows : List Row) (d : Int) : List Row := rows ++ (rows.filter fun r => decide ((r.length : Int) < m)).map (· ++ [d])
def rowsL (m : Int) (W : List Int) : List Row := W.foldl (moreRows m) [[]]
theorem sub_snoc {r W : List Int} {d : Int} : r.Sublist (W ++ [d]) ↔ r.Sublist W ∨ ∃ s, r = s ++ [d] ∧ s.Sublist W := by
  constructor
  · intro h
    rw [List.sublist_append_iff] at h
    obtain ⟨a, b, rfl, ha, hb⟩ := h
    cases hb with
    | cons _ hb =>
      rw [List.sublist_nil] at hb
      subst hb; left; simpa using ha
    | cons_cons _ hb =>
      rw [List.sublist_nil] at hb
      subst hb; exact .inr ⟨a, rfl, ha⟩
  · rintro (h | ⟨s, rfl, h⟩)
    · exact h.trans (List.sublist_append_left _ _)
    · exact h.append (List.Sublist.refl _)
theorem rowsL_go {m : Int} : ∀ (W pre : List Int) (rows : List Row), (∀ r, r ∈ rows ↔ r.Sublist pre ∧ ((r.length : Int) ≤ m ∨ r = [])) → ∀ r, r ∈ W.foldl (moreRows m) rows ↔ r.Sublist (pre ++ W) ∧ ((r.length : Int) ≤ m ∨ r = [])
  | [], pre, rows, h, r => by simpa using h r
  | d :: W, pre, rows, h, r => by
    have := rowsL_go (m := m) W (pre ++ [d]) (moreRows m rows d) (fun r => ?_) r
    · rw [List.foldl_cons, this]; simp
    · unfold moreRows
      rw [List.mem_append, List.mem_map]
      simp only [List.mem_filter, decide_eq_true_eq]
      rw [sub_snoc]
      constructor
      · rintro (h1 | ⟨s, ⟨h1, h2⟩, rfl⟩)
        · have := (h r).mp h1
          exact ⟨.inl this.1, this.2⟩
        · have := (h s).mp h1
          exact ⟨.inr ⟨s, rfl, this.1⟩, .inl (by simp; omega)⟩
      · rintro ⟨h1 | ⟨s, rfl, h1⟩, h2⟩
        · exact .inl ((h r).mpr ⟨h1, h2⟩)
        · have hl : ((s ++ [d]).length : Int) ≤ m := h2.resolve_right (by simp)
          simp at hl
          exact .inr ⟨s, ⟨(h s).mpr ⟨h1, .inl (by omega)⟩, by omega⟩, rfl⟩
theorem mem_rowsL {m : Int} {W : List Int} {r : Row} : r ∈ rowsL m W ↔ r.Sublist W ∧ ((r.length : Int) ≤ m ∨ r = []) := by
  have := rowsL_go (m := m) W [] [[]] (fun r => by
    rw [List.mem_singleton, List.sublist_nil]
    exact ⟨fun h => ⟨h, .inr h⟩, fun h => h.1⟩) r
  rw [List.nil_append] at this
  exact this
def sortedRows (m : Int) (W : List Int) : List Row := ((rowsL m W).filter fun r => decide ((r.length : Int) = m)).mergeSort fun a b => decide (a ≤ b)
theorem mem_sorted {m : Int} {W : List Int} {r : Row} : r ∈ sortedRows m W ↔ r.Sublist W ∧ (r.length : Int) = m := by
  unfold sortedRows
  rw [List.mem_mergeSort, List.mem_filter, decide_eq_true_eq, mem_rowsL]
  exact ⟨fun h => ⟨h.1.1, h.2⟩, fun h => ⟨⟨h.1, .inl (by omega)⟩, h.2⟩⟩
theorem sorted_sorted (m : Int) (W : List Int) : (sortedRows m W).Pairwise (· ≤ ·) := by
  have := List.pairwise_mergeSort (le := fun (a b : List Int) => decide (a ≤ b)) (fun a b c h h' => by simp only [decide_eq_true_eq] at *; exact List.le_trans h h') (fun a b => by
    rcases List.le_total a b with h | h
    · simp [h]
    · simp [h]) ((rowsL m W).filter fun r => decide ((r.length : Int) = m))
  exact this.imp fun h => by simpa using h

/-! ### the least -/
open Classical in
noncomputable def least : List Int → List Want → Option (List Row)
  | _, [] => some []
  | c, w :: ws => (sortedRows w.1 w.2).findSome? fun r => if Okc (sub c r) then (least (sub c r) ws).map (r :: ·) else none
def rowP (c : List Int) (ws : List Want) (r : Row) : Prop := Okc (sub c r) ∧ HasPlan (sub c r) ws
noncomputable def firstRow (c : List Int) (w : Want) (ws : List Want) : Row := greedy (rowP c ws) w.1 [] w.2
noncomputable def firstPlan : List Int → List Want → List Row
  | _, [] => []
  | c, w :: ws => firstRow c w ws :: firstPlan (sub c (firstRow c w ws)) ws
theorem open_iff {c : List Int} {w : Want} {ws : List Want} (hW : w.2.Nodup) : HasPlan c (w :: ws) ↔ Open (rowP c ws) w.1 [] w.2 := by
  obtain ⟨m, W⟩ := w
  rw [has_cons hW]
  unfold Open rowP
  constructor
  · rintro ⟨r, h1, h2, h3, h4⟩; exact ⟨r, h1, by simpa using h2, by simpa using ⟨h3, h4⟩⟩
  · rintro ⟨r, h1, h2, h3⟩
    have h3 : Okc (sub c r) ∧ HasPlan (sub c r) ws := by simpa using h3
    exact ⟨r, h1, by simpa using h2, h3.1, h3.2⟩
theorem le_anti {a b : List Int} (h : a ≤ b) (h2 : b ≤ a) : a = b := List.le_antisymm h h2
open Classical in
theorem least_ok : ∀ (ws : List Want) (c : List Int), Okc c → (∀ w ∈ ws, w.2.Pairwise (· < ·)) → (HasPlan c ws → least c ws = some (firstPlan c ws) ∧ IsPlan c ws (firstPlan c ws)) ∧ (¬ HasPlan c ws → least c ws = none)
  | [], c, hc, _ => ⟨fun _ => ⟨rfl, plan_nil hc⟩, fun h => (h (has_nil hc)).elim⟩
  | w :: ws, c, hc, hw => by
    have hW := hw w List.mem_cons_self
    have hW2 : w.2.Nodup := hW.imp fun h => by omega
    have ih : ∀ r, Okc (sub c r) → (HasPlan (sub c r) ws → least (sub c r) ws = some (firstPlan (sub c r) ws) ∧ IsPlan (sub c r) ws (firstPlan (sub c r) ws)) ∧ (¬ HasPlan (sub c r) ws → least (sub c r) ws = none) :=
      fun r hr => least_ok ws (sub c r) hr fun w h => hw w (List.mem_cons_of_mem _ h)
    have yes : ∀ r, rowP c ws r → (if Okc (sub c r) then (least (sub c r) ws).map (r :: ·) else none) = some (r :: firstPlan (sub c r) ws) := fun r hr => by
      rw [if_pos hr.1, ((ih r hr.1).1 hr.2).1]; rfl
    have no : ∀ r, ¬ rowP c ws r → (if Okc (sub c r) then (least (sub c r) ws).map (r :: ·) else none) = none := fun r hr => by
      by_cases ho : Okc (sub c r)
      · rw [if_pos ho, (ih r ho).2 fun hp => hr ⟨ho, hp⟩]; rfl
      · rw [if_neg ho]
    refine ⟨fun hp => ?_, fun hp => ?_⟩
    · obtain ⟨e, g1, g2, g3, g4, g5⟩ := greedy_ok hW ((open_iff hW2).mp hp)
      have ge : firstRow c w ws = e := by unfold firstRow; rw [g1]; rfl
      have g4 : rowP c ws e := g4
      have hmem : e ∈ sortedRows w.1 w.2 := mem_sorted.mpr ⟨g2, by simpa using g3⟩
      have hs : ∃ b, (sortedRows w.1 w.2).findSome? (fun r => if Okc (sub c r) then (least (sub c r) ws).map (r :: ·) else none) = some b := by
        refine Option.ne_none_iff_exists'.mp fun z => ?_
        have := List.findSome?_eq_none_iff.mp z e hmem
        rw [yes e g4] at this; cases this
      obtain ⟨b, hb⟩ := hs
      have hl : least c (w :: ws) = some b := by unfold least; exact hb
      obtain ⟨l1, a, l2, el, fa, fb⟩ := List.findSome?_eq_some_iff.mp hb
      have pa : rowP c ws a := by
        by_cases q : rowP c ws a
        · exact q
        · rw [no a q] at fa; cases fa
      have ha : a ∈ sortedRows w.1 w.2 := by rw [el]; simp
      have ae : a ≤ e := by
        have so := sorted_sorted w.1 w.2
        rw [el] at so hmem
        rcases List.mem_append.mp hmem with z | z
        · have := fb e z; rw [yes e g4] at this; cases this
        · rcases List.mem_cons.mp z with z | z
          · rw [z]; exact List.le_refl _
          · rw [List.pairwise_append] at so
            exact (List.pairwise_cons.mp so.2.1).1 e z
      have ea : e ≤ a := by
        obtain ⟨a1, a2⟩ := mem_sorted.mp ha
        have := g5 a a1 (by simpa using a2) (by simpa using pa)
        simpa using this
      have eq := le_anti ae ea
      subst eq
      rw [yes a pa] at fa
      cases fa
      have hfp : firstPlan c (w :: ws) = a :: firstPlan (sub c a) ws := by
        show firstRow c w ws :: firstPlan (sub c (firstRow c w ws)) ws = _
        rw [ge]
      obtain ⟨m, W⟩ := w
      exact ⟨by rw [hl, hfp], by rw [hfp]; exact plan_cons.mpr ⟨⟨g2.nodup hW2, fun d hd => g2.subset hd, by simpa using g3⟩, pa.1, ((ih a pa.1).1 pa.2).2⟩⟩
    · have hx : (sortedRows w.1 w.2).findSome? (fun r => if Okc (sub c r) then (least (sub c r) ws).map (r :: ·) else none) = none := by
        rw [List.findSome?_eq_none_iff]
        intro r hr
        refine no r fun pr => hp ?_
        obtain ⟨a1, a2⟩ := mem_sorted.mp hr
        obtain ⟨m, W⟩ := w
        exact (has_cons hW2).mpr ⟨r, a1, a2, pr.1, pr.2⟩
      unfold least
      exact hx
end K85
/-! The plain law of k85, part 4: full shares, and the test of a day. -/
namespace K85

theorem sums_eq : ∀ {a b : List Int}, a.length = b.length → (∀ (i : Nat) (x y : Int), a[i]? = some x → b[i]? = some y → x ≤ y) → a.sum ≤ b.sum ∧ (a.sum = b.sum → a = b)
  | [], [], _, _ => ⟨Int.le_refl _, fun _ => rfl⟩
  | x :: a, y :: b, h, hi => by
    have h0 := hi 0 x y rfl rfl
    obtain ⟨h1, h2⟩ := sums_eq (a := a) (b := b) (by simpa using h) fun i x y e1 e2 => hi (i + 1) x y (by simpa using e1) (by simpa using e2)
    simp only [List.sum_cons]
    refine ⟨by omega, fun e => ?_⟩
    have e1 : x = y := by omega
    have e2 := h2 (by omega)
    rw [e1, e2]
  | [], _ :: _, h, _ => by simp at h
  | _ :: _, [], h, _ => by simp at h
theorem rowAt_get {R : List Row} {i : Nat} {r : Row} (h : R[i]? = some r) : rowAt R i = r := by
  unfold rowAt
  rw [List.getD_eq_getElem?_getD, h]; rfl
theorem dem_get {ws : List Want} {i : Nat} {w : Want} (h : ws[i]? = some w) : dem ws i = w.1 ∧ own ws i = w.2 := by
  unfold dem own
  rw [List.getD_eq_getElem?_getD, h]; exact ⟨rfl, rfl⟩
theorem fill_end {c : List Int} {ws : List Want} {R : List Row} (al : Alloc c ws R) (h : ∀ i, i < ws.length → ((rowAt R i).length : Int) = dem ws i ∨ ¬ HasPlan c ws) :
    (R.map fun r => (r.length : Int)).sum = (ws.map (·.1)).sum ↔ HasPlan c ws := by
  have key := sums_eq (a := R.map fun r => (r.length : Int)) (b := ws.map (·.1)) (by simp [al.len]) fun i x y e1 e2 => by
    rw [List.getElem?_map, Option.map_eq_some_iff] at e1 e2
    obtain ⟨r, e1, rfl⟩ := e1
    obtain ⟨w, e2, rfl⟩ := e2
    have := al.size i (List.getElem?_eq_some_iff.mp e2).1
    rw [rowAt_get e1, (dem_get e2).1] at this
    exact this
  constructor
  · intro e
    have e := key.2 e
    refine ⟨R, ⟨al, fun i hi => ?_⟩⟩
    have hR : i < R.length := by rw [al.len]; exact hi
    have e1 : R[i]? = some (R[i]'hR) := List.getElem?_eq_getElem hR
    have e2 : ws[i]? = some ws[i] := List.getElem?_eq_getElem hi
    have := congrArg (fun l => l[i]?) e
    simp only [List.getElem?_map, e1, e2, Option.map_some, Option.some.injEq] at this
    rw [rowAt_get e1, (dem_get e2).1]
    exact this
  · intro hp
    congr 1
    apply List.ext_getElem?
    intro i
    rw [List.getElem?_map, List.getElem?_map]
    by_cases hi : i < ws.length
    · have hR : i < R.length := by rw [al.len]; exact hi
      have e1 : R[i]? = some (R[i]'hR) := List.getElem?_eq_getElem hR
      have e2 : ws[i]? = some ws[i] := List.getElem?_eq_getElem hi
      have := (h i hi).resolve_right fun z => z hp
      rw [rowAt_get e1, (dem_get e2).1] at this
      rw [e1, e2]; simp [this]
    · rw [List.getElem?_eq_none (by rw [al.len]; omega), List.getElem?_eq_none (by omega)] <;> rfl
theorem rowAt_nils (n i : Nat) : rowAt (List.replicate n []) i = [] := by
  unfold rowAt
  rw [List.getD_eq_getElem?_getD, List.getElem?_replicate]
  split <;> rfl
theorem alloc_start {c : List Int} {ws : List Want} (hc : Okc c) (hd : ∀ i, i < ws.length → 0 ≤ dem ws i) : Alloc c ws (List.replicate ws.length []) :=
  ⟨List.length_replicate, fun i => by rw [rowAt_nils]; exact List.nodup_nil, fun i d h => by (rw [rowAt_nils] at h; cases h), fun d hd' => by
    have e : cnt (List.replicate ws.length []) d = 0 := by
      unfold cnt
      rw [List.length_eq_zero_iff, List.eq_nil_iff_forall_not_mem]
      intro o ho
      have := mem_takers'.mp ho
      rw [rowAt_nils] at this; cases this
    rw [e]
    exact okc_iff.mp hc d hd', fun i hi => by rw [rowAt_nils]; exact hd i hi⟩
/-- what is behind once a day is taken -/
def behind (m : Int) (row : Row) (W : List Int) (ws : List Want) : List Want := if 0 < m - (1 + (row.length : Int)) then (m - (1 + (row.length : Int)), W) :: ws else ws
theorem open_test {c : List Int} {m : Int} {row : Row} {d : Int} {W : List Int} {ws : List Want} (hW : W.Nodup) (hl : (row.length : Int) < m) :
    (Okc (sub c (row ++ [d])) ∧ HasPlan (sub c (row ++ [d])) (behind m row W ws)) ↔ Open (rowP c ws) m (row ++ [d]) W := by
  unfold Open behind rowP
  by_cases h : 0 < m - (1 + (row.length : Int))
  · rw [if_pos h, has_cons hW]
    constructor
    · rintro ⟨h1, r, h2, h3, h4, h5⟩
      rw [sub_sub] at h4 h5
      exact ⟨r, h2, by simp; omega, h4, h5⟩
    · rintro ⟨r, h2, h3, h4, h5⟩
      exact ⟨okc_less h4, r, h2, by simp at h3; omega, by rw [sub_sub]; exact h4, by rw [sub_sub]; exact h5⟩
  · rw [if_neg h]
    constructor
    · rintro ⟨h1, h2⟩
      exact ⟨[], List.nil_sublist _, by simp; omega, by simpa using h1, by simpa using h2⟩
    · rintro ⟨r, h2, h3, h4, h5⟩
      have : r = [] := List.eq_nil_of_length_eq_zero (by simp at h3; omega)
      subst this
      exact ⟨by simpa using h4, by simpa using h5⟩
theorem tail_filter {pre W : List Int} {d : Int} (h : (pre ++ d :: W).Pairwise (· < ·)) : (pre ++ d :: W).filter (fun x => decide (d < x)) = W := by
  rw [List.pairwise_append, List.pairwise_cons] at h
  obtain ⟨h1, ⟨h2, h3⟩, h4⟩ := h
  rw [List.filter_append, List.filter_cons]
  rw [List.filter_eq_nil_iff.mpr fun x hx => by have := h4 x hx d (by simp); simp; omega, if_neg (by simp), List.nil_append]
  exact List.filter_eq_self.mpr fun x hx => by simpa using h2 x hx
/-- the state of the row's loop -/
theorem greedy_step {P : Row → Prop} {m : Int} {r : Row} {d : Int} {W : List Int} [Decidable ((r.length : Int) < m ∧ Open P m (r ++ [d]) W)] : greedy P m r (d :: W) = greedy P m (if (r.length : Int) < m ∧ Open P m (r ++ [d]) W then r ++ [d] else r) W := by
  rw [greedy]
  split
  · rfl
  · rfl
theorem plan_days {c : List Int} {ws : List Want} {x : List Row} (p : IsPlan c ws x) (d : Int) (h : InR c d) : ((x.flatten).count d : Int) ≤ cap c d := by
  have e : (x.flatten).count d = cnt x d := by
    have nd : ∀ i, (rowAt x i).Nodup := p.nd
    clear p
    induction x with
    | nil => rfl
    | cons r x ih =>
      rw [List.flatten_cons, List.count_append, cnt_cons, ih fun i => nd (i + 1), count_nd (show r.Nodup from nd 0)]
  rw [e]; exact p.fit d h
end K85
/-! k85: what each def does. -/
namespace DL
open PySem PySem.Spec PyProof.Rows L2 K85
local macro_rules
  | `(tactic| simp_arith only [$xs,*]) => `(tactic| simp only [wpSs, wpS, wpX, wpSrc, wpXs, wpA, wpO, wpC, wpB, bindTg, bindTgs, slotsT, slotsTs, wipeD, settle, opBlt, getSq, getL, getI, getB, getD, x1, asRef, atL, opMth, mthOk, opBin, opAdd, opAug, opCmp, opIx, opIxn, opIxm, opSl, opSet, isTy, truthX, srcX, srcE, keyOf, isNonX, if_true, if_false, reduceCtorEq, Bool.false_eq_true, Bool.not_true, Bool.not_false, Bool.true_eq_false, and_true, true_and, List.getElem?_cons_zero, List.getElem?_cons_succ, List.set_cons_zero, List.set_cons_succ, List.map_cons, List.map_nil, List.length_cons, List.length_nil, List.cons_append, List.nil_append, List.replicate_succ, List.replicate_zero, Nat.add_one_sub_one, Nat.reduceAdd, Nat.reduceSub, Nat.zero_add, Nat.sub_zero, startD, $xs,*])
local macro_rules
  | `(tactic| simp_arith [$xs,*]) => `(tactic| simp only [DL.wpSs_nil, wpS, wpX, wpSrc, wpXs, wpA, wpO, wpC, wpB, bindTg, bindTgs, slotsT, slotsTs, wipeD, settle, opBlt, getSq, getL, getI, getB, getD, x1, asRef, atL, opMth, mthOk, opBin, opAdd, opAug, opCmp, opIx, opIxn, opIxm, opSl, opSet, isTy, truthX, srcX, srcE, keyOf, isNonX, if_true, if_false, reduceCtorEq, Bool.false_eq_true, Bool.not_true, Bool.not_false, Bool.true_eq_false, and_true, true_and, List.getElem?_cons_zero, List.getElem?_cons_succ, List.set_cons_zero, List.set_cons_succ, List.map_cons, List.map_nil, List.length_cons, List.length_nil, List.cons_append, List.nil_append, List.replicate_succ, List.replicate_zero, Nat.add_one_sub_one, Nat.reduceAdd, Nat.reduceSub, Nat.zero_add, Nat.sub_zero, startD, $xs,*])
/-! ### data -/
theorem purL_ints (l : List Int) : purL (l.map Dat.int) = true := by
  induction l with
  | nil => rfl
  | cons x l ih => rw [List.map_cons, purL, ih]; rfl
theorem toPyL_ints (l : List Int) : toPyL (l.map Dat.int) = l.map PyData.int := by rw [toPyL_map, List.map_map]; rfl
theorem okD_int (d : Int) : okD (.int d) := ⟨rfl, by show PyData.depth (.int d) ≤ 60; simp [PyData.depth]⟩
theorem okDL_ints (l : List Int) : okDL (l.map Dat.int) := ⟨purL_ints l, by unfold depL; rw [toPyL_ints, depth_ints]; omega⟩
theorem eqD_int (a b : Int) : eqD (.int a) (.int b) = decide (a = b) := by
  show PyData.eqv (.int a) (.int b) = _
  by_cases h : a = b
  · subst h; simp [PyData.eqv]
  · simp [PyData.eqv, h]
theorem inL_ints (d : Int) (l : List Int) : inL (.int d) (l.map Dat.int) = decide (d ∈ l) := by
  unfold inL
  induction l with
  | nil => rfl
  | cons x l ih =>
    rw [List.map_cons, List.any_cons, ih, eqD_int]
    by_cases h : d = x
    · subst h; simp
    · simp [h, Ne.symm h]
theorem eqX_nil {S : Sto} {a : Addr} {l : List Int} {k : Bool → Prop} (h : S a = some (.lst (l.map .int))) (hk : k l.isEmpty) : eqX (.d (.ref a)) (.l []) S k := by
  have o : okDL (l.map Dat.int) := okDL_ints l
  have o2 : okDL [] := okDL_ints []
  unfold eqX valP
  simp only [h]
  refine ⟨o, o2, ?_⟩
  cases l with
  | nil => simpa [toPyL, PyData.eqv, PyData.eqvAll] using hk
  | cons x l => simpa [toPyL, PyData.eqv, PyData.eqvAll] using hk
def intsD (l : List Int) : Dat := .tup (l.map .int)
def wantD (w : Want) : Dat := .tup [.int w.1, intsD w.2]
def wantsD (ws : List Want) : Dat := .tup (ws.map wantD)
/-- rows that stand in a list -/
structure Shr (S : Sto) (f : Addr) (rs : List Addr) (R : List (List Int)) : Prop where
  top : S f = some (.lst (rs.map .ref))
  len : rs.length = R.length
  row : ∀ (i : Nat) (r : Addr) (l : List Int), rs[i]? = some r → R[i]? = some l → S r = some (.lst (l.map .int))
  nd : rs.Nodup
  ne : f ∉ rs
section
variable {S S' : Sto} {f : Addr} {rs : List Addr} {R : List (List Int)}
theorem Shr.sub (h : Shr S f rs R) (s : Sub S S') : Shr S' f rs R := ⟨s _ _ h.top, h.len, fun i r l a b => s _ _ (h.row i r l a b), h.nd, h.ne⟩
theorem Shr.get (h : Shr S f rs R) {i : Nat} (hi : i < R.length) : ∃ r, rs[i]? = some r ∧ S r = some (.lst ((rowAt R i).map .int)) := by
  have h1 : rs[i]? = some (rs[i]'(by rw [h.len]; exact hi)) := List.getElem?_eq_getElem _
  have h2 : R[i]? = some R[i] := List.getElem?_eq_getElem hi
  exact ⟨_, h1, by rw [rowAt_get h2]; exact h.row i _ _ h1 h2⟩
theorem Shr.set (h : Shr S f rs R) {i : Nat} {r : Addr} {l : List Int} (hr : rs[i]? = some r) : Shr (supd S r (.lst (l.map .int))) f rs (R.set i l) := by
  have hm : r ∈ rs := List.mem_of_getElem? hr
  refine ⟨by rw [supd_ne (by intro z; exact h.ne (z ▸ hm))]; exact h.top, by rw [List.length_set]; exact h.len, fun j s m e1 e2 => ?_, h.nd, h.ne⟩
  by_cases q : j = i
  · subst q
    rw [hr] at e1; cases e1
    rw [List.getElem?_set_self (by rw [← h.len]; exact (List.getElem?_eq_some_iff.mp hr).1)] at e2
    cases e2
    exact supd_same
  · rw [List.getElem?_set_ne (Ne.symm q)] at e2
    have ne : s ≠ r := by
      intro z; subst z
      have := (List.getElem?_inj (List.getElem?_eq_some_iff.mp e1).1 h.nd).mp (e1.trans hr.symm)
      exact q this
    rw [supd_ne ne]
    exact h.row j s m e1 e2
end
/-! ### takers -/
def sp_takers : DSp := fun ds S q _ => ∃ f rs R d, ds = [.ref f, .int d] ∧ Shr S f rs R ∧ R.length ≤ 1000 ∧ q (.l ((takers R d).map fun (i : Nat) => Dat.int i)) S
theorem filter_map_ints {n : Nat} (p : Nat → Bool) {g : Dat → Option Dat} (hg : ∀ i : Nat, g (.int i) = if p i then some (.int i) else none) :
    ((List.range n).map fun (i : Nat) => Dat.int i).filterMap g = ((List.range n).filter p).map fun (i : Nat) => Dat.int i := by
  generalize List.range n = l
  induction l with
  | nil => rfl
  | cons x l ih =>
    rw [List.map_cons, List.filter_cons]
    cases h : p x with
    | true => rw [List.filterMap_cons_some (by rw [hg, h]; rfl), ih]; rfl
    | false => rw [List.filterMap_cons_none (by rw [hg, h]; rfl), ih]; rfl
theorem w_takers {ds S q e} (h : sp_takers ds S q e) : bodyW b_takers N_takers 2 ds S q e := by
  obtain ⟨f, rs, R, d, rfl, sh, hl, hq⟩ := h
  refine ⟨rfl, ?_⟩
  simp_arith only [b_takers, N_takers, sh.top]
  refine ⟨by rw [List.length_map, sh.len]; omega, by omega, ?_⟩
  refine compW_pure trivial (fun x => match x with | .int i => if decide (d ∈ rowAt R i.toNat) then some (.int i) else none | _ => none) _ _ _ (fun x hx k hk => ?_) ?_
  · obtain ⟨i, hi, rfl⟩ := List.mem_map.mp hx
    rw [List.mem_range, Int.toNat_natCast, List.length_map, sh.len] at hi
    obtain ⟨r, h1, h2⟩ := sh.get hi
    have h3 : (rs.map Dat.ref)[i]? = some (.ref r) := by rw [List.getElem?_map, h1]; rfl
    simp_arith only [sh.top, atI_nat h3, inX, h2, inL_ints]
    refine ⟨okD_int d, okDL_ints _, ?_⟩
    simp only [Int.toNat_natCast] at hk
    by_cases hd : d ∈ rowAt R i
    · simpa [hd] using hk
    · simpa [hd] using hk
  · refine ⟨S, .refl, ?_⟩
    rw [filter_map_ints (fun i => decide (d ∈ rowAt R i)) (fun i => by simp)]
    rw [Int.toNat_natCast, List.length_map, sh.len]
    exact hq
end DL
/-! k85: what each def does. -/
namespace DL
open PySem PySem.Spec PyProof.Rows L2 K85
local macro_rules
  | `(tactic| simp_arith only [$xs,*]) => `(tactic| simp only [wpSs, wpS, wpX, wpSrc, wpXs, wpA, wpO, wpC, wpB, bindTg, bindTgs, slotsT, slotsTs, wipeD, settle, opBlt, getSq, getL, getI, getB, getD, x1, asRef, atL, opMth, mthOk, opBin, opAdd, opAug, opCmp, opIx, opIxn, opIxm, opSl, opSet, isTy, truthX, srcX, srcE, keyOf, isNonX, if_true, if_false, reduceCtorEq, Bool.false_eq_true, Bool.not_true, Bool.not_false, Bool.true_eq_false, and_true, true_and, List.getElem?_cons_zero, List.getElem?_cons_succ, List.set_cons_zero, List.set_cons_succ, List.map_cons, List.map_nil, List.length_cons, List.length_nil, List.cons_append, List.nil_append, List.replicate_succ, List.replicate_zero, Nat.add_one_sub_one, Nat.reduceAdd, Nat.reduceSub, Nat.zero_add, Nat.sub_zero, startD, $xs,*])
local macro_rules
  | `(tactic| simp_arith [$xs,*]) => `(tactic| simp only [DL.wpSs_nil, wpS, wpX, wpSrc, wpXs, wpA, wpO, wpC, wpB, bindTg, bindTgs, slotsT, slotsTs, wipeD, settle, opBlt, getSq, getL, getI, getB, getD, x1, asRef, atL, opMth, mthOk, opBin, opAdd, opAug, opCmp, opIx, opIxn, opIxm, opSl, opSet, isTy, truthX, srcX, srcE, keyOf, isNonX, if_true, if_false, reduceCtorEq, Bool.false_eq_true, Bool.not_true, Bool.not_false, Bool.true_eq_false, and_true, true_and, List.getElem?_cons_zero, List.getElem?_cons_succ, List.set_cons_zero, List.set_cons_succ, List.map_cons, List.map_nil, List.length_cons, List.length_nil, List.cons_append, List.nil_append, List.replicate_succ, List.replicate_zero, Nat.add_one_sub_one, Nat.reduceAdd, Nat.reduceSub, Nat.zero_add, Nat.sub_zero, startD, $xs,*])
/-! ### searched -/
def dB (kb : List (Int × Nat)) : List (Key × Dat) := kb.map fun p => (.inl p.1, .int p.2)
def viaD : Option Int → Dat
  | none => .non
  | some d => .int d
def dV (kv : List (Nat × Option Int)) : List (Key × Dat) := kv.map fun p => (.inl (p.1 : Int), viaD p.2)
theorem lookK_nil (k : Key) : lookK [] k = none := rfl
theorem lookK_cons (p : Key × Dat) (l : List (Key × Dat)) (k : Key) : lookK (p :: l) k = if p.1 = k then some p.2 else lookK l k := by
  unfold lookK
  rw [List.find?_cons]
  by_cases h : p.1 = k
  · simp [h]
  · simp [h]
theorem hasK_dB {kb : List (Int × Nat)} {d : Int} : hasK (dB kb) (.inl d) = decide (d ∈ ksB kb) := by
  induction kb with
  | nil => rfl
  | cons p kb ih =>
    show (lookK ((.inl p.1, .int p.2) :: dB kb) (.inl d)).isSome = _
    rw [lookK_cons]
    by_cases h : p.1 = d
    · subst h; simp
    · have : ¬ ((Sum.inl p.1 : Key) = Sum.inl d) := fun z => h (Sum.inl.inj z)
      have ih : (lookK (dB kb) (.inl d)).isSome = _ := ih
      rw [if_neg this, ih]; simp [Ne.symm h]
theorem hasK_dV {kv : List (Nat × Option Int)} {o : Nat} : hasK (dV kv) (.inl (o : Int)) = decide (o ∈ ksV kv) := by
  induction kv with
  | nil => rfl
  | cons p kv ih =>
    show (lookK ((.inl (p.1 : Int), viaD p.2) :: dV kv) (.inl (o : Int))).isSome = _
    rw [lookK_cons]
    by_cases h : p.1 = o
    · subst h; simp
    · have : ¬ ((Sum.inl (p.1 : Int) : Key) = Sum.inl (o : Int)) := fun z => h (by have := Sum.inl.inj z; omega)
      have ih : (lookK (dV kv) (.inl (o : Int))).isSome = _ := ih
      rw [if_neg this, ih]; simp [Ne.symm h]
theorem putD_new {kvs : List (Key × Dat)} {k : Key} {v : Dat} (h : hasK kvs k = false) : putD kvs k v = kvs ++ [(k, v)] := by
  have e : kvs.any (fun kv => decide (kv.1 = k)) = false := by
    induction kvs with
    | nil => rfl
    | cons p l ih =>
      unfold hasK at h ih
      rw [lookK_cons] at h
      by_cases q : p.1 = k
      · rw [if_pos q] at h; cases h
      · rw [if_neg q] at h
        rw [List.any_cons, ih h]; simp [q]
  unfold putD
  rw [e]; rfl
theorem lookK_dB {kb : List (Int × Nat)} (nd : (ksB kb).Nodup) {d : Int} {a : Nat} (h : (d, a) ∈ kb) : lookK (dB kb) (.inl d) = some (.int a) := by
  induction kb with
  | nil => cases h
  | cons p kb ih =>
    have nd' : p.1 ∉ ksB kb ∧ (ksB kb).Nodup := by simpa [ksB] using nd
    show lookK ((.inl p.1, .int p.2) :: dB kb) _ = _
    rw [lookK_cons]
    rcases List.mem_cons.mp h with e | e
    · rw [← e]; simp
    · have : ¬ ((Sum.inl p.1 : Key) = Sum.inl d) := fun z => nd'.1 (by rw [Sum.inl.inj z]; exact mem_ksB.mpr ⟨a, e⟩)
      rw [if_neg this]; exact ih nd'.2 e
theorem lookK_dV {kv : List (Nat × Option Int)} (nd : (ksV kv).Nodup) {o : Nat} {x : Option Int} (h : (o, x) ∈ kv) : lookK (dV kv) (.inl (o : Int)) = some (viaD x) := by
  induction kv with
  | nil => cases h
  | cons p kv ih =>
    have nd' : p.1 ∉ ksV kv ∧ (ksV kv).Nodup := by simpa [ksV] using nd
    show lookK ((.inl (p.1 : Int), viaD p.2) :: dV kv) _ = _
    rw [lookK_cons]
    rcases List.mem_cons.mp h with e | e
    · rw [← e]; simp
    · have : ¬ ((Sum.inl (p.1 : Int) : Key) = Sum.inl (o : Int)) := fun z => nd'.1 (by have : p.1 = o := by have := Sum.inl.inj z; omega
                                                                                       rw [this]; exact List.mem_map.mpr ⟨_, e, rfl⟩)
      rw [if_neg this]; exact ih nd'.2 e

def sp_searched : DSp := fun ds S q _ => ∃ ws f rs R b begun c, ds = [wantsD ws, .ref f, .ref b] ∧ Shr S f rs R ∧ S b = some (.lst (begun.map fun (i : Nat) => Dat.int i)) ∧ R.length = ws.length ∧ ws.length ≤ 1000 ∧ begun.Nodup ∧ (∀ o ∈ begun, o < ws.length) ∧
  (∀ i, ∀ d ∈ own ws i, InR c d) ∧ c.length ≤ 1000 ∧ (∀ i, (own ws i).length ≤ 1000) ∧
  ∀ pb pv kb kv S', Sub S S' → S pb = none → S pv = none → S' pb = some (.dct (dB kb)) → S' pv = some (.dct (dV kv)) → Inv c ws R begun No No kb kv [] → q (.d (.tup [.ref pb, .ref pv])) S'
structure St (S S' : Sto) (pb pv pw : Addr) (kb : List (Int × Nat)) (kv : List (Nat × Option Int)) (w : List Nat) : Prop where
  sub : Sub S S'
  b : S' pb = some (.dct (dB kb))
  v : S' pv = some (.dct (dV kv))
  w : S' pw = some (.lst (w.map fun (i : Nat) => Dat.int i))
  nb : S pb = none
  nv : S pv = none
  nw : S pw = none
  bv : pb ≠ pv
theorem St.bw {S S' pb pv pw kb kv w} (s : St S S' pb pv pw kb kv w) : pb ≠ pw := fun z => by have := s.b; rw [z, s.w] at this; cases this
theorem St.vw {S S' pb pv pw kb kv w} (s : St S S' pb pv pw kb kv w) : pv ≠ pw := fun z => by have := s.v; rw [z, s.w] at this; cases this
theorem St.setB {S S' pb pv pw kb kv w kb'} (s : St S S' pb pv pw kb kv w) : St S (supd S' pb (.dct (dB kb'))) pb pv pw kb' kv w :=
  ⟨s.sub.put s.nb, supd_same, by rw [supd_ne s.bv.symm]; exact s.v, by rw [supd_ne s.bw.symm]; exact s.w, s.nb, s.nv, s.nw, s.bv⟩
theorem St.setV {S S' pb pv pw kb kv w kv'} (s : St S S' pb pv pw kb kv w) : St S (supd S' pv (.dct (dV kv'))) pb pv pw kb kv' w :=
  ⟨s.sub.put s.nv, by rw [supd_ne s.bv]; exact s.b, supd_same, by rw [supd_ne s.vw.symm]; exact s.w, s.nb, s.nv, s.nw, s.bv⟩
theorem St.setW {S S' pb pv pw kb kv w w'} (s : St S S' pb pv pw kb kv w) : St S (supd S' pw (.lst (w'.map fun (i : Nat) => Dat.int i))) pb pv pw kb kv w' :=
  ⟨s.sub.put s.nw, by rw [supd_ne s.bw]; exact s.b, by rw [supd_ne s.vw]; exact s.v, supd_same, s.nb, s.nv, s.nw, s.bv⟩
theorem dV_snoc (kv : List (Nat × Option Int)) (o : Nat) (x : Option Int) : dV kv ++ [(.inl (o : Int), viaD x)] = dV (kv ++ [(o, x)]) := by simp [dV]
theorem dB_snoc (kb : List (Int × Nat)) (d : Int) (a : Nat) : dB kb ++ [(.inl d, .int a)] = dB (kb ++ [(d, a)]) := by simp [dB]
theorem dV_len (kv : List (Nat × Option Int)) : (dV kv).length = kv.length := by simp [dV]
theorem dB_len (kb : List (Int × Nat)) : (dB kb).length = kb.length := by simp [dB]
theorem wants_at {ws : List Want} {i : Nat} (h : i < ws.length) : (ws.map wantD)[i]? = some (.tup [.int (dem ws i), .tup ((own ws i).map .int)]) := by
  have e : ws[i]? = some ws[i] := List.getElem?_eq_getElem h
  rw [List.getElem?_map, e, (dem_get e).1, (dem_get e).2]; rfl
theorem w_searched {ds S q e} (h : sp_searched ds S q e) : bodyW (b_searched sp_takers) N_searched 3 ds S q e := by
  obtain ⟨ws, f, rs, R, b, begun, c, rfl, sh, hb, hl, hn, hnd, hbl, hin, hc, hown, hq⟩ := h
  refine ⟨rfl, ?_⟩
  have s1000 : 3000 < sizeLine := by rw [sizeLine_eq]; omega
  simp_arith only [b_searched, N_searched]
  intro pb npb pv npv
  have ev : S pv = none := (Sub.new npb).non _ npv
  have hbv : pb ≠ pv := by intro z; subst z; rw [supd_same] at npv; cases npv
  have eb : (supd (supd S pb (.dct [])) pv (.dct [])) b = some (.lst (begun.map fun (i : Nat) => Dat.int i)) := ((Sub.new npb).newOf npv) _ _ hb
  simp_arith only [eb]
  intro pw npw
  have ew : S pw = none := ((Sub.new npb).newOf npv).non _ npw
  have st0 : St S (supd (supd (supd S pb (.dct [])) pv (.dct [])) pw (.lst (begun.map fun (i : Nat) => Dat.int i))) pb pv pw [] [] begun := by
    have n1 : pb ≠ pw := by intro z; subst z; rw [supd_ne hbv, supd_same] at npw; cases npw
    have n2 : pv ≠ pw := by intro z; subst z; rw [supd_same] at npw; cases npw
    exact ⟨((Sub.new npb).newOf npv).newOf npw, by rw [supd_ne n1, supd_ne hbv, supd_same]; rfl, by rw [supd_ne n2, supd_same]; rfl, supd_same, npb, ev, ew, hbv⟩
  generalize supd (supd (supd S pb (.dct [])) pv (.dct [])) pw (.lst (begun.map fun (i : Nat) => Dat.int i)) = S3 at st0
  simp_arith only [st0.w]
  have bl : begun.length ≤ ws.length := by
    have := nodup_len (m := List.range ws.length) hnd fun x hx => List.mem_range.mpr (hbl x hx)
    simpa using this
  refine ⟨by rw [List.length_map]; omega, ?_⟩
  refine forW_by (fun i δ S' => ∃ a6, δ = [some (wantsD ws), some (.ref f), some (.ref b), some (.ref pb), some (.ref pv), some (.ref pw), a6, none, none] ∧ St S S' pb pv pw [] ((begun.take i).map fun o => (o, none)) begun) ⟨none, rfl, st0⟩ (fun i δ S' ⟨_, _, st⟩ => st.w) (fun i d δ S' N hd ⟨a6, hδ, st⟩ hN => ?_) (fun δ S' ⟨a6, hδ, st⟩ => ?_)
  · subst hδ
    rw [List.getElem?_map, Option.map_eq_some_iff] at hd
    obtain ⟨o, ho, rfl⟩ := hd
    have hi := (List.getElem?_eq_some_iff.mp ho).1
    simp_arith only [st.v]
    refine ⟨by rw [dV_len, List.length_map, List.length_take]; omega, hN _ _ ⟨_, rfl, ?_⟩⟩
    have hno : o ∉ ksV ((begun.take i).map fun o => (o, (none : Option Int))) := by
      have e : ksV ((begun.take i).map fun o => (o, (none : Option Int))) = begun.take i := by
        show (List.map _ _).map _ = _
        rw [List.map_map]; exact List.map_id' _
      rw [e]
      intro hm
      obtain ⟨j, hj⟩ := List.getElem?_of_mem hm
      rw [List.getElem?_take] at hj
      split at hj
      · rename_i hji
        have := (List.getElem?_inj (List.getElem?_eq_some_iff.mp hj).1 hnd).mp (hj.trans ho.symm)
        omega
      · cases hj
    rw [putD_new (by rw [hasK_dV]; simpa using hno), show Dat.non = viaD none from rfl, dV_snoc]
    have e2 : ((begun.take i).map fun o => (o, (none : Option Int))) ++ [(o, none)] = (begun.take (i + 1)).map fun o => (o, none) := by
      rw [List.take_add_one, ho]; simp
    rw [e2]
    exact st.setV
  · subst hδ
    rw [List.length_map, List.take_length] at st
    have inv0 := Inv.init (c := c) (ws := ws) (R := R) hnd hbl
    simp_arith only []
    refine ⟨fun m δ S' => ∃ kb kv w a6 a7 a8, δ = [some (wantsD ws), some (.ref f), some (.ref b), some (.ref pb), some (.ref pv), some (.ref pw), a6, a7, a8] ∧ St S S' pb pv pw kb kv w ∧ Inv c ws R begun No No kb kv w ∧ m = 2 * (ws.length - kv.length) + w.length ∧ m ≤ 2000,
      ⟨_, [], _, _, _, _, _, rfl, st, inv0, rfl, by rw [List.length_map]; omega⟩, ?_⟩
    rintro m δ S' ⟨kb, kv, w, a6, a7, a8, rfl, st, inv, rfl, hm2000⟩
    simp_arith only []
    refine ⟨Nat.zero_le _, eqX_nil (l := w.map fun (i : Nat) => (i : Int)) (by rw [List.map_map]; exact st.w) ?_⟩
    cases w with
    | nil =>
      simp_arith only [List.isEmpty_nil]
      refine ⟨by omega, S', .refl, hq pb pv kb kv S' st.sub st.nb st.nv st.b st.v inv⟩
    | cons a w =>
      simp_arith only [List.isEmpty_cons, st.w]
      obtain ⟨inv1, hak⟩ := inv.pop
      have han := inv1.kvn a hak
      have st1 : St S (supd S' pw (.lst (w.map fun (i : Nat) => Dat.int i))) pb pv pw kb kv w := st.setW
      generalize supd S' pw (.lst (w.map fun (i : Nat) => Dat.int i)) = S4 at st1
      have hw1 := wants_at han
      simp_arith only [wantsD, atI_nat hw1]
      refine ⟨by rw [List.length_map]; have := hown a; omega, ?_⟩
      have hM : ∀ kb' kv' w' (xa : Nat → Prop) (xd : Int → Prop), Inv c ws R begun xa xd kb' kv' w' → kv'.length ≤ ws.length := fun _ _ _ _ _ h => h.few
      generalize hMe : 2 * (ws.length - kv.length) + w.length = M
      have hMlt : M < 2 * (ws.length - kv.length) + (a :: w).length := by rw [List.length_cons]; omega
      refine forW_by (fun j δ S' => ∃ kb' kv' w' a7 a8, δ = [some (.tup (ws.map wantD)), some (.ref f), some (.ref b), some (.ref pb), some (.ref pv), some (.ref pw), some (.int a), a7, a8] ∧ St S S' pb pv pw kb' kv' w' ∧ Inv c ws R begun (· = a) No kb' kv' w' ∧ a ∈ ksV kv' ∧
          2 * (ws.length - kv'.length) + w'.length ≤ M ∧ (∀ d ∈ (own ws a).take j, d ∈ rowAt R a ∨ d ∈ ksB kb')) ⟨kb, kv, w, _, _, rfl, st1, inv1, hak, by omega, by simp⟩ (fun _ _ _ _ => trivial) (fun j dd δ S' N hd ⟨kb', kv', w', a7, a8, hδ, st', inv', hak', hm', hdn⟩ hN => ?_)
          (fun δ S' ⟨kb', kv', w', a7, a8, hδ, st', inv', hak', hm', hdn⟩ => ?_)
      · subst hδ
        rw [List.getElem?_map, Option.map_eq_some_iff] at hd
        obtain ⟨d, hd, rfl⟩ := hd
        have hdo : d ∈ own ws a := List.mem_of_getElem? hd
        have shs := sh.sub st'.sub
        obtain ⟨r, h1, h2⟩ := shs.get (i := a) (by omega)
        have h3 : (rs.map Dat.ref)[a]? = some (.ref r) := by rw [List.getElem?_map, h1]; rfl
        have next : ∀ kb2, (∀ y ∈ ksB kb', y ∈ ksB kb2) → (d ∈ rowAt R a ∨ d ∈ ksB kb2) → ∀ x ∈ (own ws a).take (j + 1), x ∈ rowAt R a ∨ x ∈ ksB kb2 := fun kb2 hsub hd2 x hx => by
          rw [List.take_add_one, hd] at hx
          rcases List.mem_append.mp hx with z | z
          · exact (hdn x z).imp id (hsub x)
          · simp at z; subst z; exact hd2
        simp_arith only [shs.top, atI_nat h3, inX, h2, inL_ints]
        refine ⟨okD_int d, okDL_ints _, ?_⟩
        by_cases hr : d ∈ rowAt R a
        · simp_arith only [decide_eq_true hr]
          exact hN _ _ ⟨kb', kv', w', _, _, rfl, st', inv', hak', hm', next kb' (fun _ h => h) (.inl hr)⟩
        · simp_arith only [decide_eq_false hr, st'.b, hasK_dB]
          by_cases hk : d ∈ ksB kb'
          · simp_arith only [decide_eq_true hk]
            exact hN _ _ ⟨kb', kv', w', _, _, rfl, st', inv', hak', hm', next kb' (fun _ h => h) (.inr hk)⟩
          · simp_arith only [decide_eq_false hk, st'.b]
            refine ⟨by rw [dB_len]; have := inv'.fewB; omega, ?_⟩
            rw [putD_new (by rw [hasK_dB]; simpa using hk), dB_snoc]
            have st2 : St S (supd S' pb (.dct (dB (kb' ++ [(d, a)])))) pb pv pw (kb' ++ [(d, a)]) kv' w' := st'.setB
            generalize supd S' pb (.dct (dB (kb' ++ [(d, a)]))) = S5 at st2
            have inv2 := inv'.day hk hak' hdo hr (hin a d hdo)
            refine ⟨f, rs, R, d, rfl, sh.sub st2.sub, by omega, ?_⟩
            have tl : (takers R d).length ≤ 1000 := by
              have := nodup_len (m := List.range R.length) (takers_nodup R d) fun x hx => List.mem_range.mpr (mem_takers.mp hx).1
              simp at this; omega
            refine ⟨by rw [List.length_map]; omega, ?_⟩
            refine forW_by (fun t δ S' => ∃ kv2 w2 a8, δ = [some (.tup (ws.map wantD)), some (.ref f), some (.ref b), some (.ref pb), some (.ref pv), some (.ref pw), some (.int a), some (.int d), a8] ∧ St S S' pb pv pw (kb' ++ [(d, a)]) kv2 w2 ∧ Inv c ws R begun (· = a) (· = d) (kb' ++ [(d, a)]) kv2 w2 ∧ a ∈ ksV kv2 ∧
              2 * (ws.length - kv2.length) + w2.length ≤ M ∧ (∀ o ∈ (takers R d).take t, o ∈ ksV kv2)) ⟨kv', w', _, rfl, st2, inv2, hak', hm', by simp⟩ (fun _ _ _ _ => trivial) (fun t dd δ S' N2 hd2 ⟨kv2, w2, a8, hδ, st3, inv3, hak3, hm3, hdn3⟩ hN2 => ?_)
              (fun δ S' ⟨kv2, w2, a8, hδ, st3, inv3, hak3, hm3, hdn3⟩ => ?_)
            · subst hδ
              rw [List.getElem?_map, Option.map_eq_some_iff] at hd2
              obtain ⟨o, ho, rfl⟩ := hd2
              have hot := List.mem_of_getElem? ho
              have next3 : ∀ kv3, (∀ y ∈ ksV kv2, y ∈ ksV kv3) → o ∈ ksV kv3 → ∀ x ∈ (takers R d).take (t + 1), x ∈ ksV kv3 := fun kv3 hsub ho3 x hx => by
                rw [List.take_add_one, ho] at hx
                rcases List.mem_append.mp hx with z | z
                · exact hsub x (hdn3 x z)
                · simp at z; subst z; exact ho3
              simp_arith only [inX, st3.v, hasK_dV]
              by_cases hov : o ∈ ksV kv2
              · simp_arith only [decide_eq_true hov]
                exact hN2 _ _ ⟨kv2, w2, _, rfl, st3, inv3, hak3, hm3, next3 kv2 (fun _ h => h) hov⟩
              · simp_arith only [decide_eq_false hov, st3.v]
                have hmo := mem_takers.mp hot
                have inv4 := inv3.other hov (by omega) hmo.2 (List.mem_append_right _ (by simp)) hak3
                refine ⟨by rw [dV_len]; have := inv3.few; omega, ?_⟩
                rw [putD_new (by rw [hasK_dV]; simpa using hov), show Dat.int d = viaD (some d) from rfl, dV_snoc]
                have st4 : St S (supd S' pv (.dct (dV (kv2 ++ [(o, some d)])))) pb pv pw (kb' ++ [(d, a)]) (kv2 ++ [(o, some d)]) w2 := st3.setV
                generalize supd S' pv (.dct (dV (kv2 ++ [(o, some d)]))) = S6 at st4
                simp_arith only [st4.w]
                have h5 := inv4.few
                rw [List.length_append] at h5
                simp at h5
                refine ⟨by rw [List.length_map]; omega, ?_⟩
                have e6 : (w2.map fun (i : Nat) => Dat.int i) ++ [Dat.int o] = (w2 ++ [o]).map fun (i : Nat) => Dat.int i := by simp
                rw [e6]
                refine hN2 _ _ ⟨kv2 ++ [(o, some d)], w2 ++ [o], _, rfl, st4.setW, inv4, ?_, ?_, ?_⟩
                · show a ∈ (kv2 ++ _).map _; rw [List.map_append]; exact List.mem_append_left _ hak3
                · rw [List.length_append, List.length_append]; simp only [List.length_cons, List.length_nil]; omega
                · refine next3 _ (fun y hy => ?_) ?_
                  · show y ∈ (kv2 ++ _).map _; rw [List.map_append]; exact List.mem_append_left _ hy
                  · show o ∈ (kv2 ++ _).map _; rw [List.map_append]; exact List.mem_append_right _ (by simp)
            · subst hδ
              rw [List.length_map, List.take_length] at hdn3
              refine hN _ _ ⟨kb' ++ [(d, a)], kv2, w2, _, _, rfl, st3, inv3.dayEnd hdn3, hak3, hm3, next _ (fun y hy => ?_) (.inr ?_)⟩
              · show y ∈ (kb' ++ _).map _; rw [List.map_append]; exact List.mem_append_left _ hy
              · show d ∈ (kb' ++ _).map _; rw [List.map_append]; exact List.mem_append_right _ (by simp)
      · subst hδ
        rw [List.length_map, List.take_length] at hdn
        exact ⟨_, by omega, kb', kv', w', _, _, _, rfl, st', inv'.askEnd hdn, rfl, by omega⟩
end DL
/-! k85: what each def does. -/
namespace DL
open PySem PySem.Spec PyProof.Rows L2 K85
local macro_rules
  | `(tactic| simp_arith only [$xs,*]) => `(tactic| simp only [wpSs, wpS, wpX, wpSrc, wpXs, wpA, wpO, wpC, wpB, bindTg, bindTgs, slotsT, slotsTs, wipeD, settle, opBlt, getSq, getL, getI, getB, getD, x1, asRef, atL, opMth, mthOk, opBin, opAdd, opAug, opCmp, opIx, opIxn, opIxm, opSl, opSet, isTy, truthX, srcX, srcE, keyOf, isNonX, if_true, if_false, reduceCtorEq, Bool.false_eq_true, Bool.not_true, Bool.not_false, Bool.true_eq_false, and_true, true_and, List.getElem?_cons_zero, List.getElem?_cons_succ, List.set_cons_zero, List.set_cons_succ, List.map_cons, List.map_nil, List.length_cons, List.length_nil, List.cons_append, List.nil_append, List.replicate_succ, List.replicate_zero, Nat.add_one_sub_one, Nat.reduceAdd, Nat.reduceSub, Nat.zero_add, Nat.sub_zero, startD, $xs,*])
local macro_rules
  | `(tactic| simp_arith [$xs,*]) => `(tactic| simp only [DL.wpSs_nil, wpS, wpX, wpSrc, wpXs, wpA, wpO, wpC, wpB, bindTg, bindTgs, slotsT, slotsTs, wipeD, settle, opBlt, getSq, getL, getI, getB, getD, x1, asRef, atL, opMth, mthOk, opBin, opAdd, opAug, opCmp, opIx, opIxn, opIxm, opSl, opSet, isTy, truthX, srcX, srcE, keyOf, isNonX, if_true, if_false, reduceCtorEq, Bool.false_eq_true, Bool.not_true, Bool.not_false, Bool.true_eq_false, and_true, true_and, List.getElem?_cons_zero, List.getElem?_cons_succ, List.set_cons_zero, List.set_cons_succ, List.map_cons, List.map_nil, List.length_cons, List.length_nil, List.cons_append, List.nil_append, List.replicate_succ, List.replicate_zero, Nat.add_one_sub_one, Nat.reduceAdd, Nat.reduceSub, Nat.zero_add, Nat.sub_zero, startD, $xs,*])
/-! ### lengthened -/
theorem eqX_int {S : Sto} {a b : Int} {k : Bool → Prop} (h : k (decide (a = b))) : eqX (.d (.int a)) (.d (.int b)) S k := by
  refine ⟨okD_int a, okD_int b, ?_⟩
  have := eqD_int a b
  unfold eqD at this
  show k _
  rw [this]; exact h
theorem Shr.other {S : Sto} {f : Addr} {rs : List Addr} {R : List (List Int)} {a : Addr} {o : MO} (h : Shr S f rs R) (h1 : a ≠ f) (h2 : a ∉ rs) : Shr (supd S a o) f rs R :=
  ⟨by rw [supd_ne h1.symm]; exact h.top, h.len, fun i r l e1 e2 => by rw [supd_ne (by intro z; subst z; exact h2 (List.mem_of_getElem? e1))]; exact h.row i r l e1 e2, h.nd, h.ne⟩
theorem find_int {l : List Int} {d : Int} (h : d ∈ l) : ∃ j, (l.map Dat.int).findIdx? (fun z => eqD z (.int d)) = some j ∧ (l.map Dat.int).eraseIdx j = (l.erase d).map Dat.int := by
  induction l with
  | nil => cases h
  | cons x l ih =>
    by_cases e : x = d
    · subst e
      exact ⟨0, by simp [List.findIdx?_cons, eqD_int], by simp⟩
    · obtain ⟨j, h1, h2⟩ := ih ((List.mem_cons.mp h).resolve_left (Ne.symm e))
      refine ⟨j + 1, ?_, ?_⟩
      · rw [List.map_cons, List.findIdx?_cons, eqD_int, decide_eq_false e]
        simp [h1]
      · rw [List.map_cons, List.eraseIdx_cons_succ, h2, List.erase_cons_tail (by simpa using e), List.map_cons]
theorem ints_at {c : List Int} {d : Int} (h : InR c d) : atI (c.map Dat.int) d = some (.int (cap c d)) := by
  have e := cap_get h
  have e2 : (c.map Dat.int)[d.toNat]? = some (.int (cap c d)) := by rw [List.getElem?_map, e]; rfl
  have := atI_nat e2
  rwa [show ((d.toNat : Nat) : Int) = d from by have := h.1; omega] at this
structure Bnd (c : List Int) (ws : List Want) : Prop where
  n : ws.length ≤ 1000
  inr : ∀ i, ∀ d ∈ own ws i, InR c d
  own : ∀ i, (own ws i).length ≤ 1000
  c : c.length ≤ 60
def sp_lengthened : DSp := fun ds S q _ => ∃ c ws f rs R ask, ds = [intsD c, wantsD ws, .ref f, .int (ask : Nat)] ∧ Shr S f rs R ∧ Alloc c ws R ∧ ask < ws.length ∧ ((rowAt R ask).length : Int) < dem ws ask ∧ Bnd c ws ∧
  (¬ HasPlan c ws → q (.d (.bl false)) S) ∧
  ∀ R' S', Shr S' f rs R' → (∀ a, a ∉ rs → S' a = S a) → Alloc c ws R' → (∀ o, o ≠ ask → (rowAt R' o).length = (rowAt R o).length) → (rowAt R' ask).length = (rowAt R ask).length + 1 → q (.d (.bl true)) S'
theorem rows_short {c : List Int} {ws : List Want} {R : List (List Int)} (al : Alloc c ws R) (b : Bnd c ws) (i : Nat) : (rowAt R i).length ≤ 1000 :=
  Nat.le_trans (nodup_len (al.nd i) (al.sub i)) (b.own i)
open Classical in
theorem w_lengthened {ds S q e} (h : sp_lengthened ds S q e) : bodyW (b_lengthened sp_searched sp_takers) N_lengthened 4 ds S q e := by
  obtain ⟨c, ws, f, rs, R, ask, rfl, sh, al, hask, hshort, bd, hno, hyes⟩ := h
  have s1000 : 3000 < sizeLine := by rw [sizeLine_eq]; omega
  have hRl : R.length = ws.length := al.len
  refine ⟨rfl, ?_⟩
  unfold b_lengthened N_lengthened
  refine wp_step fun N1 hN1 => ?_
  simp_arith []
  refine ⟨by omega, fun pl npl => ?_⟩
  refine ⟨ws, f, rs, R, pl, [ask], c, rfl, sh.sub (.new npl), by rw [supd_same]; rfl, hRl, bd.n, by simp, by simpa using hask, bd.inr, by have := bd.c; omega, bd.own, fun pb pv kb kv S1 hs1 npb npv e1 e2 inv => ?_⟩
  have subS : Sub S S1 := (Sub.new npl).trans hs1
  have nb : S pb = none := (Sub.new npl).non _ npb
  have nv : S pv = none := (Sub.new npl).non _ npv
  have sh1 := sh.sub subS
  have pbf : pb ≠ f := fun z => by rw [z, sh.top] at nb; cases nb
  have frs : ∀ r ∈ rs, S r ≠ none := fun r hr z => by
    obtain ⟨i, hi⟩ := List.getElem?_of_mem hr
    have hl : i < R.length := by rw [← sh.len]; exact (List.getElem?_eq_some_iff.mp hi).1
    obtain ⟨r', h1, h2⟩ := sh.get hl
    rw [hi] at h1; cases h1
    rw [z] at h2; cases h2
  have pbr : pb ∉ rs := fun z => frs pb z nb
  have pvr : pv ∉ rs := fun z => frs pv z nv
  simp_arith []
  refine hN1 _ _ (wp_step fun N2 hN2 => ?_)
  clear hN1 N1
  simp_arith [intsD, wantsD, e1]
  refine ⟨by rw [dB_len]; have := inv.fewB; have := bd.c; omega, ?_⟩
  refine compW_pure trivial (fun x => match x with | .int d => if ((takers R d).length : Int) < cap c d then some (.int d) else none | _ => none) _ _ _ (fun x hx k hk => ?_) ?_
  · obtain ⟨kvp, hkv, rfl⟩ := List.mem_map.mp hx
    obtain ⟨p, hp, rfl⟩ := List.mem_map.mp hkv
    have hin := (inv.by_ p.1 p.2 hp).2.2.2
    simp_arith [keyD]
    refine ⟨f, rs, R, p.1, rfl, sh1.other pbf pbr, by rw [hRl]; exact bd.n, ?_⟩
    simp_arith [List.length_map, ints_at hin]
    by_cases ht : ((takers R p.1).length : Int) < cap c p.1
    · simp_arith [decide_eq_true ht]
      simp only [keyD, if_pos ht] at hk; exact hk
    · simp_arith [decide_eq_false ht]
      simp only [keyD, if_neg ht] at hk; exact hk
  · simp_arith [supd_supd, supd_self e1]
    have efr : ((dB kb).map fun kv => keyD kv.1).filterMap (fun x => match x with | .int d => if ((takers R d).length : Int) < cap c d then some (Dat.int d) else none | _ => none) = ((ksB kb).filter fun d => decide (((takers R d).length : Int) < cap c d)).map Dat.int := by
      clear inv e1
      induction kb with
      | nil => rfl
      | cons p kb ih =>
        show List.filterMap _ (Dat.int p.1 :: ((dB kb).map fun kv => keyD kv.1)) = _
        show _ = List.map _ (List.filter _ (p.1 :: ksB kb))
        rw [List.filter_cons]
        by_cases ht : ((takers R p.1).length : Int) < cap c p.1
        · rw [List.filterMap_cons_some (b := Dat.int p.1) (by simp only [if_pos ht]), ih, if_pos (by simpa using ht)]; rfl
        · rw [List.filterMap_cons_none (by simp only [if_neg ht]), ih, if_neg (by simpa using ht)]
    rw [efr]
    generalize hfr : ((ksB kb).filter fun d => decide (((takers R d).length : Int) < cap c d)) = fr
    intro pf npf
    have sub2 : Sub S (supd S1 pf (.lst (fr.map Dat.int))) := subS.newOf npf
    have e12 : (supd S1 pf (.lst (fr.map Dat.int))) pb = some (.dct (dB kb)) := Sub.new npf _ _ e1
    have e22 : (supd S1 pf (.lst (fr.map Dat.int))) pv = some (.dct (dV kv)) := Sub.new npf _ _ e2
    have e32 : (supd S1 pf (.lst (fr.map Dat.int))) pf = some (.lst (fr.map Dat.int)) := supd_same
    have npf2 : S pf = none := subS.non _ npf
    have pfr : pf ∉ rs := fun z => frs pf z npf2
    generalize supd S1 pf (.lst (fr.map Dat.int)) = S2 at sub2 e12 e22 e32
    have sh2 := sh.sub sub2
    refine hN2 _ _ (wp_step fun N3 hN3 => ?_)
    clear hN2 N2
    simp_arith []
    refine ⟨by omega, eqX_nil e32 ?_⟩
    cases fr with
    | nil =>
      simp_arith [List.isEmpty_nil]
      refine wp_step fun N4 hN4 => ?_
      simp_arith []
      refine ⟨S, sub2, hno (inv.none_left al hshort fun d hd ht => ?_)⟩
      have : d ∈ (ksB kb).filter fun d => decide (((takers R d).length : Int) < cap c d) := List.mem_filter.mpr ⟨hd, by simpa using ht⟩
      rw [hfr] at this; cases this
    | cons d0 fr =>
      have hd0 : d0 ∈ ksB kb ∧ ((takers R d0).length : Int) < cap c d0 := by
        have : d0 ∈ (ksB kb).filter fun d => decide (((takers R d).length : Int) < cap c d) := by rw [hfr]; exact List.mem_cons_self
        rw [List.mem_filter] at this
        exact ⟨this.1, by simpa using this.2⟩
      obtain ⟨a, ha⟩ := mem_ksB.mp hd0.1
      simp_arith [List.isEmpty_cons]
      refine hN3 _ _ (wp_step fun N4 hN4 => ?_)
      simp_arith [List.map_cons, e32]
      refine hN4 _ _ (wp_step fun N5 hN5 => ?_)
      simp_arith [e12, lookK_dB inv.kbnd ha]
      refine hN5 _ _ (wp_step fun N6 hN6 => ?_)
      clear hN3 N3 hN4 N4 hN5 N5
      have hal : a < R.length := by rw [hRl]; exact inv.kvn a (inv.by_ d0 a ha).1
      obtain ⟨r, h1, h2⟩ := sh2.get hal
      have h3 : (rs.map Dat.ref)[a]? = some (.ref r) := by rw [List.getElem?_map, h1]; rfl
      simp_arith [sh2.top, atI_nat h3, h2]
      have hrow := rows_short al bd a
      refine ⟨by rw [List.length_map]; omega, ?_⟩
      have em : ((rowAt R a).map Dat.int) ++ [Dat.int d0] = (rowAt R a ++ [d0]).map Dat.int := by simp
      rw [em]
      have hrm : r ∈ rs := List.mem_of_getElem? h1
      obtain ⟨pre, aug⟩ := Aug.start inv al ha
      -- the way back
      refine hN6 _ _ (wp_step fun N7 hN7 => ?_)
      clear hN6 N6
      simp_arith []
      refine ⟨fun m δ S' => ∃ R' pre a d, δ = [some (.tup (c.map Dat.int)), some (.tup (ws.map wantD)), some (.ref f), some (.int (ask : Nat)), some (.ref pf), some (.int d), some (.int (a : Nat)), some (.ref pb), some (.ref pv)] ∧ Shr S' f rs R' ∧ Aug c ws R R' kv d0 pre a ∧
          S' pb = some (.dct (dB kb)) ∧ S' pv = some (.dct (dV kv)) ∧ (∀ b o, b ∉ rs → S b = some o → S' b = some o) ∧ m = pre.length,
        ⟨_, _, pre, a, d0, rfl, sh2.set h1, aug, by rw [supd_ne (fun z => pbr (by rw [z]; exact hrm))]; exact e12, by rw [supd_ne (fun z => pvr (by rw [z]; exact hrm))]; exact e22, fun b o hb ho => by rw [supd_ne (fun z => hb (by rw [z]; exact hrm))]; exact sub2 b o ho, rfl⟩, ?_⟩
      rintro m δ S' ⟨R', pre, a, d, rfl, sh', aug, eb, ev, ext, rfl⟩
      simp_arith []
      refine eqX_int ?_
      by_cases hne : (a : Int) = ask
      · have hne : a = ask := by omega
        subst hne
        simp_arith [decide_true]
        refine hN7 _ _ (wp_step fun N8 hN8 => ?_)
        simp_arith []
        obtain ⟨al', sz, sz2⟩ := aug.done al hshort hd0.2
        refine ⟨fun b => if b ∈ rs then S' b else S b, fun b o ho => ?_, hyes R' _ ⟨?_, sh'.len, fun i r l x y => ?_, sh'.nd, sh'.ne⟩ (fun b hb => if_neg hb) al' sz sz2⟩
        · by_cases hb : b ∈ rs
          · simp only [if_pos hb] at ho; exact ho
          · simp only [if_neg hb] at ho; exact ext b o hb ho
        · show (if f ∈ rs then S' f else S f) = _
          rw [if_neg sh.ne]; exact sh.top
        · show (if r ∈ rs then S' r else S r) = _
          rw [if_pos (List.mem_of_getElem? x)]; exact sh'.row i r l x y
      · simp_arith [decide_eq_false hne]
        refine wp_step fun M1 hM1 => ?_
        obtain ⟨d', b, pre', hv, hb, hal, hbl, hd', hlt, hr1, aug'⟩ := aug.step inv al (fun z => hne (by rw [z]))
        simp_arith [ev, lookK_dV inv.kvnd hv, viaD]
        refine hM1 _ _ (wp_step fun M2 hM2 => ?_)
        obtain ⟨r1, g1, g2⟩ := sh'.get hal
        have g3 : (rs.map Dat.ref)[a]? = some (.ref r1) := by rw [List.getElem?_map, g1]; rfl
        have hr1m : r1 ∈ rs := List.mem_of_getElem? g1
        simp_arith [sh'.top, atI_nat g3, g2]
        refine ⟨okD_int d', okDL_ints _, ?_⟩
        obtain ⟨j, f1, f2⟩ := find_int hd'
        rw [f1]
        simp only []
        rw [f2]
        have sh3 : Shr (supd S' r1 (.lst (((rowAt R' a).erase d').map Dat.int))) f rs (R'.set a ((rowAt R' a).erase d')) := sh'.set g1
        have eb3 : (supd S' r1 (.lst (((rowAt R' a).erase d').map Dat.int))) pb = some (.dct (dB kb)) := by rw [supd_ne (fun z => pbr (by rw [z]; exact hr1m))]; exact eb
        have ev3 : (supd S' r1 (.lst (((rowAt R' a).erase d').map Dat.int))) pv = some (.dct (dV kv)) := by rw [supd_ne (fun z => pvr (by rw [z]; exact hr1m))]; exact ev
        have ext3 : ∀ b o, b ∉ rs → S b = some o → (supd S' r1 (.lst (((rowAt R' a).erase d').map Dat.int))) b = some o := fun b o hb ho => by rw [supd_ne (fun z => hb (by rw [z]; exact hr1m))]; exact ext b o hb ho
        generalize supd S' r1 (.lst (((rowAt R' a).erase d').map Dat.int)) = S4 at sh3 eb3 ev3 ext3
        refine hM2 _ _ (wp_step fun M3 hM3 => ?_)
        simp_arith [eb3, lookK_dB inv.kbnd hb]
        refine hM3 _ _ (wp_step fun M4 hM4 => ?_)
        obtain ⟨r2, k1, k2⟩ := sh3.get (i := b) (by rw [List.length_set]; exact hbl)
        have k3 : (rs.map Dat.ref)[b]? = some (.ref r2) := by rw [List.getElem?_map, k1]; rfl
        have hr2m : r2 ∈ rs := List.mem_of_getElem? k1
        rw [hr1] at k2
        simp_arith [sh3.top, atI_nat k3, k2]
        have hl2 : (rowAt R' b).length ≤ 1000 := Nat.le_trans (nodup_len (aug.nd b) (aug.sub b)) (bd.own b)
        refine ⟨by rw [List.length_map]; omega, ?_⟩
        have em2 : ((rowAt R' b).map Dat.int) ++ [Dat.int d'] = (rowAt R' b ++ [d']).map Dat.int := by simp
        rw [em2]
        refine hM4 _ _ ?_
        simp_arith []
        exact ⟨_, hlt, _, pre', b, d', rfl, sh3.set k1, aug', by rw [supd_ne (fun z => pbr (by rw [z]; exact hr2m))]; exact eb3, by rw [supd_ne (fun z => pvr (by rw [z]; exact hr2m))]; exact ev3, fun x o hx ho => by rw [supd_ne (fun z => hx (by rw [z]; exact hr2m))]; exact ext3 x o hx ho, rfl⟩
end DL
/-! k85: what each def does. -/
namespace DL
open PySem PySem.Spec PyProof.Rows L2 K85
local macro_rules
  | `(tactic| simp_arith only [$xs,*]) => `(tactic| simp only [wpSs, wpS, wpX, wpSrc, wpXs, wpA, wpO, wpC, wpB, bindTg, bindTgs, slotsT, slotsTs, wipeD, settle, opBlt, getSq, getL, getI, getB, getD, x1, asRef, atL, opMth, mthOk, opBin, opAdd, opAug, opCmp, opIx, opIxn, opIxm, opSl, opSet, isTy, truthX, srcX, srcE, keyOf, isNonX, if_true, if_false, reduceCtorEq, Bool.false_eq_true, Bool.not_true, Bool.not_false, Bool.true_eq_false, and_true, true_and, List.getElem?_cons_zero, List.getElem?_cons_succ, List.set_cons_zero, List.set_cons_succ, List.map_cons, List.map_nil, List.length_cons, List.length_nil, List.cons_append, List.nil_append, List.replicate_succ, List.replicate_zero, Nat.add_one_sub_one, Nat.reduceAdd, Nat.reduceSub, Nat.zero_add, Nat.sub_zero, startD, $xs,*])
local macro_rules
  | `(tactic| simp_arith [$xs,*]) => `(tactic| simp only [DL.wpSs_nil, wpS, wpX, wpSrc, wpXs, wpA, wpO, wpC, wpB, bindTg, bindTgs, slotsT, slotsTs, wipeD, settle, opBlt, getSq, getL, getI, getB, getD, x1, asRef, atL, opMth, mthOk, opBin, opAdd, opAug, opCmp, opIx, opIxn, opIxm, opSl, opSet, isTy, truthX, srcX, srcE, keyOf, isNonX, if_true, if_false, reduceCtorEq, Bool.false_eq_true, Bool.not_true, Bool.not_false, Bool.true_eq_false, and_true, true_and, List.getElem?_cons_zero, List.getElem?_cons_succ, List.set_cons_zero, List.set_cons_succ, List.map_cons, List.map_nil, List.length_cons, List.length_nil, List.cons_append, List.nil_append, List.replicate_succ, List.replicate_zero, Nat.add_one_sub_one, Nat.reduceAdd, Nat.reduceSub, Nat.zero_add, Nat.sub_zero, startD, $xs,*])
/-! ### filled .. plan_of -/
theorem intsOf_ints : ∀ l : List Int, intsOf (l.map Dat.int) = some l
  | [] => rfl
  | x :: l => by rw [List.map_cons, intsOf, intsOf_ints l]; rfl
theorem sortable_ints (l : List Int) : sortable (l.map Dat.int) := by
  refine ⟨okDL_ints l, ?_, .inr ?_⟩
  · rw [toPyL_ints]
    intro d hd d' hd'
    obtain ⟨x, _, rfl⟩ := List.mem_map.mp hd
    obtain ⟨y, _, rfl⟩ := List.mem_map.mp hd'
    rfl
  · rw [toPyL_ints]
    intro d hd
    obtain ⟨x, _, rfl⟩ := List.mem_map.mp hd
    exact ⟨(fun z => by cases z), (fun xs z => by cases z)⟩
theorem kvInts_dB : ∀ kb : List (Int × Nat), kvInts (dB kb) = some (ksB kb)
  | [] => rfl
  | p :: kb => by
    show kvInts ((.inl p.1, .int p.2) :: dB kb) = _
    rw [kvInts, kvInts_dB kb]; rfl
theorem getB_bl (b : Bool) (k : Bool → Prop) : getB (.d (.bl b)) k = k b := rfl
def sp_filled : DSp := fun ds S q _ => ∃ c ws p, ds = [intsD c, wantsD ws, .ref p] ∧ S p = some (.lst (List.replicate ws.length (.tup []))) ∧ Okc c ∧ Bnd c ws ∧ (∀ i, i < ws.length → 0 ≤ dem ws i) ∧
  ∀ f rs R S', Sub S S' → Shr S' f rs R → Alloc c ws R → (∀ i, i < ws.length → ((rowAt R i).length : Int) = dem ws i ∨ ¬ HasPlan c ws) → q (.d (.ref f)) S'
theorem Shr.news {S S' : Sto} {f : Addr} {rs : List Addr} {R : List (List Int)} (sh : Shr S' f rs R) (nf : S f = none) (nr : ∀ r ∈ rs, S r = none) {S2 : Sto} (h : ∀ a, a ∉ rs → S2 a = S' a) (s : Sub S S') : Sub S S2 := fun a o e => by
  rw [h a (fun z => by rw [nr a z] at e; cases e)]; exact s a o e
theorem w_filled {ds S q e} (h : sp_filled ds S q e) : bodyW (b_filled sp_lengthened) N_filled 3 ds S q e := by
  obtain ⟨c, ws, p, rfl, hp, hc, bd, hdem, hq⟩ := h
  have s1000 : 3000 < sizeLine := by rw [sizeLine_eq]; omega
  have hn := bd.n
  refine ⟨rfl, ?_⟩
  unfold b_filled N_filled
  refine wp_step fun N1 hN1 => ?_
  simp_arith [hp]
  refine ⟨by rw [List.length_replicate]; omega, ?_⟩
  refine compW_by (fun i acc S' => ∃ rs : List Addr, acc = rs.map .ref ∧ rs.length = i ∧ rs.Nodup ∧ (∀ r ∈ rs, S r = none) ∧ (∀ r ∈ rs, S' r = some (.lst [])) ∧ Sub S S') ⟨[], rfl, rfl, List.nodup_nil, by simp, by simp, .refl⟩ (fun i acc S' ⟨rs, _, _, _, _, _, s⟩ => s _ _ hp) (fun i d acc S' k hd ⟨rs, e1, e2, e3, e4, e5, e6⟩ hk => ?_) (fun acc S' ⟨rs, e1, e2, e3, e4, e5, e6⟩ => ?_)
  · have hd : d = .tup [] := List.eq_of_mem_replicate (List.mem_of_getElem? hd)
    subst hd
    simp_arith []
    intro r nr
    refine hk _ _ ⟨rs ++ [r], by rw [e1]; simp, by simp [e2], ?_, fun x hx => ?_, fun x hx => ?_, e6.newOf nr⟩
    · rw [List.nodup_append]
      refine ⟨e3, by simp, fun x hx y hy z => ?_⟩
      simp at hy; subst hy; subst z
      rw [e5 _ hx] at nr; cases nr
    · rcases List.mem_append.mp hx with z | z
      · exact e4 x z
      · simp at z; subst z; exact e6.non _ nr
    · rcases List.mem_append.mp hx with z | z
      · rw [supd_ne (by intro y; subst y; rw [e5 _ z] at nr; cases nr)]; exact e5 x z
      · simp at z; subst z; exact supd_same
  · subst e1
    rw [List.length_replicate] at e2
    intro f nf
    have hfr : f ∉ rs := fun z => by rw [e5 f z] at nf; cases nf
    have sh : Shr (supd S' f (.lst (rs.map .ref))) f rs (List.replicate ws.length []) :=
      ⟨supd_same, by rw [List.length_replicate]; exact e2, (fun i r l a b => by
        rw [List.getElem?_replicate] at b
        split at b
        · cases b
          have hr := List.mem_of_getElem? a
          rw [supd_ne (by intro y; subst y; exact hfr hr)]; exact e5 r hr
        · cases b), e3, hfr⟩
    have sub0 : Sub S (supd S' f (.lst (rs.map .ref))) := e6.newOf nf
    have nfS : S f = none := e6.non _ nf
    generalize supd S' f (.lst (rs.map .ref)) = S1 at sh sub0
    refine hN1 _ _ (wp_step fun N2 hN2 => ?_)
    clear hN1 N1
    simp_arith [intsD, wantsD, List.length_map, Int.toNat_natCast]
    refine ⟨by omega, by omega, ?_⟩
    refine forW_by (fun k δ S' => ∃ R a4 a5 a6, δ = [some (.tup (c.map Dat.int)), some (.tup (ws.map wantD)), some (.ref p), some (.ref f), a4, a5, a6] ∧ Shr S' f rs R ∧ Alloc c ws R ∧ (∀ i, i < k → i < ws.length → ((rowAt R i).length : Int) = dem ws i ∨ ¬ HasPlan c ws) ∧ Sub S S')
      ⟨_, _, _, _, rfl, sh, alloc_start hc hdem, fun i hi => by omega, sub0⟩ (fun _ _ _ _ => trivial) (fun k d δ S' N hd ⟨R, a4, a5, a6, hδ, sh', al, hdone, sub'⟩ hN => ?_) (fun δ S' ⟨R, a4, a5, a6, hδ, sh', al, hdone, sub'⟩ => ?_)
    · subst hδ
      rw [List.getElem?_map, Option.map_eq_some_iff] at hd
      obtain ⟨k', hk, rfl⟩ := hd
      obtain ⟨hkl, hk⟩ := List.getElem?_eq_some_iff.mp hk
      rw [List.getElem_range] at hk
      subst hk
      rw [List.length_range] at hkl
      simp_arith []
      refine wp_step fun M1 hM1 => ?_
      simp_arith []
      refine hM1 _ _ (wp_step fun M2 hM2 => ?_)
      simp_arith []
      refine ⟨fun m δ S' => ∃ R g a6, δ = [some (.tup (c.map Dat.int)), some (.tup (ws.map wantD)), some (.ref p), some (.ref f), some (.int (k : Nat)), some (.bl g), a6] ∧ Shr S' f rs R ∧ Alloc c ws R ∧ (∀ i, i < k → i < ws.length → ((rowAt R i).length : Int) = dem ws i ∨ ¬ HasPlan c ws) ∧ Sub S S' ∧ (g = false → ¬ HasPlan c ws) ∧ m = (if g then 1 else 0) + (dem ws k - (rowAt R k).length).toNat,
        ⟨_, R, true, _, rfl, sh', al, hdone, sub', (by intro z; cases z), rfl⟩, ?_⟩
      rintro m δ S' ⟨R, g, a6, rfl, sh', al, hdone, sub', hg, rfl⟩
      simp_arith []
      have stop : (((rowAt R k).length : Int) = dem ws k ∨ ¬ HasPlan c ws) → N [some (.tup (c.map Dat.int)), some (.tup (ws.map wantD)), some (.ref p), some (.ref f), some (.int (k : Nat)), some (.bl g), a6] S' := fun h => hN _ _ ⟨R, _, _, _, rfl, sh', al, fun i hi hi2 => by
          by_cases e : i = k
          · subst e; exact h
          · exact hdone i (by omega) hi2, sub'⟩
      cases g with
      | false =>
        simp_arith []
        refine hM2 _ _ ?_
        simp_arith []
        exact stop (.inr (hg rfl))
      | true =>
        have hkR : k < R.length := by rw [al.len]; exact hkl
        obtain ⟨r, h1, h2⟩ := sh'.get hkR
        have h3 : (rs.map Dat.ref)[k]? = some (.ref r) := by rw [List.getElem?_map, h1]; rfl
        simp_arith [sh'.top, atI_nat h3, h2, atI_nat (wants_at hkl), List.length_map]
        by_cases hlt : ((rowAt R k).length : Int) < dem ws k
        · simp_arith [decide_eq_true hlt]
          refine wp_step fun M3 hM3 => ?_
          simp_arith []
          refine ⟨c, ws, f, rs, R, k, rfl, sh', al, hkl, hlt, bd, fun hno => ?_, fun R' S2 sh2 hout al2 hsz hk2 => ?_⟩
          · refine hM3 _ _ ?_
            simp_arith []
            exact ⟨_, by simp only [Bool.false_eq_true, if_false, if_true]; omega, R, false, _, rfl, sh', al, hdone, sub', fun _ => hno, rfl⟩
          · refine hM3 _ _ ?_
            simp_arith []
            refine ⟨_, ?_, R', true, _, rfl, sh2, al2, fun i hi hi2 => ?_, sh'.news nfS e4 hout sub', (by intro z; cases z), rfl⟩
            · rw [hk2]; simp only [if_true]; omega
            · rw [hsz i (by omega)]; exact hdone i hi hi2
        · simp_arith [decide_eq_false hlt]
          refine hM2 _ _ ?_
          simp_arith []
          have := al.size k hkl
          exact stop (.inl (by omega))
    · subst hδ
      rw [List.length_map, List.length_range] at hdone
      refine hN2 _ _ (wp_step fun M1 hM1 => ?_)
      simp_arith []
      exact ⟨S', .refl, hq f rs R S' sub' sh' al fun i hi => hdone i hi hi⟩
end DL
/-! k85: what each def does. -/
namespace DL
open PySem PySem.Spec PyProof.Rows L2 K85
local macro_rules
  | `(tactic| simp_arith only [$xs,*]) => `(tactic| simp only [wpSs, wpS, wpX, wpSrc, wpXs, wpA, wpO, wpC, wpB, bindTg, bindTgs, slotsT, slotsTs, wipeD, settle, opBlt, getSq, getL, getI, getB, getD, x1, asRef, atL, opMth, mthOk, opBin, opAdd, opAug, opCmp, opIx, opIxn, opIxm, opSl, opSet, isTy, truthX, srcX, srcE, keyOf, isNonX, if_true, if_false, reduceCtorEq, Bool.false_eq_true, Bool.not_true, Bool.not_false, Bool.true_eq_false, and_true, true_and, List.getElem?_cons_zero, List.getElem?_cons_succ, List.set_cons_zero, List.set_cons_succ, List.map_cons, List.map_nil, List.length_cons, List.length_nil, List.cons_append, List.nil_append, List.replicate_succ, List.replicate_zero, Nat.add_one_sub_one, Nat.reduceAdd, Nat.reduceSub, Nat.zero_add, Nat.sub_zero, startD, $xs,*])
local macro_rules
  | `(tactic| simp_arith [$xs,*]) => `(tactic| simp only [DL.wpSs_nil, wpS, wpX, wpSrc, wpXs, wpA, wpO, wpC, wpB, bindTg, bindTgs, slotsT, slotsTs, wipeD, settle, opBlt, getSq, getL, getI, getB, getD, x1, asRef, atL, opMth, mthOk, opBin, opAdd, opAug, opCmp, opIx, opIxn, opIxm, opSl, opSet, isTy, truthX, srcX, srcE, keyOf, isNonX, if_true, if_false, reduceCtorEq, Bool.false_eq_true, Bool.not_true, Bool.not_false, Bool.true_eq_false, and_true, true_and, List.getElem?_cons_zero, List.getElem?_cons_succ, List.set_cons_zero, List.set_cons_succ, List.map_cons, List.map_nil, List.length_cons, List.length_nil, List.cons_append, List.nil_append, List.replicate_succ, List.replicate_zero, Nat.add_one_sub_one, Nat.reduceAdd, Nat.reduceSub, Nat.zero_add, Nat.sub_zero, startD, $xs,*])
theorem filterMap_zip {f : Dat → Option Dat} {g : List Int → Dat} : ∀ {rs : List Addr} {R : List (List Int)}, rs.length = R.length → (∀ (i : Nat) (r : Addr) (l : List Int), rs[i]? = some r → R[i]? = some l → f (.ref r) = some (g l)) → (rs.map Dat.ref).filterMap f = R.map g
  | [], [], _, _ => rfl
  | r :: rs, l :: R, h, hf => by
    rw [List.map_cons, List.filterMap_cons_some (hf 0 r l rfl rfl), filterMap_zip (by simpa using h) (fun i r l a b => hf (i + 1) r l (by simpa using a) (by simpa using b)), List.map_cons]
  | [], _ :: _, h, _ => by simp at h
  | _ :: _, [], h, _ => by simp at h
def sp_rows_of : DSp := fun ds S q _ => ∃ f rs R, ds = [.ref f] ∧ Shr S f rs R ∧ R.length ≤ 1000 ∧ ∀ l, q (.d (.tup l)) S
theorem w_rows_of {ds S q e} (h : sp_rows_of ds S q e) : bodyW b_rows_of N_rows_of 1 ds S q e := by
  obtain ⟨f, rs, R, rfl, sh, hl, hq⟩ := h
  refine ⟨rfl, ?_⟩
  unfold b_rows_of N_rows_of
  refine wp_step fun N1 hN1 => ?_
  simp_arith [sh.top]
  refine ⟨by rw [List.length_map, sh.len, sizeLine_eq]; omega, ?_⟩
  refine compW_pure sh.top (fun x => match x with | .ref r => (match S r with | some (.lst ds) => some (.tup (sortD ds)) | _ => none) | _ => none) _ _ _ (fun x hx k hk => ?_) ⟨S, .refl, hq _⟩
  obtain ⟨r, hr, rfl⟩ := List.mem_map.mp hx
  obtain ⟨i, hi⟩ := List.getElem?_of_mem hr
  obtain ⟨r', h1, h2⟩ := sh.get (i := i) (by rw [← sh.len]; exact (List.getElem?_eq_some_iff.mp hi).1)
  rw [hi] at h1; cases h1
  simp_arith [h2]
  refine ⟨sortable_ints _, ?_⟩
  simp only [h2] at hk
  exact hk
def sp_many_in : DSp := fun ds S q _ => ∃ f rs R, ds = [.ref f] ∧ Shr S f rs R ∧ R.length ≤ 1000 ∧ q (.d (.int (R.map fun r => (r.length : Int)).sum)) S
theorem w_many_in {ds S q e} (h : sp_many_in ds S q e) : bodyW b_many_in N_many_in 1 ds S q e := by
  obtain ⟨f, rs, R, rfl, sh, hl, hq⟩ := h
  refine ⟨rfl, ?_⟩
  unfold b_many_in N_many_in
  refine wp_step fun N1 hN1 => ?_
  simp_arith [sh.top]
  refine ⟨by rw [List.length_map, sh.len, sizeLine_eq]; omega, ?_⟩
  refine compW_pure sh.top (fun x => match x with | .ref r => (match S r with | some (.lst ds) => some (.int ds.length) | _ => none) | _ => none) _ _ _ (fun x hx k hk => ?_) ?_
  · obtain ⟨r, hr, rfl⟩ := List.mem_map.mp hx
    obtain ⟨i, hi⟩ := List.getElem?_of_mem hr
    obtain ⟨r', h1, h2⟩ := sh.get (i := i) (by rw [← sh.len]; exact (List.getElem?_eq_some_iff.mp hi).1)
    rw [hi] at h1; cases h1
    simp_arith [h2]
    simp only [h2] at hk
    exact hk
  · rw [List.nil_append, filterMap_zip (g := fun l => Dat.int l.length) sh.len fun i r l a b => by simp only [sh.row i r l a b, List.length_map]]
    have e1 : R.map (fun l => Dat.int (l.length : Int)) = (R.map fun r => (r.length : Int)).map Dat.int := by rw [List.map_map]; rfl
    rw [e1, intsOf_ints]
    exact ⟨S, .refl, hq⟩
def sp_wanted_by : DSp := fun ds S q _ => ∃ ws, ds = [wantsD ws] ∧ ws.length ≤ 1000 ∧ q (.d (.int (ws.map (·.1)).sum)) S
theorem w_wanted_by {ds S q e} (h : sp_wanted_by ds S q e) : bodyW b_wanted_by N_wanted_by 1 ds S q e := by
  obtain ⟨ws, rfl, hl, hq⟩ := h
  refine ⟨rfl, ?_⟩
  unfold b_wanted_by N_wanted_by
  refine wp_step fun N1 hN1 => ?_
  simp_arith [wantsD]
  refine ⟨by rw [List.length_map, sizeLine_eq]; omega, ?_⟩
  refine compW_pure trivial (fun x => match x with | .tup (m :: _) => some m | _ => none) _ _ _ (fun x hx k hk => ?_) ?_
  · obtain ⟨w, hw, rfl⟩ := List.mem_map.mp hx
    simp_arith [wantD, intsD]
    exact hk
  · have e1 : (ws.map wantD).filterMap (fun x => match x with | .tup (m :: _) => some m | _ => none) = (ws.map (·.1)).map Dat.int := by
      clear hq hl
      induction ws with
      | nil => rfl
      | cons w ws ih =>
        show Dat.int w.1 :: List.filterMap (fun x => match x with | .tup (m :: _) => some m | _ => none) (ws.map wantD) = _
        rw [ih]; rfl
    rw [List.nil_append, e1, intsOf_ints]
    exact ⟨S, .refl, hq⟩
def sp_lot_by : DSp := fun ds S q _ => ∃ c ws f rs R, ds = [wantsD ws, .ref f] ∧ Shr S f rs R ∧ R.length = ws.length ∧ Bnd c ws ∧ ∀ l, q (.d (.tup l)) S
theorem w_lot_by {ds S q e} (h : sp_lot_by ds S q e) : bodyW (b_lot_by sp_searched) N_lot_by 2 ds S q e := by
  obtain ⟨c, ws, f, rs, R, rfl, sh, hR, bd, hq⟩ := h
  have hn := bd.n
  refine ⟨rfl, ?_⟩
  unfold b_lot_by N_lot_by
  refine wp_step fun N1 hN1 => ?_
  simp_arith [wantsD, List.length_map, Int.toNat_natCast]
  refine ⟨by omega, by omega, ?_⟩
  refine compW_pure trivial (fun x => match x with | .int i => if decide (((rowAt R i.toNat).length : Int) < dem ws i.toNat) then some (.int i) else none | _ => none) _ _ _ (fun x hx k hk => ?_) ?_
  · obtain ⟨i, hi, rfl⟩ := List.mem_map.mp hx
    rw [List.mem_range] at hi
    obtain ⟨r, h1, h2⟩ := sh.get (i := i) (by omega)
    have h3 : (rs.map Dat.ref)[i]? = some (.ref r) := by rw [List.getElem?_map, h1]; rfl
    simp_arith [sh.top, atI_nat h3, h2, atI_nat (wants_at hi), List.length_map]
    simp only [Int.toNat_natCast] at hk
    by_cases hlt : ((rowAt R i).length : Int) < dem ws i
    · simpa [hlt] using hk
    · simpa [hlt] using hk
  · rw [List.nil_append, filter_map_ints (fun i => decide (((rowAt R i).length : Int) < dem ws i)) (fun i => by simp)]
    generalize hbg : (List.range ws.length).filter (fun i => decide (((rowAt R i).length : Int) < dem ws i)) = begun
    have hnd : begun.Nodup := by rw [← hbg]; exact List.nodup_range.filter _
    have hbl : ∀ o ∈ begun, o < ws.length := fun o ho => by rw [← hbg, List.mem_filter, List.mem_range] at ho; exact ho.1
    intro b nb
    refine hN1 _ _ (wp_step fun N2 hN2 => ?_)
    clear hN1 N1
    simp_arith []
    refine ⟨ws, f, rs, R, b, begun, c, rfl, sh.sub (.new nb), supd_same, hR, hn, hnd, hbl, bd.inr, by have := bd.c; omega, bd.own, fun pb pv kb kv S1 hs1 npb npv e1 e2 inv => ?_⟩
    simp_arith [e1, kvInts_dB]
    refine ⟨by have := inv.fewB; have := bd.c; simp only [ksB, List.length_map]; omega, S, (Sub.new nb).trans hs1, hq _⟩
def sp_most : DSp := fun ds S q _ => ∃ c ws, ds = [intsD c, wantsD ws] ∧ Okc c ∧ Bnd c ws ∧ (∀ i, i < ws.length → 0 ≤ dem ws i) ∧ ∀ n rows lot, (n = (ws.map (·.1)).sum ↔ HasPlan c ws) → q (.d (.tup [.int n, .tup rows, .tup lot])) S
theorem w_most {ds S q e} (h : sp_most ds S q e) : bodyW (b_most sp_filled sp_lot_by sp_rows_of sp_many_in) N_most 2 ds S q e := by
  obtain ⟨c, ws, rfl, hc, bd, hdem, hq⟩ := h
  have hn := bd.n
  refine ⟨rfl, ?_⟩
  unfold b_most N_most
  refine wp_step fun N1 hN1 => ?_
  simp_arith [wantsD, List.length_map]
  refine ⟨by rw [sizeLine_eq]; omega, ?_⟩
  refine compW_pure trivial (fun x => some (.tup [])) _ _ _ (fun x hx k hk => ⟨Nat.zero_le _, hk⟩) ?_
  have er : (ws.map wantD).filterMap (fun x => some (Dat.tup [])) = List.replicate ws.length (.tup []) := by
    clear hq hdem hn bd
    induction ws with
    | nil => rfl
    | cons w ws ih =>
      show Dat.tup [] :: List.filterMap (fun x => some (Dat.tup [])) (ws.map wantD) = _
      rw [ih]; rfl
  rw [List.nil_append, er]
  intro p np
  refine ⟨c, ws, p, rfl, supd_same, hc, bd, hdem, fun f rs R S1 hs sh al hfull => ?_⟩
  refine hN1 _ _ (wp_step fun N2 hN2 => ?_)
  clear hN1 N1
  simp_arith []
  have hRl := al.len
  refine ⟨f, rs, R, rfl, sh, by omega, ?_⟩
  simp_arith []
  refine ⟨f, rs, R, rfl, sh, by omega, fun rows => ?_⟩
  simp_arith []
  refine ⟨c, ws, f, rs, R, rfl, sh, hRl, bd, fun lot => ?_⟩
  simp_arith []
  exact ⟨by rw [sizeLine_eq]; omega, S, (Sub.new np).trans hs, hq _ _ _ (fill_end al hfull)⟩
def sp_plan_of : DSp := fun ds S q _ => ∃ c ws, ds = [intsD c, wantsD ws] ∧ Okc c ∧ Bnd c ws ∧ (∀ i, i < ws.length → 0 ≤ dem ws i) ∧ ∀ x, (HasPlan c ws → q (.d (.tup [.str "plan", x])) S) ∧ (¬ HasPlan c ws → q (.d (.tup [.str "lot", x])) S)
theorem w_plan_of {ds S q e} (h : sp_plan_of ds S q e) : bodyW (b_plan_of sp_most sp_wanted_by) N_plan_of 2 ds S q e := by
  obtain ⟨c, ws, rfl, hc, bd, hdem, hq⟩ := h
  have hn := bd.n
  refine ⟨rfl, ?_⟩
  unfold b_plan_of N_plan_of
  refine wp_step fun N1 hN1 => ?_
  simp_arith []
  refine ⟨c, ws, rfl, hc, bd, hdem, fun n rows lot hiff => ?_⟩
  simp_arith []
  refine hN1 _ _ (wp_step fun N2 hN2 => ?_)
  clear hN1 N1
  simp_arith []
  refine ⟨ws, rfl, hn, eqX_int ?_⟩
  by_cases hp : n = (ws.map (·.1)).sum
  · simp_arith [decide_eq_true hp]
    refine wp_step fun N3 hN3 => ?_
    simp_arith []
    exact ⟨by rw [sizeLine_eq]; omega, S, .refl, (hq _).1 (hiff.mp hp)⟩
  · simp_arith [decide_eq_false hp]
    refine hN2 _ _ (wp_step fun N3 hN3 => ?_)
    simp_arith []
    exact ⟨by rw [sizeLine_eq]; omega, S, .refl, (hq _).2 fun z => hp (hiff.mpr z)⟩
end DL
/-! k85: what each def does. -/
namespace DL
open PySem PySem.Spec PyProof.Rows L2 K85
local macro_rules
  | `(tactic| simp_arith only [$xs,*]) => `(tactic| simp only [wpSs, wpS, wpX, wpSrc, wpXs, wpA, wpO, wpC, wpB, bindTg, bindTgs, slotsT, slotsTs, wipeD, settle, opBlt, getSq, getL, getI, getB, getD, x1, asRef, atL, opMth, mthOk, opBin, opAdd, opAug, opCmp, opIx, opIxn, opIxm, opSl, opSet, isTy, truthX, srcX, srcE, keyOf, isNonX, if_true, if_false, reduceCtorEq, Bool.false_eq_true, Bool.not_true, Bool.not_false, Bool.true_eq_false, and_true, true_and, List.getElem?_cons_zero, List.getElem?_cons_succ, List.set_cons_zero, List.set_cons_succ, List.map_cons, List.map_nil, List.length_cons, List.length_nil, List.cons_append, List.nil_append, List.replicate_succ, List.replicate_zero, Nat.add_one_sub_one, Nat.reduceAdd, Nat.reduceSub, Nat.zero_add, Nat.sub_zero, startD, $xs,*])
local macro_rules
  | `(tactic| simp_arith [$xs,*]) => `(tactic| simp only [DL.wpSs_nil, wpS, wpX, wpSrc, wpXs, wpA, wpO, wpC, wpB, bindTg, bindTgs, slotsT, slotsTs, wipeD, settle, opBlt, getSq, getL, getI, getB, getD, x1, asRef, atL, opMth, mthOk, opBin, opAdd, opAug, opCmp, opIx, opIxn, opIxm, opSl, opSet, isTy, truthX, srcX, srcE, keyOf, isNonX, if_true, if_false, reduceCtorEq, Bool.false_eq_true, Bool.not_true, Bool.not_false, Bool.true_eq_false, and_true, true_and, List.getElem?_cons_zero, List.getElem?_cons_succ, List.set_cons_zero, List.set_cons_succ, List.map_cons, List.map_nil, List.length_cons, List.length_nil, List.cons_append, List.nil_append, List.replicate_succ, List.replicate_zero, Nat.add_one_sub_one, Nat.reduceAdd, Nat.reduceSub, Nat.zero_add, Nat.sub_zero, startD, $xs,*])
/-! ### spent .. first_plan -/
theorem cut_take {α : Type} (xs : List α) (k : Nat) : cutD xs none (some (k : Int)) = xs.take k := by
  unfold cutD
  rw [HT.sIx_nat, HT.sIx_none, List.drop_zero, Nat.sub_zero]
  by_cases h : k ≤ xs.length
  · rw [Nat.min_eq_left h]
  · rw [Nat.min_eq_right (by omega), List.take_length, List.take_of_length_le (by omega)]
theorem cut_drop {α : Type} (xs : List α) (k : Nat) : cutD xs (some (k : Int)) none = xs.drop k := by
  unfold cutD
  rw [HT.sIx_nat, HT.sIx_none]
  by_cases h : k ≤ xs.length
  · rw [Nat.min_eq_left h]
    exact List.take_of_length_le (by rw [List.length_drop]; omega)
  · rw [Nat.min_eq_right (by omega), List.drop_length, List.drop_of_length_le (by omega)]; simp
theorem eqX_str {S : Sto} {a b : Str} {k : Bool → Prop} (h : k (decide (a = b))) : eqX (.d (.str a)) (.d (.str b)) S k := by
  have o : ∀ x : Str, okD (.str x) := fun x => ⟨rfl, by show PyData.depth (.str x) ≤ 60; simp [PyData.depth]⟩
  refine ⟨o a, o b, ?_⟩
  show k (PyData.eqv (.str a) (.str b))
  have e : PyData.eqv (.str a) (.str b) = decide (a = b) := by
    by_cases q : a = b
    · subst q; simp [PyData.eqv]
    · simp [PyData.eqv, q]
  rw [e]; exact h
theorem count_ints (l : List Int) (d : Int) : ((l.map Dat.int).countP fun z => eqD z (.int d)) = l.count d := by
  induction l with
  | nil => rfl
  | cons x l ih =>
    rw [List.map_cons, List.countP_cons, ih, List.count_cons, eqD_int]
    by_cases h : x = d
    · subst h; simp
    · simp [h]
theorem filter_ints (p : Int → Bool) {g : Dat → Option Dat} (hg : ∀ i : Int, g (.int i) = if p i then some (.int i) else none) (l : List Int) : (l.map Dat.int).filterMap g = (l.filter p).map Dat.int := by
  induction l with
  | nil => rfl
  | cons x l ih =>
    rw [List.map_cons, List.filter_cons]
    cases h : p x with
    | true => rw [List.filterMap_cons_some (by rw [hg, h]; rfl), ih]; rfl
    | false => rw [List.filterMap_cons_none (by rw [hg, h]; rfl), ih]; rfl
theorem filterMap_all {f : Dat → Option Dat} {h : Dat → Dat} : ∀ {l : List Dat}, (∀ x ∈ l, f x = some (h x)) → l.filterMap f = l.map h
  | [], _ => rfl
  | x :: l, hf => by rw [List.filterMap_cons_some (hf x List.mem_cons_self), filterMap_all fun y hy => hf y (List.mem_cons_of_mem _ hy), List.map_cons]
theorem enum_ints {f : Dat → Option Dat} {g : Nat → Int → Int} (hf : ∀ (i : Nat) (m : Int), f (.tup [.int i, .int m]) = some (.int (g i m))) (c : List Int) :
    ((c.map Dat.int).mapIdx fun i d => Dat.tup [.int i, d]).filterMap f = (c.mapIdx g).map Dat.int := by
  rw [filterMap_all (h := fun x => (f x).getD x) fun x hx => ?_]
  · apply List.ext_getElem?
    intro i
    simp only [List.getElem?_map, List.getElem?_mapIdx, Option.map_map]
    congr 1
    funext m
    simp only [Function.comp, hf, Option.getD_some]
  · obtain ⟨i, hi⟩ := List.getElem?_of_mem hx
    rw [List.getElem?_mapIdx, List.getElem?_map, Option.map_eq_some_iff] at hi
    obtain ⟨y, hy, rfl⟩ := hi
    rw [Option.map_eq_some_iff] at hy
    obtain ⟨m, hm, rfl⟩ := hy
    rw [hf]; rfl
structure PB (P : List (List Int)) : Prop where
  n : P.length ≤ 1000
  r : ∀ l ∈ P, l.length ≤ 1000
theorem flat_len {P : List (List Int)} (h : ∀ l ∈ P, l.length ≤ 1000) : P.flatten.length ≤ P.length * 1000 := by
  induction P with
  | nil => simp
  | cons l P ih =>
    have := ih fun x hx => h x (List.mem_cons_of_mem _ hx)
    have := h l List.mem_cons_self
    rw [List.flatten_cons, List.length_append, List.length_cons]; omega
def sp_spent : DSp := fun ds S q _ => ∃ (P : List (List Int)) (row : List Int) (day : Int), ds = [.tup ((P ++ [row]).map intsD), .int (P.length : Nat), .int day] ∧ PB (P ++ [row]) ∧ (∀ x ∈ row, x < day) ∧
  ∀ p S', Sub S S' → S' p = some (.lst ((day :: (P.flatten ++ row)).map .int)) → q (.d (.ref p)) S'
theorem w_spent {ds S q e} (h : sp_spent ds S q e) : bodyW b_spent N_spent 3 ds S q e := by
  obtain ⟨P, row, day, rfl, pb, hrow, hq⟩ := h
  have sz : sizeLine = 16777216 := sizeLine_eq
  have pl := pb.n
  have prow : row.length ≤ 1000 := pb.r row (by simp)
  have pP : ∀ l ∈ P, l.length ≤ 1000 := fun l hl => pb.r l (by simp [hl])
  rw [List.length_append] at pl
  refine ⟨rfl, ?_⟩
  unfold b_spent N_spent
  refine wp_step fun N1 hN1 => ?_
  simp_arith []
  refine ⟨by omega, fun p np => ?_⟩
  refine hN1 _ _ (wp_step fun N2 hN2 => ?_)
  clear hN1 N1
  simp_arith [cut_take]
  have et : ((P ++ [row]).map intsD).take P.length = P.map intsD := by rw [List.map_append]; simp
  rw [et]
  refine ⟨by rw [List.length_map]; omega, ?_⟩
  refine forW_by (fun i δ S' => ∃ a4 a5, δ = [some (.tup ((P ++ [row]).map intsD)), some (.int (P.length : Nat)), some (.int day), some (.ref p), a4, a5] ∧ Sub S S' ∧ S' p = some (.lst ((day :: (P.take i).flatten).map .int))) ⟨_, _, rfl, .new np, by rw [supd_same]; simp⟩ (fun _ _ _ _ => trivial)
    (fun i d δ S' N hd ⟨a4, a5, hδ, sub, e1⟩ hN => ?_) (fun δ S' ⟨a4, a5, hδ, sub, e1⟩ => ?_)
  · subst hδ
    rw [List.getElem?_map, Option.map_eq_some_iff] at hd
    obtain ⟨l, hl, rfl⟩ := hd
    have hl2 := List.mem_of_getElem? hl
    have := pP l hl2
    simp_arith [intsD]
    refine wp_step fun N3 hN3 => ?_
    simp_arith [e1]
    have fl : ((P.take i).flatten).length ≤ (P.take i).length * 1000 := flat_len fun x hx => pP x (List.mem_of_mem_take hx)
    rw [List.length_take] at fl
    refine ⟨by simp only [List.length_map]; omega, ?_⟩
    refine hN3 _ _ ?_
    simp_arith []
    refine hN _ _ ⟨_, _, rfl, sub.put np, ?_⟩
    rw [supd_same, List.take_add_one, hl]
    simp
  · subst hδ
    rw [List.length_map, List.take_length] at e1
    refine hN2 _ _ (wp_step fun N3 hN3 => ?_)
    clear hN2 N2
    have ea : ((P ++ [row]).map intsD)[P.length]? = some (intsD row) := by simp
    simp_arith [atI_nat ea, intsD, e1]
    refine ⟨by rw [List.length_map]; omega, ?_⟩
    refine compW_pure trivial (fun x => match x with | .int i => if decide (i < day) then some (.int i) else none | _ => none) _ _ _ (fun x hx k hk => ?_) ?_
    · obtain ⟨i, hi, rfl⟩ := List.mem_map.mp hx
      simp_arith []
      by_cases h : i < day
      · simpa [h] using hk
      · simpa [h] using hk
    · rw [List.nil_append, filter_ints (fun i => decide (i < day)) (fun i => rfl), List.filter_eq_self.mpr (by simpa using hrow)]
      simp only [e1]
      have fl : (P.flatten).length ≤ P.length * 1000 := flat_len pP
      refine ⟨by simp only [List.length_map, List.length_cons]; omega, ?_⟩
      refine hN3 _ _ (wp_step fun N4 hN4 => ?_)
      simp_arith []
      refine ⟨_, .refl, hq p _ (sub.put np) ?_⟩
      rw [supd_same]; simp
structure WB (c : List Int) (ws : List Want) : Prop extends Bnd c ws where
  pos : ∀ i, i < ws.length → 0 ≤ dem ws i
def sp_what_left : DSp := fun ds S q _ => ∃ (c : List Int) (ws : List Want) (P : List (List Int)) (row : List Int) (day : Int), ds = [intsD c, wantsD ws, .tup ((P ++ [row]).map intsD), .int (P.length : Nat), .int day] ∧ PB (P ++ [row]) ∧ (∀ x ∈ row, x < day) ∧ P.length < ws.length ∧ Bnd c ws ∧
  q (.d (.tup [intsD (sub c (P.flatten ++ row ++ [day])), wantsD (behind (dem ws P.length) row ((own ws P.length).filter fun x => decide (day < x)) (ws.drop (P.length + 1)))])) S
theorem w_what_left {ds S q e} (h : sp_what_left ds S q e) : bodyW (b_what_left sp_spent) N_what_left 5 ds S q e := by
  obtain ⟨c, ws, P, row, day, rfl, pb, hrow, hk, bd, hq⟩ := h
  have sz : sizeLine = 16777216 := sizeLine_eq
  have pl := pb.n
  have prow : row.length ≤ 1000 := pb.r row (by simp)
  rw [List.length_append] at pl
  have hn := bd.n
  have hc := bd.c
  have ho := bd.own P.length
  refine ⟨rfl, ?_⟩
  unfold b_what_left N_what_left
  refine wp_step fun N1 hN1 => ?_
  simp_arith []
  refine ⟨P, row, day, rfl, pb, hrow, fun p S1 hs1 e1 => ?_⟩
  simp_arith []
  refine hN1 _ _ (wp_step fun N2 hN2 => ?_)
  clear hN1 N1
  simp_arith [intsD]
  refine ⟨by rw [List.length_map]; omega, ?_⟩
  generalize hdays : day :: (P.flatten ++ row) = days at e1
  refine compW_pure trivial (fun x => match x with | .tup [.int i, .int m] => some (.int (m - (days.count i : Int))) | _ => none) _ _ _ (fun x hx k hk => ?_) ?_
  · obtain ⟨i, hi⟩ := List.getElem?_of_mem hx
    rw [List.getElem?_mapIdx, List.getElem?_map, Option.map_eq_some_iff] at hi
    obtain ⟨y, hy, rfl⟩ := hi
    rw [Option.map_eq_some_iff] at hy
    obtain ⟨m, hm, rfl⟩ := hy
    simp_arith [e1, count_ints]
    exact ⟨okD_int _, okDL_ints _, hk⟩
  · rw [List.nil_append, enum_ints (g := fun i m => m - (days.count (i : Int) : Int)) (fun i m => rfl)]
    have erest : (c.mapIdx fun (i : Nat) v => v - (days.count (i : Int) : Int)) = sub c (P.flatten ++ row ++ [day]) := by
      unfold K85.sub
      congr 1
      funext i v
      rw [← hdays, List.count_cons, List.count_append, List.count_append, List.count_append, List.count_singleton]
    rw [erest]
    refine hN2 _ _ (wp_step fun N3 hN3 => ?_)
    clear hN2 N2
    simp_arith [wantsD, atI_nat (wants_at hk)]
    refine hN3 _ _ (wp_step fun N4 hN4 => ?_)
    clear hN3 N3
    have ea : ((P ++ [row]).map intsD)[P.length]? = some (intsD row) := by simp
    simp_arith [atI_nat ea, intsD]
    refine ⟨by rw [List.length_map]; omega, ?_⟩
    refine compW_pure trivial (fun x => match x with | .int i => if decide (i < day) then some (.int i) else none | _ => none) _ _ _ (fun x hx k hk => ?_) ?_
    · obtain ⟨i, hi, rfl⟩ := List.mem_map.mp hx
      simp_arith []
      by_cases h : i < day
      · simpa [h] using hk
      · simpa [h] using hk
    · rw [List.nil_append, filter_ints (fun i => decide (i < day)) (fun i => rfl), List.filter_eq_self.mpr (by simpa using hrow)]
      refine hN4 _ _ (wp_step fun N5 hN5 => ?_)
      clear hN4 N4
      simp_arith [List.length_map]
      have ec : ((P.length : Int) + 1) = ((P.length + 1 : Nat) : Int) := by omega
      rw [ec, cut_drop]
      refine hN5 _ _ (wp_step fun N6 hN6 => ?_)
      clear hN5 N5
      simp_arith []
      have el : dem ws P.length - (1 + (row.length : Int)) = dem ws P.length - (1 + (row.length : Int)) := rfl
      by_cases hm : 0 < dem ws P.length - (1 + (row.length : Int))
      · simp_arith [decide_eq_true hm]
        refine wp_step fun N7 hN7 => ?_
        simp_arith []
        refine ⟨by rw [List.length_map]; omega, ?_⟩
        refine compW_pure trivial (fun x => match x with | .int i => if decide (day < i) then some (.int i) else none | _ => none) _ _ _ (fun x hx k hk => ?_) ?_
        · obtain ⟨i, hi, rfl⟩ := List.mem_map.mp hx
          simp_arith []
          by_cases h : day < i
          · simpa [h] using hk
          · simpa [h] using hk
        · rw [List.nil_append, filter_ints (fun i => decide (day < i)) (fun i => rfl)]
          refine ⟨by omega, by omega, by simp only [List.length_drop, List.length_map]; omega, ?_⟩
          refine hN7 _ _ ?_
          simp_arith []
          refine hN6 _ _ (wp_step fun N8 hN8 => ?_)
          simp_arith []
          refine ⟨by omega, S, hs1, ?_⟩
          unfold behind at hq
          rw [if_pos hm] at hq
          simpa [wantsD, wantD, intsD, List.map_drop] using hq
      · simp_arith [decide_eq_false hm]
        refine hN6 _ _ (wp_step fun N8 hN8 => ?_)
        simp_arith []
        refine ⟨by omega, S, hs1, ?_⟩
        unfold behind at hq
        rw [if_neg hm] at hq
        simpa [wantsD, wantD, intsD, List.map_drop] using hq
end DL
/-! k85: what each def does. -/
namespace DL
open PySem PySem.Spec PyProof.Rows L2 K85
local macro_rules
  | `(tactic| simp_arith only [$xs,*]) => `(tactic| simp only [wpSs, wpS, wpX, wpSrc, wpXs, wpA, wpO, wpC, wpB, bindTg, bindTgs, slotsT, slotsTs, wipeD, settle, opBlt, getSq, getL, getI, getB, getD, x1, asRef, atL, opMth, mthOk, opBin, opAdd, opAug, opCmp, opIx, opIxn, opIxm, opSl, opSet, isTy, truthX, srcX, srcE, keyOf, isNonX, if_true, if_false, reduceCtorEq, Bool.false_eq_true, Bool.not_true, Bool.not_false, Bool.true_eq_false, and_true, true_and, List.getElem?_cons_zero, List.getElem?_cons_succ, List.set_cons_zero, List.set_cons_succ, List.map_cons, List.map_nil, List.length_cons, List.length_nil, List.cons_append, List.nil_append, List.replicate_succ, List.replicate_zero, Nat.add_one_sub_one, Nat.reduceAdd, Nat.reduceSub, Nat.zero_add, Nat.sub_zero, startD, $xs,*])
local macro_rules
  | `(tactic| simp_arith [$xs,*]) => `(tactic| simp only [DL.wpSs_nil, wpS, wpX, wpSrc, wpXs, wpA, wpO, wpC, wpB, bindTg, bindTgs, slotsT, slotsTs, wipeD, settle, opBlt, getSq, getL, getI, getB, getD, x1, asRef, atL, opMth, mthOk, opBin, opAdd, opAug, opCmp, opIx, opIxn, opIxm, opSl, opSet, isTy, truthX, srcX, srcE, keyOf, isNonX, if_true, if_false, reduceCtorEq, Bool.false_eq_true, Bool.not_true, Bool.not_false, Bool.true_eq_false, and_true, true_and, List.getElem?_cons_zero, List.getElem?_cons_succ, List.set_cons_zero, List.set_cons_succ, List.map_cons, List.map_nil, List.length_cons, List.length_nil, List.cons_append, List.nil_append, List.replicate_succ, List.replicate_zero, Nat.add_one_sub_one, Nat.reduceAdd, Nat.reduceSub, Nat.zero_add, Nat.sub_zero, startD, $xs,*])
/-! ### is_open .. first_plan -/
theorem foldl_min : ∀ (l : List Int) (n : Int), (0 ≤ l.foldl min n ↔ 0 ≤ n ∧ ∀ x ∈ l, 0 ≤ x)
  | [], n => by simp
  | x :: l, n => by
    rw [List.foldl_cons, foldl_min l (min n x)]
    constructor
    · rintro ⟨h1, h2⟩
      refine ⟨by omega, fun y hy => ?_⟩
      rcases List.mem_cons.mp hy with e | e
      · subst e; omega
      · exact h2 y e
    · rintro ⟨h1, h2⟩
      have := h2 x List.mem_cons_self
      exact ⟨by omega, fun y hy => h2 y (List.mem_cons_of_mem _ hy)⟩
def sp_is_open : DSp := fun ds S q _ => ∃ (c : List Int) (ws : List Want) (P : List (List Int)) (row : List Int) (day : Int) (rest : List Int) (bh : List Want), ds = [intsD c, wantsD ws, .tup ((P ++ [row]).map intsD), .int (P.length : Nat), .int day] ∧ PB (P ++ [row]) ∧ (∀ x ∈ row, x < day) ∧ P.length < ws.length ∧ c ≠ [] ∧ WB c ws ∧
  rest = K85.sub c (P.flatten ++ row ++ [day]) ∧ bh = behind (dem ws P.length) row ((own ws P.length).filter fun x => decide (day < x)) (ws.drop (P.length + 1)) ∧
  ((Okc rest ∧ HasPlan rest bh) → q (.d (.bl true)) S) ∧ (¬ (Okc rest ∧ HasPlan rest bh) → q (.d (.bl false)) S)
theorem own_drop (ws : List Want) (k i : Nat) : own (ws.drop k) i = own ws (k + i) ∧ dem (ws.drop k) i = dem ws (k + i) := by
  unfold own dem
  simp only [List.getD_eq_getElem?_getD, List.getElem?_drop]
  exact ⟨trivial, trivial⟩
theorem wb_behind {c : List Int} {ws : List Want} {k : Nat} {m : Int} {row W rest : List Int} (wb : WB c ws) (hk : k < ws.length) (hr : rest.length = c.length) (hW : ∀ d ∈ W, d ∈ own ws k) (hWl : W.length ≤ (own ws k).length) : WB rest (behind m row W (ws.drop (k + 1))) := by
  have inr : ∀ d, InR c d → InR rest d := fun d h => ⟨h.1, by rw [hr]; exact h.2⟩
  unfold behind
  split
  · rename_i hm
    refine ⟨⟨by have := wb.n; simp only [List.length_cons, List.length_drop]; omega, fun i d hd => ?_, fun i => ?_, by rw [hr]; exact wb.c⟩, fun i hi => ?_⟩
    · cases i with
      | zero => exact inr d (wb.inr k d (hW d hd))
      | succ i =>
        rw [own_cons, (own_drop ws (k + 1) i).1] at hd
        exact inr d (wb.inr _ d hd)
    · cases i with
      | zero => exact Nat.le_trans hWl (wb.own k)
      | succ i => rw [own_cons, (own_drop ws (k + 1) i).1]; exact wb.own _
    · cases i with
      | zero => exact Int.le_of_lt hm
      | succ i =>
        rw [dem_cons, (own_drop ws (k + 1) i).2]
        simp only [List.length_cons, List.length_drop] at hi
        exact wb.pos _ (by omega)
  · refine ⟨⟨by have := wb.n; simp only [List.length_drop]; omega, fun i d hd => ?_, fun i => ?_, by rw [hr]; exact wb.c⟩, fun i hi => ?_⟩
    · rw [(own_drop ws (k + 1) i).1] at hd
      exact inr d (wb.inr _ d hd)
    · rw [(own_drop ws (k + 1) i).1]; exact wb.own _
    · rw [(own_drop ws (k + 1) i).2]
      simp only [List.length_drop] at hi
      exact wb.pos _ (by omega)
theorem w_is_open {ds S q e} (h : sp_is_open ds S q e) : bodyW (b_is_open sp_what_left sp_plan_of) N_is_open 5 ds S q e := by
  obtain ⟨c, ws, P, row, day, rest, bh, rfl, pb, hrow, hk, hne, wb, hrest, hbh, hyes, hno⟩ := h
  refine ⟨rfl, ?_⟩
  unfold b_is_open N_is_open
  refine wp_step fun N1 hN1 => ?_
  simp_arith []
  refine ⟨c, ws, P, row, day, rfl, pb, hrow, hk, wb.toBnd, ?_⟩
  rw [← hrest, ← hbh]
  have wb2 : WB rest bh := by
    rw [hbh]
    exact wb_behind wb hk (by rw [hrest, sub_len]) (fun d hd => (List.mem_filter.mp hd).1) (List.length_filter_le _ _)
  simp_arith []
  refine hN1 _ _ (wp_step fun N2 hN2 => ?_)
  clear hN1 N1
  obtain ⟨n, ns, hn⟩ : ∃ n ns, rest = n :: ns := by
    cases hr : rest with
    | nil =>
      have : rest.length = c.length := by rw [hrest, sub_len]
      rw [hr] at this
      exact (hne (List.eq_nil_of_length_eq_zero this.symm)).elim
    | cons n ns => exact ⟨n, ns, rfl⟩
  have hio : intsOf (rest.map Dat.int) = some (n :: ns) := by rw [intsOf_ints, hn]
  simp_arith [intsD, hio]
  have hok : Okc rest ↔ 0 ≤ ns.foldl min n := by
    rw [foldl_min, hn]
    unfold Okc
    constructor
    · intro h; exact ⟨h n List.mem_cons_self, fun x hx => h x (List.mem_cons_of_mem _ hx)⟩
    · rintro ⟨h1, h2⟩ v hv
      rcases List.mem_cons.mp hv with e | e
      · subst e; exact h1
      · exact h2 v e
  by_cases ho : 0 ≤ ns.foldl min n
  · simp_arith [decide_eq_true ho]
    refine ⟨rest, bh, rfl, hok.mpr ho, wb2.toBnd, wb2.pos, fun x => ⟨fun hp => ?_, fun hp => ?_⟩⟩
    · simp_arith []
      exact eqX_str ⟨S, .refl, by rw [decide_eq_true rfl]; exact hyes ⟨hok.mpr ho, hp⟩⟩
    · simp_arith []
      exact eqX_str ⟨S, .refl, by rw [decide_eq_false (by decide)]; exact hno fun z => hp z.2⟩
  · simp_arith [decide_eq_false ho]
    exact ⟨S, .refl, hno fun z => ho (hok.mp z.1)⟩
def sp_first_row : DSp := fun ds S q _ => ∃ (c : List Int) (ws : List Want) (P : List (List Int)), ds = [intsD c, wantsD ws, .tup (P.map intsD), .int (P.length : Nat)] ∧ P.length < ws.length ∧ (∀ l ∈ P, l.length ≤ 1000) ∧ c ≠ [] ∧ WB c ws ∧ (own ws P.length).Pairwise (· < ·) ∧
  q (.d (intsD (firstRow (K85.sub c P.flatten) (dem ws P.length, own ws P.length) (ws.drop (P.length + 1))))) S
open Classical in
theorem w_first_row {ds S q e} (h : sp_first_row ds S q e) : bodyW (b_first_row sp_is_open) N_first_row 4 ds S q e := by
  obtain ⟨c, ws, P, rfl, hk, hPr, hne, wb, hasc, hq⟩ := h
  have sz : sizeLine = 16777216 := sizeLine_eq
  have hn := wb.n
  have ho := wb.own P.length
  refine ⟨rfl, ?_⟩
  unfold b_first_row N_first_row
  refine wp_step fun N1 hN1 => ?_
  simp_arith []
  refine ⟨by omega, hN1 _ _ (wp_step fun N2 hN2 => ?_)⟩
  clear hN1 N1
  simp_arith [wantsD, atI_nat (wants_at hk)]
  refine ⟨by rw [List.length_map]; omega, ?_⟩
  generalize hW : own ws P.length = W at hq hasc ho
  generalize hm : dem ws P.length = m at hq
  refine forW_by (fun j δ S' => ∃ r a5, δ = [some (intsD c), some (.tup (ws.map wantD)), some (.tup (P.map intsD)), some (.int (P.length : Nat)), some (intsD r), a5] ∧ S' = S ∧ (∀ x ∈ r, x ∈ W.take j) ∧ r.length ≤ j ∧ greedy (rowP (K85.sub c P.flatten) (ws.drop (P.length + 1))) m r (W.drop j) = firstRow (K85.sub c P.flatten) (m, W) (ws.drop (P.length + 1)))
    ⟨[], _, rfl, rfl, by simp, Nat.le_refl _, rfl⟩ (fun _ _ _ _ => trivial) (fun j d δ S' N hd ⟨r, a5, hδ, hS, hr, hrl, hg⟩ hN => ?_) (fun δ S' ⟨r, a5, hδ, hS, hr, hrl, hg⟩ => ?_)
  · subst hδ hS
    rw [List.getElem?_map, Option.map_eq_some_iff] at hd
    obtain ⟨day, hd, rfl⟩ := hd
    have hj := (List.getElem?_eq_some_iff.mp hd).1
    have hdrop : W.drop j = day :: W.drop (j + 1) := by
      rw [List.drop_eq_getElem_cons hj]
      congr 1
      exact (List.getElem?_eq_some_iff.mp hd).2
    have hsplit : W = W.take j ++ day :: W.drop (j + 1) := by rw [← hdrop, List.take_append_drop]
    have hlt : ∀ x ∈ r, x < day := fun x hx => by
      have := hasc
      rw [hsplit, List.pairwise_append] at this
      exact this.2.2 x (hr x hx) day (by simp)
    have htail : W.filter (fun x => decide (day < x)) = W.drop (j + 1) := by
      have h2 := hasc
      rw [hsplit] at h2
      have h3 := tail_filter h2
      rw [← hsplit] at h3
      exact h3
    have hWn : (W.drop (j + 1)).Nodup := (hasc.imp fun h => by omega : W.Nodup).sublist (List.drop_sublist _ _)
    rw [hdrop, greedy_step] at hg
    simp_arith []
    refine wp_step fun N3 hN3 => ?_
    simp_arith [intsD, atI_nat (wants_at hk), List.length_map, hm]
    have goNo : ¬ ((r.length : Int) < m ∧ Open (rowP (K85.sub c P.flatten) (ws.drop (P.length + 1))) m (r ++ [day]) (W.drop (j + 1))) → N [some (.tup (c.map Dat.int)), some (.tup (ws.map wantD)), some (.tup (P.map intsD)), some (.int (P.length : Nat)), some (.tup (r.map Dat.int)), some (.int day)] S' := fun hno => by
      rw [if_neg hno] at hg
      exact hN _ _ ⟨r, _, rfl, rfl, fun x hx => by rw [List.take_add_one]; exact List.mem_append_left _ (hr x hx), by omega, hg⟩
    by_cases hl : (r.length : Int) < m
    · simp_arith [decide_eq_true hl]
      refine ⟨by omega, by (try rw [List.length_map]); omega, ?_⟩
      refine ⟨c, ws, P, r, day, _, _, by simp [intsD, wantsD], ⟨by rw [List.length_append]; simp; omega, fun l hl => ?_⟩, hlt, hk, hne, wb, rfl, rfl, fun hy => ?_, fun hn' => ?_⟩
      · rcases List.mem_append.mp hl with z | z
        · exact hPr l z
        · simp at z; subst z; omega
      · rw [hW, htail, hm] at hy
        have hop := (open_test (c := K85.sub c P.flatten) hWn hl).mp (by rw [sub_sub, ← List.append_assoc]; exact hy)
        simp_arith []
        refine wp_step fun N4 hN4 => ?_
        simp_arith []
        refine ⟨by omega, by (try rw [List.length_map]); omega, ?_⟩
        refine hN4 _ _ ?_
        simp_arith []
        refine hN3 _ _ ?_
        simp_arith []
        rw [if_pos ⟨hl, hop⟩] at hg
        refine hN _ _ ⟨r ++ [day], some (.int day), by simp [intsD], rfl, fun x hx => ?_, by simp; omega, hg⟩
        rw [List.take_add_one, hd]
        rcases List.mem_append.mp hx with z | z
        · exact List.mem_append_left _ (hr x z)
        · exact List.mem_append_right _ (by simpa using z)
      · rw [hW, htail, hm] at hn'
        simp_arith []
        refine hN3 _ _ ?_
        simp_arith []
        exact goNo fun z => hn' (by
          have := (open_test (c := K85.sub c P.flatten) hWn hl).mpr z.2
          rw [sub_sub, ← List.append_assoc] at this
          exact this)
    · simp_arith [decide_eq_false hl]
      refine hN3 _ _ ?_
      simp_arith []
      exact goNo fun z => hl z.1
  · subst hδ hS
    rw [List.length_map, List.drop_length] at hg
    have hg : r = _ := hg
    refine hN2 _ _ (wp_step fun N3 hN3 => ?_)
    simp_arith []
    rw [hg]
    exact ⟨_, .refl, hq⟩

def sp_first_plan : DSp := fun ds S q _ => ∃ (c : List Int) (ws : List Want), ds = [intsD c, wantsD ws] ∧ Okc c ∧ c ≠ [] ∧ WB c ws ∧ (∀ w ∈ ws, w.2.Pairwise (· < ·)) ∧ (HasPlan c ws → q (.d (.tup ((firstPlan c ws).map intsD))) S) ∧ (¬ HasPlan c ws → q (.d .non) S)
theorem firstPlan_go {c : List Int} {ws : List Want} {P : List (List Int)} {w : Want} (h : firstPlan c ws = P ++ firstPlan (K85.sub c P.flatten) (ws.drop P.length)) (hw : ws[P.length]? = some w) :
    firstPlan c ws = (P ++ [firstRow (K85.sub c P.flatten) w (ws.drop (P.length + 1))]) ++ firstPlan (K85.sub c (P ++ [firstRow (K85.sub c P.flatten) w (ws.drop (P.length + 1))]).flatten) (ws.drop (P.length + 1)) := by
  have hl := (List.getElem?_eq_some_iff.mp hw).1
  have hd : ws.drop P.length = w :: ws.drop (P.length + 1) := by
    rw [List.drop_eq_getElem_cons hl]
    congr 1
    exact (List.getElem?_eq_some_iff.mp hw).2
  rw [h, hd]
  show P ++ (firstRow _ w _ :: firstPlan _ _) = _
  rw [sub_sub, List.flatten_append, List.append_assoc]
  simp
theorem w_first_plan {ds S q e} (h : sp_first_plan ds S q e) : bodyW (b_first_plan sp_plan_of sp_first_row) N_first_plan 2 ds S q e := by
  obtain ⟨c, ws, rfl, hc, hne, wb, hasc, hyes, hno⟩ := h
  have sz : sizeLine = 16777216 := sizeLine_eq
  have hn := wb.n
  refine ⟨rfl, ?_⟩
  unfold b_first_plan N_first_plan
  refine wp_step fun N1 hN1 => ?_
  simp_arith []
  refine ⟨c, ws, rfl, hc, wb.toBnd, wb.pos, fun x => ⟨fun hp => ?_, fun hp => ?_⟩⟩
  · simp_arith []
    refine eqX_str ?_
    simp_arith [decide_eq_false (show ¬ (("plan" : Str) = "lot") by decide)]
    have pl := (least_ok ws c hc hasc).1 hp
    refine hN1 _ _ (wp_step fun N2 hN2 => ?_)
    clear hN1 N1
    simp_arith []
    refine ⟨by omega, hN2 _ _ (wp_step fun N3 hN3 => ?_)⟩
    clear hN2 N2
    simp_arith [wantsD, List.length_map, Int.toNat_natCast]
    refine ⟨by omega, by omega, ?_⟩
    refine forW_by (fun k δ S' => ∃ P a3, δ = [some (intsD c), some (.tup (ws.map wantD)), some (.tup (P.map intsD)), a3] ∧ S' = S ∧ P.length = k ∧ firstPlan c ws = P ++ firstPlan (K85.sub c P.flatten) (ws.drop P.length))
      ⟨[], _, rfl, rfl, rfl, by rw [List.flatten_nil, sub_nil]; rfl⟩ (fun _ _ _ _ => trivial) (fun k d δ S' N hd ⟨P, a3, hδ, hS, hP, hf⟩ hN => ?_) (fun δ S' ⟨P, a3, hδ, hS, hP, hf⟩ => ?_)
    · subst hδ hS
      rw [List.getElem?_map, Option.map_eq_some_iff] at hd
      obtain ⟨k', hk, rfl⟩ := hd
      obtain ⟨hkl, hk⟩ := List.getElem?_eq_some_iff.mp hk
      rw [List.getElem_range] at hk
      subst hk hP
      rw [List.length_range] at hkl
      have hw : ws[P.length]? = some (dem ws P.length, own ws P.length) := by
        have e2 : ws[P.length]? = some ws[P.length] := List.getElem?_eq_getElem hkl
        rw [e2, (dem_get e2).1, (dem_get e2).2]
      have hPr : ∀ l ∈ P, l.length ≤ 1000 := fun l hl => by
        obtain ⟨i, hi⟩ := List.getElem?_of_mem hl
        have hil := (List.getElem?_eq_some_iff.mp hi).1
        have := rows_short pl.2.toAlloc wb.toBnd i
        rw [rowAt_get (R := firstPlan c ws) (r := l) (by rw [hf, List.getElem?_append_left hil]; exact hi)] at this
        exact this
      have ha : (own ws P.length).Pairwise (· < ·) := hasc _ (List.mem_of_getElem? hw)
      simp_arith []
      refine wp_step fun N4 hN4 => ?_
      simp_arith []
      refine ⟨c, ws, P, rfl, hkl, hPr, hne, wb, ha, ?_⟩
      simp_arith []
      refine ⟨by omega, by rw [List.length_map]; omega, ?_⟩
      refine hN4 _ _ ?_
      simp_arith []
      have h2 := firstPlan_go hf hw
      refine hN _ _ ⟨P ++ [firstRow (K85.sub c P.flatten) (dem ws P.length, own ws P.length) (ws.drop (P.length + 1))], _, by rw [List.map_append]; rfl, rfl, by simp, ?_⟩
      rw [List.length_append]
      exact h2
    · subst hδ hS
      rw [List.length_map, List.length_range] at hP
      have hf2 : firstPlan c ws = P := by
        rw [hP, List.drop_length] at hf
        rw [hf]
        show P ++ [] = P
        simp
      refine hN3 _ _ (wp_step fun N4 hN4 => ?_)
      simp_arith []
      rw [← hf2]
      exact ⟨_, .refl, hyes hp⟩
  · simp_arith []
    refine eqX_str ?_
    simp_arith [decide_eq_true (rfl : ("lot" : Str) = "lot")]
    refine wp_step fun N2 hN2 => ?_
    simp_arith []
    exact ⟨S, .refl, hno hp⟩
end DL
/-! k85: what each def does. -/
namespace DL
open PySem PySem.Spec PyProof.Rows L2 K85
local macro_rules
  | `(tactic| simp_arith only [$xs,*]) => `(tactic| simp only [wpSs, wpS, wpX, wpSrc, wpXs, wpA, wpO, wpC, wpB, bindTg, bindTgs, slotsT, slotsTs, wipeD, settle, opBlt, getSq, getL, getI, getB, getD, x1, asRef, atL, opMth, mthOk, opBin, opAdd, opAug, opCmp, opIx, opIxn, opIxm, opSl, opSet, isTy, truthX, srcX, srcE, keyOf, isNonX, if_true, if_false, reduceCtorEq, Bool.false_eq_true, Bool.not_true, Bool.not_false, Bool.true_eq_false, and_true, true_and, List.getElem?_cons_zero, List.getElem?_cons_succ, List.set_cons_zero, List.set_cons_succ, List.map_cons, List.map_nil, List.length_cons, List.length_nil, List.cons_append, List.nil_append, List.replicate_succ, List.replicate_zero, Nat.add_one_sub_one, Nat.reduceAdd, Nat.reduceSub, Nat.zero_add, Nat.sub_zero, startD, $xs,*])
local macro_rules
  | `(tactic| simp_arith [$xs,*]) => `(tactic| simp only [DL.wpSs_nil, wpS, wpX, wpSrc, wpXs, wpA, wpO, wpC, wpB, bindTg, bindTgs, slotsT, slotsTs, wipeD, settle, opBlt, getSq, getL, getI, getB, getD, x1, asRef, atL, opMth, mthOk, opBin, opAdd, opAug, opCmp, opIx, opIxn, opIxm, opSl, opSet, isTy, truthX, srcX, srcE, keyOf, isNonX, if_true, if_false, reduceCtorEq, Bool.false_eq_true, Bool.not_true, Bool.not_false, Bool.true_eq_false, and_true, true_and, List.getElem?_cons_zero, List.getElem?_cons_succ, List.set_cons_zero, List.set_cons_succ, List.map_cons, List.map_nil, List.length_cons, List.length_nil, List.cons_append, List.nil_append, List.replicate_succ, List.replicate_zero, Nat.add_one_sub_one, Nat.reduceAdd, Nat.reduceSub, Nat.zero_add, Nat.sub_zero, startD, $xs,*])
/-! ### the law's draws -/
theorem atI0 {α : Type} {a : α} {l : List α} : atI (a :: l) 0 = some a := atI_nat (j := 0) rfl
/-- the list that draws are made of -/
structure Lft (S : Sto) (p pc : Addr) (n : Nat) : Prop where
  ex : ∃ (cells : List Int) (i : Nat) (big : Int) (cnt : Nat) (seed : Int), S p = some (.lst [.ref pc, .int i, .int big, .int cnt, .int seed]) ∧ S pc = some (.lst (cells.map .int)) ∧ p ≠ pc ∧ i ≤ cells.length ∧ cells.length ≤ 63 ∧ cnt ≤ n ∧ 0 ≤ seed ∧ seed < 2147483647
def sp__law_source : DSp := fun ds S q _ => ∃ l : List Int, ds = [.scr l] ∧ ∀ (pc : Addr) (S' : Sto) (cells : List Int) (seed : Int), Sub S S' → S' pc = some (.lst (cells.map .int)) → cells.length ≤ 63 → 0 ≤ seed → seed < 2147483647 → q (.l [.ref pc, .int 0, .int 0, .int 0, .int seed]) S'
theorem cut63 (l : List Int) : (cutD (l.map Dat.int) none (some (63 : Int))) = (l.take 63).map Dat.int := by
  have := cut_take (l.map Dat.int) 63
  rw [← List.map_take] at this
  exact this
theorem w__law_source {ds S q e} (h : sp__law_source ds S q e) : bodyW b__law_source N__law_source 1 ds S q e := by
  obtain ⟨l, rfl, hq⟩ := h
  have sz : sizeLine = 16777216 := sizeLine_eq
  refine ⟨rfl, ?_⟩
  unfold b__law_source N__law_source
  refine wp_step fun N1 hN1 => ?_
  simp_arith [cut63]
  refine ⟨by rw [List.length_map, List.length_take]; omega, ?_⟩
  refine compW_pure trivial (fun x => match x with | .int i => some (.int (2 * (if i < 0 then -i else i) + (if decide (i < 0) = true then 1 else 0))) | _ => none) _ _ _ (fun x hx k hk => ?_) ?_
  · obtain ⟨i, hi, rfl⟩ := List.mem_map.mp hx
    simp_arith []
    exact ⟨.inl (by omega), hk⟩
  · have e1 : ((l.take 63).map Dat.int).filterMap (fun x => match x with | .int i => some (Dat.int (2 * (if i < 0 then -i else i) + (if decide (i < 0) = true then 1 else 0))) | _ => none) = ((l.take 63).map fun i => 2 * (if i < 0 then -i else i) + (if decide (i < 0) = true then 1 else 0)).map Dat.int := by
      rw [filterMap_all (h := fun x => match x with | .int i => Dat.int (2 * (if i < 0 then -i else i) + (if decide (i < 0) = true then 1 else 0)) | x => x) fun x hx => ?_]
      · rw [List.map_map, List.map_map]; rfl
      · obtain ⟨i, hi, rfl⟩ := List.mem_map.mp hx; rfl
    rw [List.nil_append, e1]
    generalize hcl : ((l.take 63).map fun i => 2 * (if i < 0 then -i else i) + (if decide (i < 0) = true then 1 else 0)) = cells
    have hlen : cells.length ≤ 63 := by rw [← hcl, List.length_map, List.length_take]; omega
    intro pc npc
    refine hN1 _ _ (wp_step fun N2 hN2 => ?_)
    simp_arith [supd_same, intsOf_ints]
    exact ⟨by omega, by omega, _, .refl, hq pc _ cells _ (.new npc) supd_same hlen (Int.emod_nonneg _ (by omega)) (Int.emod_lt_of_pos _ (by omega))⟩

def Ex1 (p : Addr) (S S' : Sto) : Prop := ∀ a o, a ≠ p → S a = some o → S' a = some o
def sp__law_draw : DSp := fun ds S q _ => ∃ (p pc : Addr) (m : Int) (n : Nat), ds = [.ref p, .int m] ∧ 0 < m ∧ m < 1048576 ∧ Lft S p pc n ∧ n < 1048576 ∧
  ∀ r S', 0 ≤ r → r < m → Lft S' p pc (n + 1) → (∀ a, a ≠ p → S' a = S a) → q (.d (.int r)) S'
theorem w__law_draw {ds S q e} (h : sp__law_draw ds S q e) : bodyW b__law_draw N__law_draw 2 ds S q e := by
  obtain ⟨p, pc, m, n, rfl, hm0, hm1, lf, hn, hq⟩ := h
  obtain ⟨cells, i, big, cnt, seed, e1, e2, hne, hi, hcl, hcnt, hs0, hs1⟩ := lf.ex
  have sz : sizeLine = 16777216 := sizeLine_eq
  refine ⟨rfl, ?_⟩
  unfold b__law_draw N__law_draw
  have a3 : ∀ (a b c d e : Dat), atI [a, b, c, d, e] 3 = some d := fun a b c d e => atI_nat (j := 3) rfl
  have a2 : ∀ (a b c d e : Dat), atI [a, b, c, d, e] 2 = some c := fun a b c d e => atI_nat (j := 2) rfl
  have a1 : ∀ (a b c d e : Dat), atI [a, b, c, d, e] 1 = some b := fun a b c d e => atI_nat (j := 1) rfl
  have x1 : ixN 5 1 = some 1 := rfl
  have x2 : ixN 5 2 = some 2 := rfl
  have x3 : ixN 5 3 = some 3 := rfl
  have x4 : ixN 5 4 = some 4 := rfl
  refine wp_step fun N1 hN1 => ?_
  simp_arith [e1, a3, x3]
  have ecnt : ((cnt : Int) + 1) = ((cnt + 1 : Nat) : Int) := by omega
  rw [ecnt]
  have st1 : ∀ a, a ≠ p → (supd S p (.lst [.ref pc, .int i, .int big, .int (cnt + 1 : Nat), .int seed])) a = S a := fun a h => supd_ne h
  have e1' : (supd S p (.lst [.ref pc, .int i, .int big, .int (cnt + 1 : Nat), .int seed])) p = some (.lst [.ref pc, .int i, .int big, .int (cnt + 1 : Nat), .int seed]) := supd_same
  generalize supd S p (.lst [.ref pc, .int i, .int big, .int (cnt + 1 : Nat), .int seed]) = S1 at st1 e1'
  have e2' : S1 pc = some (.lst (cells.map .int)) := by rw [st1 pc hne.symm]; exact e2
  refine hN1 _ _ (wp_step fun N2 hN2 => ?_)
  clear hN1 N1
  -- what comes behind the first if
  have tail : ∀ S2 (i : Nat) big seed a3', S2 p = some (.lst [.ref pc, .int i, .int big, .int (cnt + 1 : Nat), .int seed]) → (∀ a, a ≠ p → S2 a = S a) → i ≤ cells.length → 0 ≤ seed → seed < 2147483647 → N2 [some (.ref p), some (.int m), none, a3'] S2 := fun S2 i big seed a3' f1 f2 f3 f4 f5 => by
    have f6 : S2 pc = some (.lst (cells.map .int)) := by rw [f2 pc hne.symm]; exact e2
    refine hN2 _ _ (wp_step fun N3 hN3 => ?_)
    simp_arith [f1]
    by_cases hb : 0 < big
    · simp_arith [decide_eq_true hb]
      refine wp_step fun N4 hN4 => ?_
      simp_arith [f1]
      refine ⟨hm0, hN4 _ _ (wp_step fun N5 hN5 => ?_)⟩
      simp_arith [f1, a2, x2]
      refine ⟨⟨hm0, by omega⟩, hN5 _ _ (wp_step fun N6 hN6 => ?_)⟩
      simp_arith []
      refine ⟨_, .refl, hq _ _ (Int.emod_nonneg _ (by omega)) (Int.emod_lt_of_pos _ hm0) ⟨cells, i, big / m, cnt + 1, seed, supd_same, by rw [supd_ne hne.symm]; exact f6, hne, f3, hcl, by omega, f4, f5⟩ fun a ha => by rw [supd_ne ha]; exact f2 a ha⟩
    · simp_arith [decide_eq_false hb]
      refine hN3 _ _ (wp_step fun N4 hN4 => ?_)
      simp_arith [f1]
      have b1 : 0 ≤ (cnt + 1 : Nat) := Nat.zero_le _
      refine ⟨.inr (by omega), ⟨by omega, by omega, by omega⟩, by omega, ?_⟩
      have t0 := Int.emod_nonneg ((seed + 1 + ((cnt + 1 : Nat) : Int) * 7919) ^ (3 : Int).toNat) (b := 2147483647) (by omega)
      have t1 := Int.emod_lt_of_pos ((seed + 1 + ((cnt + 1 : Nat) : Int) * 7919) ^ (3 : Int).toNat) (b := 2147483647) (by omega)
      generalize ((seed + 1 + ((cnt + 1 : Nat) : Int) * 7919) ^ (3 : Int).toNat) % 2147483647 = told at t0 t1
      refine hN4 _ _ (wp_step fun N5 hN5 => ?_)
      simp_arith [f1]
      refine ⟨.inr (by omega), ⟨by omega, by omega, by omega⟩, by omega, ⟨by omega, by omega⟩, hm0, ?_⟩
      exact ⟨_, .refl, hq _ _ (Int.emod_nonneg _ (by omega)) (Int.emod_lt_of_pos _ hm0) ⟨cells, i, big, cnt + 1, seed, f1, f6, hne, f3, hcl, by omega, f4, f5⟩ f2⟩
  simp_arith [e1', e2', List.length_map]
  refine eqX_int ?_
  by_cases hb : big = 0
  · simp_arith [decide_eq_true hb, e1', e2', List.length_map]
    by_cases hil : (i : Int) < cells.length
    · have hic : (cells.map Dat.int)[i]? = some (.int (cells[i]'(by omega))) := by rw [List.getElem?_map, List.getElem?_eq_getElem (by omega)]; rfl
      generalize (cells[i]'(by omega)) = cell at hic
      simp_arith [decide_eq_true hil]
      refine wp_step fun N3 hN3 => ?_
      simp_arith [e1', e2', atI_nat hic]
      refine hN3 _ _ (wp_step fun N4 hN4 => ?_)
      simp_arith [e1', a1, x1]
      have ei : ((i : Int) + 1) = ((i + 1 : Nat) : Int) := by omega
      rw [ei]
      have st2 : ∀ a, a ≠ p → (supd S1 p (.lst [.ref pc, .int (i + 1 : Nat), .int big, .int (cnt + 1 : Nat), .int seed])) a = S a := fun a h => by rw [supd_ne h]; exact st1 a h
      have e3 : (supd S1 p (.lst [.ref pc, .int (i + 1 : Nat), .int big, .int (cnt + 1 : Nat), .int seed])) p = some (.lst [.ref pc, .int (i + 1 : Nat), .int big, .int (cnt + 1 : Nat), .int seed]) := supd_same
      generalize supd S1 p (.lst [.ref pc, .int (i + 1 : Nat), .int big, .int (cnt + 1 : Nat), .int seed]) = S2 at st2 e3
      refine hN4 _ _ (wp_step fun N5 hN5 => ?_)
      simp_arith []
      refine ⟨⟨by omega, by omega, by omega⟩, ?_⟩
      by_cases hbig : (10 : Int) ^ (18 : Int).toNat ≤ cell
      · simp_arith [decide_eq_true hbig]
        refine wp_step fun N6 hN6 => ?_
        simp_arith [e3, x2]
        refine hN6 _ _ ?_
        simp_arith []
        refine hN5 _ _ ?_
        simp_arith []
        exact tail _ (i + 1) cell seed _ supd_same (fun a h => by rw [supd_ne h]; exact st2 a h) (by omega) hs0 hs1
      · simp_arith [decide_eq_false hbig]
        refine wp_step fun N6 hN6 => ?_
        simp_arith [e3, x4]
        refine ⟨.inr (by omega), by omega, hN6 _ _ ?_⟩
        simp_arith []
        refine hN5 _ _ ?_
        simp_arith []
        exact tail _ (i + 1) big _ _ supd_same (fun a h => by rw [supd_ne h]; exact st2 a h) (by omega) (Int.emod_nonneg _ (by omega)) (Int.emod_lt_of_pos _ (by omega))
    · simp_arith [decide_eq_false hil]
      exact tail S1 i big seed _ e1' st1 hi hs0 hs1
  · simp_arith [decide_eq_false hb]
    exact tail S1 i big seed _ e1' st1 hi hs0 hs1
end DL
/-! k85: what each def does. -/
namespace DL
open PySem PySem.Spec PyProof.Rows L2 K85
local macro_rules
  | `(tactic| simp_arith only [$xs,*]) => `(tactic| simp only [wpSs, wpS, wpX, wpSrc, wpXs, wpA, wpO, wpC, wpB, bindTg, bindTgs, slotsT, slotsTs, wipeD, settle, opBlt, getSq, getL, getI, getB, getD, x1, asRef, atL, opMth, mthOk, opBin, opAdd, opAug, opCmp, opIx, opIxn, opIxm, opSl, opSet, isTy, truthX, srcX, srcE, keyOf, isNonX, if_true, if_false, reduceCtorEq, Bool.false_eq_true, Bool.not_true, Bool.not_false, Bool.true_eq_false, and_true, true_and, List.getElem?_cons_zero, List.getElem?_cons_succ, List.set_cons_zero, List.set_cons_succ, List.map_cons, List.map_nil, List.length_cons, List.length_nil, List.cons_append, List.nil_append, List.replicate_succ, List.replicate_zero, Nat.add_one_sub_one, Nat.reduceAdd, Nat.reduceSub, Nat.zero_add, Nat.sub_zero, startD, $xs,*])
local macro_rules
  | `(tactic| simp_arith [$xs,*]) => `(tactic| simp only [DL.wpSs_nil, wpS, wpX, wpSrc, wpXs, wpA, wpO, wpC, wpB, bindTg, bindTgs, slotsT, slotsTs, wipeD, settle, opBlt, getSq, getL, getI, getB, getD, x1, asRef, atL, opMth, mthOk, opBin, opAdd, opAug, opCmp, opIx, opIxn, opIxm, opSl, opSet, isTy, truthX, srcX, srcE, keyOf, isNonX, if_true, if_false, reduceCtorEq, Bool.false_eq_true, Bool.not_true, Bool.not_false, Bool.true_eq_false, and_true, true_and, List.getElem?_cons_zero, List.getElem?_cons_succ, List.set_cons_zero, List.set_cons_succ, List.map_cons, List.map_nil, List.length_cons, List.length_nil, List.cons_append, List.nil_append, List.replicate_succ, List.replicate_zero, Nat.add_one_sub_one, Nat.reduceAdd, Nat.reduceSub, Nat.zero_add, Nat.sub_zero, startD, $xs,*])
def Rng (h : Int) (l : List Int) : Prop := ∀ x ∈ l, 0 ≤ x ∧ x < h
theorem Lft.has {S : Sto} {p pc : Addr} {n : Nat} (h : Lft S p pc n) : S p ≠ none ∧ S pc ≠ none ∧ p ≠ pc := by
  obtain ⟨_, _, _, _, _, e, e2, ne, _⟩ := h.ex
  rw [e, e2]; simp [ne]
theorem sort_strict {l : List Int} (h : l.Nodup) : (l.mergeSort fun a b => decide (a ≤ b)).Pairwise (· < ·) := by
  have p := List.mergeSort_perm l (fun a b => decide (a ≤ b))
  have s := List.pairwise_mergeSort (le := fun (a b : Int) => decide (a ≤ b)) (fun a b c h h' => by simp at *; omega) (fun a b => by simp; omega) l
  have nd : (l.mergeSort fun a b => decide (a ≤ b)).Nodup := p.nodup_iff.mpr h
  have both := List.pairwise_and_iff.mpr ⟨s, nd⟩
  exact both.imp fun {a b} h => by
    have h1 := h.1
    have h2 := h.2
    simp at h1
    omega
theorem Lft.of {S S' : Sto} {p pc : Addr} {n : Nat} (h : Lft S p pc n) (e1' : S' p = S p) (e2' : S' pc = S pc) : Lft S' p pc n := by
  obtain ⟨cells, i, big, cnt, seed, e1, e2, r⟩ := h.ex
  exact ⟨cells, i, big, cnt, seed, e1'.trans e1, e2'.trans e2, r⟩
def sp__law_subset : DSp := fun ds S q _ => ∃ (p pc : Addr) (high many : Int) (n : Nat), ds = [.ref p, .int high, .int many] ∧ 0 < high ∧ high < 1000 ∧ 0 ≤ many ∧ many ≤ 100 ∧ Lft S p pc n ∧ n + 200 < 1048576 ∧
  ∀ (l : List Int) S', l.Pairwise (· < ·) → Rng high l → Lft S' p pc (n + many.toNat) → (∀ a, a ≠ p → S' a = S a) → q (.d (intsD l)) S'
theorem w__law_subset {ds S q e} (h : sp__law_subset ds S q e) : bodyW (b__law_subset sp__law_draw) N__law_subset 3 ds S q e := by
  obtain ⟨p, pc, high, many, n, rfl, h1, h2, h3, h4, lf, hn, hq⟩ := h
  have sz : sizeLine = 16777216 := sizeLine_eq
  obtain ⟨np, npc, hpp⟩ := lf.has
  refine ⟨rfl, ?_⟩
  unfold b__law_subset N__law_subset
  refine wp_step fun N1 hN1 => ?_
  simp_arith []
  refine ⟨by omega, fun t nt => hN1 _ _ (wp_step fun N2 hN2 => ?_)⟩
  clear hN1 N1
  have htp : t ≠ p := fun z => np (z ▸ nt)
  have htc : t ≠ pc := fun z => npc (z ▸ nt)
  simp_arith []
  refine ⟨by omega, by omega, ?_⟩
  refine forW_by (fun i δ S' => ∃ (l : List Int) (a4 a5 : Option Dat), δ = [some (.ref p), some (.int high), some (.int many), some (.ref t), a4, a5] ∧ S' t = some (.lst (l.map .int)) ∧ l.Nodup ∧ Rng high l ∧ l.length ≤ i ∧ Lft S' p pc (n + i) ∧ (∀ a, a ≠ p → a ≠ t → S' a = S a))
    ⟨[], _, _, rfl, supd_same, List.nodup_nil, (fun _ h => by cases h), Nat.le_refl _, lf.of (supd_ne htp.symm) (supd_ne htc.symm), fun a _ ha => supd_ne ha⟩ (fun _ _ _ _ => trivial)
    (fun i d δ S' N hd ⟨l, a4, a5, hδ, f1, f2, f3, f4, f5, f6⟩ hN => ?_) (fun δ S' ⟨l, a4, a5, hδ, f1, f2, f3, f4, f5, f6⟩ => ?_)
  · subst hδ
    have hil : i < many.toNat := by
      have := (List.getElem?_eq_some_iff.mp hd).1
      simpa using this
    simp_arith []
    refine wp_step fun N3 hN3 => ?_
    simp_arith []
    refine ⟨p, pc, high, n + i, rfl, h1, by omega, f5, by omega, fun r S2 g1 g2 g3 g4 => ?_⟩
    simp_arith []
    refine hN3 _ _ (wp_step fun N4 hN4 => ?_)
    have e1 : S2 t = some (.lst (l.map .int)) := by rw [g4 t htp]; exact f1
    simp_arith [inX, e1, inL_ints]
    refine ⟨okD_int r, okDL_ints _, ?_⟩
    by_cases hr : r ∈ l
    · simp_arith [decide_eq_true hr]
      refine hN4 _ _ ?_
      simp_arith []
      exact hN _ _ ⟨l, _, _, rfl, e1, f2, f3, by omega, by rw [← Nat.add_assoc]; exact g3, fun a x y => by rw [g4 a x]; exact f6 a x y⟩
    · simp_arith [decide_eq_false hr]
      refine wp_step fun N5 hN5 => ?_
      simp_arith [e1]
      refine ⟨by rw [List.length_map]; omega, hN5 _ _ ?_⟩
      simp_arith []
      refine hN4 _ _ ?_
      simp_arith []
      have em : (l.map Dat.int) ++ [Dat.int r] = (l ++ [r]).map Dat.int := by simp
      rw [em]
      refine hN _ _ ⟨l ++ [r], _, _, rfl, supd_same, ?_, fun x hx => ?_, by simp; omega, by rw [← Nat.add_assoc]; exact g3.of (supd_ne htp.symm) (supd_ne htc.symm), fun a x y => by rw [supd_ne y, g4 a x]; exact f6 a x y⟩
      · rw [List.nodup_append]
        exact ⟨f2, by simp, fun x hx y hy z => by simp at hy; subst hy; subst z; exact hr hx⟩
      · rcases List.mem_append.mp hx with z | z
        · exact f3 x z
        · simp at z; subst z; exact ⟨g1, g2⟩
  · subst hδ
    rw [List.length_map, List.length_range] at f5
    refine hN2 _ _ (wp_step fun N3 hN3 => ?_)
    simp_arith [f1]
    refine ⟨sortable_ints l, ?_⟩
    rw [sortD_ints]
    refine ⟨fun a => if a = p then S' a else S a, fun a o ho => ?_, hq _ _ (sort_strict f2) (fun x hx => f3 x (by rwa [List.mem_mergeSort] at hx)) (f5.of (if_pos rfl) ?_) fun a ha => if_neg ha⟩
    · by_cases ha : a = p
      · simp only [if_pos ha] at ho; exact ho
      · simp only [if_neg ha] at ho
        rw [f6 a ha (by intro z; subst z; rw [nt] at ho; cases ho)]; exact ho
    · show (if pc = p then S' pc else S pc) = S' pc
      rw [if_neg hpp.symm]
      exact (f6 pc hpp.symm htc.symm).symm
end DL
/-! k85: what each def does. -/
namespace DL
open PySem PySem.Spec PyProof.Rows L2 K85
local macro_rules
  | `(tactic| simp_arith only [$xs,*]) => `(tactic| simp only [wpSs, wpS, wpX, wpSrc, wpXs, wpA, wpO, wpC, wpB, bindTg, bindTgs, slotsT, slotsTs, wipeD, settle, opBlt, getSq, getL, getI, getB, getD, x1, asRef, atL, opMth, mthOk, opBin, opAdd, opAug, opCmp, opIx, opIxn, opIxm, opSl, opSet, isTy, truthX, srcX, srcE, keyOf, isNonX, if_true, if_false, reduceCtorEq, Bool.false_eq_true, Bool.not_true, Bool.not_false, Bool.true_eq_false, and_true, true_and, List.getElem?_cons_zero, List.getElem?_cons_succ, List.set_cons_zero, List.set_cons_succ, List.map_cons, List.map_nil, List.length_cons, List.length_nil, List.cons_append, List.nil_append, List.replicate_succ, List.replicate_zero, Nat.add_one_sub_one, Nat.reduceAdd, Nat.reduceSub, Nat.zero_add, Nat.sub_zero, startD, $xs,*])
local macro_rules
  | `(tactic| simp_arith [$xs,*]) => `(tactic| simp only [DL.wpSs_nil, wpS, wpX, wpSrc, wpXs, wpA, wpO, wpC, wpB, bindTg, bindTgs, slotsT, slotsTs, wipeD, settle, opBlt, getSq, getL, getI, getB, getD, x1, asRef, atL, opMth, mthOk, opBin, opAdd, opAug, opCmp, opIx, opIxn, opIxm, opSl, opSet, isTy, truthX, srcX, srcE, keyOf, isNonX, if_true, if_false, reduceCtorEq, Bool.false_eq_true, Bool.not_true, Bool.not_false, Bool.true_eq_false, and_true, true_and, List.getElem?_cons_zero, List.getElem?_cons_succ, List.set_cons_zero, List.set_cons_succ, List.map_cons, List.map_nil, List.length_cons, List.length_nil, List.cons_append, List.nil_append, List.replicate_succ, List.replicate_zero, Nat.add_one_sub_one, Nat.reduceAdd, Nat.reduceSub, Nat.zero_add, Nat.sub_zero, startD, $xs,*])
theorem Lft.mono {S : Sto} {p pc : Addr} {n m : Nat} (h : Lft S p pc n) (hn : n ≤ m) : Lft S p pc m := by
  obtain ⟨cells, i, big, cnt, seed, e1, e2, e3, e4, e5, e6, r⟩ := h.ex
  exact ⟨cells, i, big, cnt, seed, e1, e2, e3, e4, e5, by omega, r⟩
def WOk (h : Int) (w : Want) : Prop := w.2.Pairwise (· < ·) ∧ Rng h w.2 ∧ 1 ≤ w.1
def sp__law_wants : DSp := fun ds S q _ => ∃ (p pc : Addr) (c : List Int) (many : Int) (n : Nat), ds = [.ref p, intsD c, .int many, .int 4] ∧ 0 < c.length ∧ c.length ≤ 20 ∧ 0 ≤ many ∧ many ≤ 10 ∧ Lft S p pc n ∧ n + 1000 < 1048576 ∧
  ∀ (ws : List Want) S', ws.length = many.toNat → (∀ w ∈ ws, WOk c.length w) → Lft S' p pc (n + 40 * many.toNat) → (∀ a, a ≠ p → S' a = S a) → q (.d (wantsD ws)) S'
theorem w__law_wants {ds S q e} (h : sp__law_wants ds S q e) : bodyW (b__law_wants sp__law_subset sp__law_draw) N__law_wants 4 ds S q e := by
  obtain ⟨p, pc, c, many, n, rfl, hc0, hc1, h3, h4, lf, hn, hq⟩ := h
  have sz : sizeLine = 16777216 := sizeLine_eq
  obtain ⟨np, npc, hpp⟩ := lf.has
  refine ⟨rfl, ?_⟩
  unfold b__law_wants N__law_wants
  refine wp_step fun N1 hN1 => ?_
  simp_arith []
  refine ⟨by omega, fun t nt => hN1 _ _ (wp_step fun N2 hN2 => ?_)⟩
  clear hN1 N1
  have htp : t ≠ p := fun z => np (z ▸ nt)
  have htc : t ≠ pc := fun z => npc (z ▸ nt)
  simp_arith []
  refine ⟨by omega, by omega, ?_⟩
  refine forW_by (fun i δ S' => ∃ (ws : List Want) (a5 a6 : Option Dat), δ = [some (.ref p), some (.tup (c.map Dat.int)), some (.int many), some (.int 4), some (.ref t), a5, a6] ∧ S' t = some (.lst (ws.map wantD)) ∧ ws.length = i ∧ (∀ w ∈ ws, WOk c.length w) ∧ Lft S' p pc (n + 40 * i) ∧ (∀ a, a ≠ p → a ≠ t → S' a = S a))
    ⟨[], _, _, rfl, supd_same, rfl, (fun _ h => by cases h), lf.of (supd_ne htp.symm) (supd_ne htc.symm), fun a _ ha => supd_ne ha⟩ (fun _ _ _ _ => trivial)
    (fun i d δ S' N hd ⟨ws, a5, a6, hδ, f1, f2, f3, f5, f6⟩ hN => ?_) (fun δ S' ⟨ws, a5, a6, hδ, f1, f2, f3, f5, f6⟩ => ?_)
  · subst hδ
    have hil : i < many.toNat := by
      have := (List.getElem?_eq_some_iff.mp hd).1
      simpa using this
    simp_arith []
    refine wp_step fun N3 hN3 => ?_
    simp_arith [List.length_map]
    refine ⟨p, pc, 2 + c.length, n + 40 * i, rfl, by omega, by omega, f5, by omega, fun r S2 g1 g2 g3 g4 => ?_⟩
    simp_arith []
    refine ⟨p, pc, c.length, 1 + r, n + 40 * i + 1, rfl, by omega, by omega, by omega, by omega, g3, by omega, fun l S3 k1 k2 k3 k4 => ?_⟩
    simp_arith []
    refine hN3 _ _ (wp_step fun N4 hN4 => ?_)
    simp_arith []
    refine ⟨p, pc, 16, _, rfl, by omega, by omega, k3, by omega, fun r2 S4 m1 m2 m3 m4 => ?_⟩
    simp_arith []
    have lf4 : Lft S4 p pc (n + 40 * i + 30) := m3.mono (by omega)
    have e4 : S4 t = some (.lst (ws.map wantD)) := by rw [m4 t htp, k4 t htp, g4 t htp]; exact f1
    have fr4 : ∀ a, a ≠ p → a ≠ t → S4 a = S a := fun a x y => by rw [m4 a x, k4 a x, g4 a x]; exact f6 a x y
    have rest : ∀ l : List Int, l.Pairwise (· < ·) → Rng c.length l → N4 [some (.ref p), some (.tup (c.map Dat.int)), some (.int many), some (.int 4), some (.ref t), some d, some (intsD l)] S4 := fun l k1 k2 => by
      refine hN4 _ _ (wp_step fun N5 hN5 => ?_)
      simp_arith [e4, intsD, List.length_map]
      refine ⟨p, pc, _, _, rfl, by split <;> omega, ?_, lf4, by omega, fun r3 S5 o1 o2 o3 o4 => ?_⟩
      · split
        · split at * <;> omega
        · omega
      · have e5 : S5 t = some (.lst (ws.map wantD)) := by rw [o4 t htp]; exact e4
        simp_arith [e5]
        refine ⟨by omega, by rw [List.length_map]; omega, hN5 _ _ ?_⟩
        simp_arith []
        have em : ws.map wantD ++ [Dat.tup [.int (1 + r3), .tup (l.map .int)]] = (ws ++ [(1 + r3, l)]).map wantD := by simp [wantD, intsD]
        rw [em]
        refine hN _ _ ⟨ws ++ [(1 + r3, l)], _, _, rfl, supd_same, by simp [f2], fun w hw => ?_, (o3.of (supd_ne htp.symm) (supd_ne htc.symm)).mono (by omega), fun a x y => by rw [supd_ne y, o4 a x]; exact fr4 a x y⟩
        rcases List.mem_append.mp hw with z | z
        · exact f3 w z
        · simp at z; subst z; exact ⟨k1, k2, by show 1 ≤ 1 + r3; omega⟩
    refine eqX_int ?_
    by_cases hr2 : r2 = 0
    · simp_arith [decide_eq_true hr2]
      refine wp_step fun N5 hN5 => ?_
      simp_arith []
      refine ⟨by omega, hN5 _ _ ?_⟩
      simp_arith []
      exact rest [] List.Pairwise.nil (fun _ h => by cases h)
    · simp_arith [decide_eq_false hr2]
      exact rest l k1 k2
  · subst hδ
    rw [List.length_map, List.length_range] at f5 f2
    refine hN2 _ _ (wp_step fun N3 hN3 => ?_)
    simp_arith [f1]
    refine ⟨fun a => if a = p then S' a else S a, fun a o ho => ?_, hq _ _ f2 f3 (f5.of (if_pos rfl) ?_) fun a ha => if_neg ha⟩
    · by_cases ha : a = p
      · simp only [if_pos ha] at ho; exact ho
      · simp only [if_neg ha] at ho
        rw [f6 a ha (by intro z; subst z; rw [nt] at ho; cases ho)]; exact ho
    · show (if pc = p then S' pc else S pc) = S' pc
      rw [if_neg hpp.symm]
      exact (f6 pc hpp.symm htc.symm).symm
end DL
/-! k85: what each def does. -/
namespace DL
open PySem PySem.Spec PyProof.Rows L2 K85
local macro_rules
  | `(tactic| simp_arith only [$xs,*]) => `(tactic| simp only [wpSs, wpS, wpX, wpSrc, wpXs, wpA, wpO, wpC, wpB, bindTg, bindTgs, slotsT, slotsTs, wipeD, settle, opBlt, getSq, getL, getI, getB, getD, x1, asRef, atL, opMth, mthOk, opBin, opAdd, opAug, opCmp, opIx, opIxn, opIxm, opSl, opSet, isTy, truthX, srcX, srcE, keyOf, isNonX, if_true, if_false, reduceCtorEq, Bool.false_eq_true, Bool.not_true, Bool.not_false, Bool.true_eq_false, and_true, true_and, List.getElem?_cons_zero, List.getElem?_cons_succ, List.set_cons_zero, List.set_cons_succ, List.map_cons, List.map_nil, List.length_cons, List.length_nil, List.cons_append, List.nil_append, List.replicate_succ, List.replicate_zero, Nat.add_one_sub_one, Nat.reduceAdd, Nat.reduceSub, Nat.zero_add, Nat.sub_zero, startD, $xs,*])
local macro_rules
  | `(tactic| simp_arith [$xs,*]) => `(tactic| simp only [DL.wpSs_nil, wpS, wpX, wpSrc, wpXs, wpA, wpO, wpC, wpB, bindTg, bindTgs, slotsT, slotsTs, wipeD, settle, opBlt, getSq, getL, getI, getB, getD, x1, asRef, atL, opMth, mthOk, opBin, opAdd, opAug, opCmp, opIx, opIxn, opIxm, opSl, opSet, isTy, truthX, srcX, srcE, keyOf, isNonX, if_true, if_false, reduceCtorEq, Bool.false_eq_true, Bool.not_true, Bool.not_false, Bool.true_eq_false, and_true, true_and, List.getElem?_cons_zero, List.getElem?_cons_succ, List.set_cons_zero, List.set_cons_succ, List.map_cons, List.map_nil, List.length_cons, List.length_nil, List.cons_append, List.nil_append, List.replicate_succ, List.replicate_zero, Nat.add_one_sub_one, Nat.reduceAdd, Nat.reduceSub, Nat.zero_add, Nat.sub_zero, startD, $xs,*])
/-! ### the law's rows and plans -/
theorem depAll_le {n : Nat} : ∀ {l : List Dat}, (∀ d ∈ l, dep d ≤ n) → depL l ≤ n
  | [], _ => by simp [depL, toPyL, PyData.depthAll]
  | d :: l, h => by
    have h1 := h d List.mem_cons_self
    have h2 := depAll_le fun x hx => h x (List.mem_cons_of_mem _ hx)
    unfold depL dep at *
    rw [toPyL, PyData.depthAll]
    omega
theorem dep_tup (l : List Dat) : dep (.tup l) = depL l + 1 := by
  unfold dep depL
  rw [toPy, PyData.depth]
theorem purL_of {l : List Dat} (h : ∀ d ∈ l, pur d = true) : purL l = true := by rw [purL_all, List.all_eq_true]; exact h
theorem dep_intsD (l : List Int) : dep (intsD l) ≤ 1 := by
  rw [intsD, dep_tup]
  have : depL (l.map Dat.int) = 0 := by unfold depL; rw [toPyL_ints, depth_ints]
  omega
theorem pur_intsD (l : List Int) : pur (intsD l) = true := purL_ints l
theorem okDL_rows (L : List (List Int)) : okDL (L.map intsD) := by
  refine ⟨purL_of fun d hd => ?_, ?_⟩
  · obtain ⟨l, _, rfl⟩ := List.mem_map.mp hd; exact pur_intsD l
  · have := depAll_le (n := 1) (l := L.map intsD) fun d hd => by
      obtain ⟨l, _, rfl⟩ := List.mem_map.mp hd; exact dep_intsD l
    omega
theorem okD_rows (L : List (List Int)) : okD (.tup (L.map intsD)) := by
  obtain ⟨h1, h2⟩ := okDL_rows L
  have h3 := depAll_le (n := 1) (l := L.map intsD) fun d hd => by
    obtain ⟨l, _, rfl⟩ := List.mem_map.mp hd; exact dep_intsD l
  exact ⟨h1, by rw [dep_tup]; omega⟩
theorem okD_wants (ws : List Want) : okD (wantsD ws) := by
  refine ⟨purL_of fun d hd => ?_, ?_⟩
  · obtain ⟨w, _, rfl⟩ := List.mem_map.mp hd
    show purL [.int w.1, intsD w.2] = true
    rw [purL, purL, purL, pur_intsD]; rfl
  · rw [wantsD, dep_tup]
    have := depAll_le (n := 2) (l := ws.map wantD) fun d hd => by
      obtain ⟨w, _, rfl⟩ := List.mem_map.mp hd
      rw [wantD, dep_tup]
      have := depAll_le (n := 1) (l := [.int w.1, intsD w.2]) fun d hd => by
        rcases List.mem_cons.mp hd with e | e
        · subst e; simp [dep, toPy, PyData.depth]
        · rw [List.mem_singleton] at e; subst e; exact dep_intsD _
      omega
    omega
theorem eqX_wants {S : Sto} {ws : List Want} {k : Bool → Prop} (h : k (decide (ws = []))) : eqX (.d (wantsD ws)) (.d (.tup [])) S k := by
  refine ⟨okD_wants ws, ⟨rfl, by rw [dep_tup]; simp [depL, toPyL, PyData.depthAll]⟩, ?_⟩
  show k (PyData.eqv (.tuple (toPyL (ws.map wantD))) (.tuple []))
  cases ws with
  | nil => simpa [toPyL, PyData.eqv, PyData.eqvAll] using h
  | cons w ws => simpa [toPyL, PyData.eqv, PyData.eqvAll] using h
theorem eqX_same {S : Sto} {L : List (List Int)} {k : Bool → Prop} (h : k true) : eqX (.d (.tup (L.map intsD))) (.d (.tup (L.map intsD))) S k := by
  refine ⟨okD_rows L, okD_rows L, ?_⟩
  show k (PyData.eqv (toPy (.tup (L.map intsD))) (toPy (.tup (L.map intsD))))
  rw [PySem.SeqAt.eqv_refl_plain _ (toPy_plain _)]
  exact h
theorem eqX_nn {S : Sto} {k : Bool → Prop} (h : k true) : eqX (.l []) (.l []) S k := by
  have o : okDL [] := okDL_ints []
  refine ⟨o, o, ?_⟩
  simpa [toPyL, PyData.eqv, PyData.eqvAll] using h
def sp__law_is_row : DSp := fun ds S q _ => ∃ (l : List Int) (high : Int), ds = [intsD l, .int high] ∧ l.Pairwise (· < ·) ∧ Rng high l ∧ l.length ≤ 1000 ∧ q (.d (.bl true)) S
theorem w__law_is_row {ds S q e} (h : sp__law_is_row ds S q e) : bodyW b__law_is_row N__law_is_row 2 ds S q e := by
  obtain ⟨l, high, rfl, hl, hr, hn, hq⟩ := h
  have sz : sizeLine = 16777216 := sizeLine_eq
  refine ⟨rfl, ?_⟩
  unfold b__law_is_row N__law_is_row
  refine wp_step fun N1 hN1 => ?_
  simp_arith [intsD, show (Ty.tuple == Ty.tuple) = true from rfl]
  refine hN1 _ _ (wp_step fun N2 hN2 => ?_)
  clear hN1 N1
  simp_arith []
  refine hN2 _ _ (wp_step fun N3 hN3 => ?_)
  clear hN2 N2
  simp_arith []
  refine ⟨by rw [List.length_map]; omega, ?_⟩
  refine forW_by (fun i δ S' => ∃ (last : Int) (a3 : Option Dat), δ = [some (.tup (l.map Dat.int)), some (.int high), some (.int last), a3] ∧ S' = S ∧ (∀ x ∈ l.drop i, last < x)) ⟨-1, _, rfl, rfl, fun x hx => by have := (hr x (List.mem_of_mem_drop hx)).1; omega⟩ (fun _ _ _ _ => trivial)
    (fun i d δ S' N hd ⟨last, a3, hδ, hS, hlast⟩ hN => ?_) (fun δ S' ⟨last, a3, hδ, hS, hlast⟩ => ?_)
  · subst hδ hS
    rw [List.getElem?_map, Option.map_eq_some_iff] at hd
    obtain ⟨x, hx, rfl⟩ := hd
    have hi := (List.getElem?_eq_some_iff.mp hx).1
    have hdr : l.drop i = x :: l.drop (i + 1) := by
      rw [List.drop_eq_getElem_cons hi]
      congr 1
      exact (List.getElem?_eq_some_iff.mp hx).2
    have h1 : last < x := hlast x (by rw [hdr]; simp)
    have h2 := (hr x (List.mem_of_getElem? hx)).2
    simp_arith []
    refine wp_step fun N4 hN4 => ?_
    simp_arith [show (Ty.int == Ty.int) = true from rfl, show (Ty.bool == Ty.int) = false from rfl, decide_eq_true h1, decide_eq_true h2]
    refine hN4 _ _ (wp_step fun N5 hN5 => ?_)
    simp_arith []
    refine hN5 _ _ ?_
    simp_arith []
    refine hN _ _ ⟨x, _, rfl, rfl, fun y hy => ?_⟩
    have := hl.sublist (List.drop_sublist i l)
    rw [hdr, List.pairwise_cons] at this
    exact this.1 y hy
  · subst hδ hS
    refine hN3 _ _ (wp_step fun N4 hN4 => ?_)
    simp_arith []
    exact ⟨_, .refl, hq⟩
def sp__law_every : DSp := fun ds S q _ => ∃ P : List (List Int), ds = [.tup (P.map intsD)] ∧ PB P ∧ ∀ p S', Sub S S' → S' p = some (.lst (P.flatten.map .int)) → q (.d (.ref p)) S'
theorem w__law_every {ds S q e} (h : sp__law_every ds S q e) : bodyW b__law_every N__law_every 1 ds S q e := by
  obtain ⟨P, rfl, pb, hq⟩ := h
  have sz : sizeLine = 16777216 := sizeLine_eq
  have pl := pb.n
  refine ⟨rfl, ?_⟩
  unfold b__law_every N__law_every
  refine wp_step fun N1 hN1 => ?_
  simp_arith []
  refine ⟨by omega, fun p np => hN1 _ _ (wp_step fun N2 hN2 => ?_)⟩
  clear hN1 N1
  simp_arith []
  refine ⟨by rw [List.length_map]; omega, ?_⟩
  refine forW_by (fun i δ S' => ∃ (a2 : Option Dat), δ = [some (.tup (P.map intsD)), some (.ref p), a2] ∧ Sub S S' ∧ S' p = some (.lst ((P.take i).flatten.map .int))) ⟨_, rfl, .new np, by rw [supd_same]; simp⟩ (fun _ _ _ _ => trivial)
    (fun i d δ S' N hd ⟨a2, hδ, hs, e1⟩ hN => ?_) (fun δ S' ⟨a2, hδ, hs, e1⟩ => ?_)
  · subst hδ
    rw [List.getElem?_map, Option.map_eq_some_iff] at hd
    obtain ⟨l, hl, rfl⟩ := hd
    have := pb.r l (List.mem_of_getElem? hl)
    simp_arith [intsD]
    refine wp_step fun N3 hN3 => ?_
    simp_arith [e1]
    have fl : ((P.take i).flatten).length ≤ (P.take i).length * 1000 := flat_len fun x hx => pb.r x (List.mem_of_mem_take hx)
    rw [List.length_take] at fl
    refine ⟨by simp only [List.length_map]; omega, hN3 _ _ ?_⟩
    simp_arith []
    refine hN _ _ ⟨_, rfl, hs.put np, ?_⟩
    rw [supd_same, List.take_add_one, hl]
    simp
  · subst hδ
    rw [List.length_map, List.take_length] at e1
    refine hN2 _ _ (wp_step fun N3 hN3 => ?_)
    simp_arith []
    exact ⟨_, .refl, hq p _ hs e1⟩
def sp__law_is_plan : DSp := fun ds S q _ => ∃ (c : List Int) (ws : List Want) (x : List (List Int)), ds = [intsD c, wantsD ws, .tup (x.map intsD)] ∧ IsPlan c ws x ∧ Bnd c ws ∧ (∀ l ∈ x, l.Pairwise (· < ·)) ∧ q (.d (.bl true)) S
theorem w__law_is_plan {ds S q e} (h : sp__law_is_plan ds S q e) : bodyW (b__law_is_plan sp__law_is_row sp__law_every) N__law_is_plan 3 ds S q e := by
  obtain ⟨c, ws, x, rfl, px, bd, hasc, hq⟩ := h
  have sz : sizeLine = 16777216 := sizeLine_eq
  have hn := bd.n
  have hxl : x.length = ws.length := px.len
  have hc := bd.c
  refine ⟨rfl, ?_⟩
  unfold b__law_is_plan N__law_is_plan
  refine wp_step fun N1 hN1 => ?_
  simp_arith [wantsD, show (Ty.tuple == Ty.tuple) = true from rfl, List.length_map]
  refine eqX_int ?_
  simp_arith [decide_eq_true (show (x.length : Int) = ws.length by omega)]
  refine hN1 _ _ (wp_step fun N2 hN2 => ?_)
  clear hN1 N1
  simp_arith []
  refine ⟨by rw [List.length_map]; omega, ?_⟩
  have row_get : ∀ i l, x[i]? = some l → i < ws.length ∧ rowAt x i = l := fun i l h => ⟨by rw [← hxl]; exact (List.getElem?_eq_some_iff.mp h).1, rowAt_get h⟩
  refine forW_by (fun i δ S' => ∃ (a4 a5 : Option Dat), δ = [some (intsD c), some (.tup (ws.map wantD)), some (.tup (x.map intsD)), none, a4, a5, none] ∧ S' = S) ⟨_, _, rfl, rfl⟩ (fun _ _ _ _ => trivial) (fun i d δ S' N hd ⟨a4, a5, hδ, hS⟩ hN => ?_) (fun δ S' ⟨a4, a5, hδ, hS⟩ => ?_)
  · subst hδ hS
    rw [List.getElem?_map, Option.map_eq_some_iff] at hd
    obtain ⟨pr, hd, rfl⟩ := hd
    rw [List.getElem?_zip_eq_some] at hd
    obtain ⟨d1, d2⟩ := hd
    rw [List.getElem?_map, Option.map_eq_some_iff] at d1 d2
    obtain ⟨l, hl, e1⟩ := d1
    obtain ⟨w, hw, e2⟩ := d2
    obtain ⟨hil, hrow⟩ := row_get i l hl
    obtain ⟨hdem, hown⟩ := dem_get hw
    rw [← e1, ← e2]
    have lsub : ∀ y ∈ l, y ∈ w.2 := fun y hy => by
      have := px.sub i y (by rw [hrow]; exact hy)
      rw [hown] at this; exact this
    have lrng : Rng c.length l := fun y hy => bd.inr i y (by rw [hown]; exact lsub y hy)
    have llen : l.length ≤ 1000 := by
      have := rows_short px.toAlloc bd i
      rw [hrow] at this; exact this
    have lfull : (l.length : Int) = w.1 := by
      have := px.full i hil
      rw [hrow, hdem] at this; exact this
    simp_arith []
    refine wp_step fun N3 hN3 => ?_
    simp_arith [intsD, List.length_map]
    refine ⟨l, c.length, rfl, hasc l (List.mem_of_getElem? hl), lrng, llen, ?_⟩
    simp_arith [wantD, intsD, List.length_map]
    refine eqX_int ?_
    simp_arith [decide_eq_true lfull]
    refine hN3 _ _ (wp_step fun N4 hN4 => ?_)
    simp_arith []
    refine ⟨by rw [List.length_map]; omega, ?_⟩
    refine compW_pure trivial (fun _ => none) _ _ _ (fun z hz k hk => ?_) ?_
    · obtain ⟨y, hy, rfl⟩ := List.mem_map.mp hz
      simp_arith [inX, inL_ints, decide_eq_true (lsub y hy)]
      exact ⟨okD_int y, okDL_ints _, hk⟩
    · rw [List.nil_append, show (l.map Dat.int).filterMap (fun _ => (none : Option Dat)) = [] from by simp]
      refine ⟨by omega, eqX_nn ?_⟩
      simp_arith []
      refine hN4 _ _ ?_
      simp_arith []
      exact hN _ _ ⟨_, _, rfl, rfl⟩
  · subst hδ hS
    refine hN2 _ _ (wp_step fun N3 hN3 => ?_)
    clear hN2 N2
    simp_arith []
    refine ⟨x, rfl, ⟨by omega, fun l hl => ?_⟩, fun p S1 hs e1 => ?_⟩
    · obtain ⟨i, hi⟩ := List.getElem?_of_mem hl
      have := rows_short px.toAlloc bd i
      rw [(row_get i l hi).2] at this; exact this
    simp_arith []
    refine hN3 _ _ (wp_step fun N4 hN4 => ?_)
    simp_arith [intsD, List.length_map, Int.toNat_natCast]
    refine ⟨by omega, by omega, ?_⟩
    refine compW_pure trivial (fun _ => none) _ _ _ (fun z hz k hk => ?_) ?_
    · obtain ⟨i, hi, rfl⟩ := List.mem_map.mp hz
      rw [List.mem_range] at hi
      have hin : InR c (i : Int) := ⟨by omega, by omega⟩
      have hle := plan_days px i hin
      simp_arith [e1, count_ints, ints_at hin, decide_eq_false (show ¬ (cap c (i : Int) < (x.flatten.count (i : Int) : Int)) by omega)]
      exact ⟨okD_int _, okDL_ints _, hk⟩
    · rw [List.nil_append, show ((List.range c.length).map fun (i : Nat) => Dat.int i).filterMap (fun _ => (none : Option Dat)) = [] from by simp]
      refine ⟨by omega, eqX_nn ⟨_, hs, hq⟩⟩
end DL
/-! k85: what each def does. -/
namespace DL
open PySem PySem.Spec PyProof.Rows L2 K85
local macro_rules
  | `(tactic| simp_arith only [$xs,*]) => `(tactic| simp only [wpSs, wpS, wpX, wpSrc, wpXs, wpA, wpO, wpC, wpB, bindTg, bindTgs, slotsT, slotsTs, wipeD, settle, opBlt, getSq, getL, getI, getB, getD, x1, asRef, atL, opMth, mthOk, opBin, opAdd, opAug, opCmp, opIx, opIxn, opIxm, opSl, opSet, isTy, truthX, srcX, srcE, keyOf, isNonX, if_true, if_false, reduceCtorEq, Bool.false_eq_true, Bool.not_true, Bool.not_false, Bool.true_eq_false, and_true, true_and, List.getElem?_cons_zero, List.getElem?_cons_succ, List.set_cons_zero, List.set_cons_succ, List.map_cons, List.map_nil, List.length_cons, List.length_nil, List.cons_append, List.nil_append, List.replicate_succ, List.replicate_zero, Nat.add_one_sub_one, Nat.reduceAdd, Nat.reduceSub, Nat.zero_add, Nat.sub_zero, startD, $xs,*])
local macro_rules
  | `(tactic| simp_arith [$xs,*]) => `(tactic| simp only [DL.wpSs_nil, wpS, wpX, wpSrc, wpXs, wpA, wpO, wpC, wpB, bindTg, bindTgs, slotsT, slotsTs, wipeD, settle, opBlt, getSq, getL, getI, getB, getD, x1, asRef, atL, opMth, mthOk, opBin, opAdd, opAug, opCmp, opIx, opIxn, opIxm, opSl, opSet, isTy, truthX, srcX, srcE, keyOf, isNonX, if_true, if_false, reduceCtorEq, Bool.false_eq_true, Bool.not_true, Bool.not_false, Bool.true_eq_false, and_true, true_and, List.getElem?_cons_zero, List.getElem?_cons_succ, List.set_cons_zero, List.set_cons_succ, List.map_cons, List.map_nil, List.length_cons, List.length_nil, List.cons_append, List.nil_append, List.replicate_succ, List.replicate_zero, Nat.add_one_sub_one, Nat.reduceAdd, Nat.reduceSub, Nat.zero_add, Nat.sub_zero, startD, $xs,*])
/-! ### all rows, the least plan -/
theorem dataLt_intsD (a b : List Int) : PySem.W.dataLt (toPy (intsD a)) (toPy (intsD b)) = decide (a < b) := by
  show PySem.W.dataLt (.tuple (toPyL (a.map Dat.int))) (.tuple (toPyL (b.map Dat.int))) = _
  rw [toPyL_ints, toPyL_ints, PySem.W.dataLt_tuple]
  exact PySem.W.dataLt_ints a b
theorem leD_intsD (a b : List Int) : leD (intsD a) (intsD b) = decide (a ≤ b) := by
  unfold leD
  rw [dataLt_intsD]
  by_cases h : b < a
  · rw [decide_eq_true h, decide_eq_false (fun z => z h)]; rfl
  · rw [decide_eq_false h, decide_eq_true (show a ≤ b from h)]; rfl
theorem sortD_rows (L : List (List Int)) : sortD (L.map intsD) = (L.mergeSort fun a b => decide (a ≤ b)).map intsD := by
  unfold sortD
  rw [List.map_mergeSort (s := leD)]
  intro a _ b _
  exact (leD_intsD a b).symm
theorem alikeAll_ints : ∀ a b : List Int, PySem.W.alikeAll (a.map PyData.int) (b.map PyData.int) = true
  | [], b => by rw [List.map_nil, PySem.W.alikeAll]
  | x :: a, [] => by rw [List.map_cons, List.map_nil, PySem.W.alikeAll]
  | x :: a, y :: b => by rw [List.map_cons, List.map_cons, PySem.W.alikeAll, PySem.W.alike, alikeAll_ints a b]; rfl
theorem sortable_rows {L : List (List Int)} (h : ∀ l ∈ L, l ≠ []) : sortable (L.map intsD) := by
  refine ⟨okDL_rows L, ?_, .inl ?_⟩
  · rw [toPyL_map]
    intro d hd d' hd'
    rw [List.map_map] at hd hd'
    obtain ⟨a, _, rfl⟩ := List.mem_map.mp hd
    obtain ⟨b, _, rfl⟩ := List.mem_map.mp hd'
    show PySem.W.alike (.tuple (toPyL (a.map Dat.int))) (.tuple (toPyL (b.map Dat.int))) = true
    rw [toPyL_ints, toPyL_ints, PySem.W.alike]
    exact alikeAll_ints a b
  · rw [toPyL_map]
    intro d hd
    rw [List.map_map] at hd
    obtain ⟨a, ha, rfl⟩ := List.mem_map.mp hd
    cases a with
    | nil => exact (h _ ha rfl).elim
    | cons x a => exact ⟨_, _, rfl⟩
theorem filterMap_rows {f : Dat → Option Dat} {p : List Int → Bool} {g : List Int → List Int} (hf : ∀ l, f (intsD l) = if p l then some (intsD (g l)) else none) (L : List (List Int)) : (L.map intsD).filterMap f = ((L.filter p).map g).map intsD := by
  induction L with
  | nil => rfl
  | cons l L ih =>
    rw [List.map_cons, List.filter_cons]
    cases h : p l with
    | true => rw [List.filterMap_cons_some (by rw [hf, h]; rfl), ih]; rfl
    | false => rw [List.filterMap_cons_none (by rw [hf, h]; rfl), ih]; rfl
theorem rowsL_len {m : Int} : ∀ (W : List Int) (rows : List (List Int)), (W.foldl (moreRows m) rows).length ≤ rows.length * 2 ^ W.length
  | [], rows => by simp
  | d :: W, rows => by
    rw [List.foldl_cons]
    have h1 := rowsL_len (m := m) W (moreRows m rows d)
    have h2 : (moreRows m rows d).length ≤ rows.length * 2 := by
      unfold moreRows
      rw [List.length_append, List.length_map]
      have : ∀ p : List Int → Bool, (rows.filter p).length ≤ rows.length := fun p => List.length_filter_le p rows
      exact Nat.le_trans (Nat.add_le_add_left (this _) _) (by omega)
    rw [List.length_cons, Nat.pow_succ]
    calc _ ≤ _ := h1
      _ ≤ rows.length * 2 * 2 ^ W.length := Nat.mul_le_mul_right _ h2
      _ = _ := by rw [Nat.mul_assoc, Nat.mul_comm 2]
def rowOf : Dat → List Dat
  | .tup l => l
  | _ => []
def sp__law_rows : DSp := fun ds S q _ => ∃ (W : List Int) (m : Int), ds = [intsD W, .int m] ∧ W.length ≤ 20 ∧ 1 ≤ m ∧ q (.l ((sortedRows m W).map intsD)) S
theorem w__law_rows {ds S q e} (h : sp__law_rows ds S q e) : bodyW b__law_rows N__law_rows 2 ds S q e := by
  obtain ⟨W, m, rfl, hW, hm, hq⟩ := h
  have sz : sizeLine = 16777216 := sizeLine_eq
  refine ⟨rfl, ?_⟩
  unfold b__law_rows N__law_rows
  refine wp_step fun N1 hN1 => ?_
  simp_arith []
  refine ⟨by omega, by omega, fun t nt => hN1 _ _ (wp_step fun N2 hN2 => ?_)⟩
  clear hN1 N1
  simp_arith [intsD]
  refine ⟨by rw [List.length_map]; omega, ?_⟩
  have bound : ∀ i, i ≤ W.length → ((W.take i).foldl (moreRows m) [[]]).length ≤ 1048576 := fun i hi => by
    have h1 := rowsL_len (m := m) (W.take i) [[]]
    have h2 : 2 ^ (W.take i).length ≤ 2 ^ 20 := Nat.pow_le_pow_right (by omega) (by rw [List.length_take]; omega)
    simp only [List.length_cons, List.length_nil] at h1
    omega
  refine forW_by (fun i δ S' => ∃ (a3 : Option Dat), δ = [some (.tup (W.map Dat.int)), some (.int m), some (.ref t), a3, none] ∧ Sub S S' ∧ S' t = some (.lst (((W.take i).foldl (moreRows m) [[]]).map intsD))) ⟨_, rfl, .new nt, by rw [supd_same]; rfl⟩ (fun _ _ _ _ => trivial)
    (fun i d δ S' N hd ⟨a3, hδ, hs, e1⟩ hN => ?_) (fun δ S' ⟨a3, hδ, hs, e1⟩ => ?_)
  · subst hδ
    rw [List.getElem?_map, Option.map_eq_some_iff] at hd
    obtain ⟨day, hd, rfl⟩ := hd
    have hi := (List.getElem?_eq_some_iff.mp hd).1
    generalize hrows : (W.take i).foldl (moreRows m) [[]] = rows at e1
    have hb := bound i (by omega)
    have hb2 := bound (i + 1) (by omega)
    have hstep : (W.take (i + 1)).foldl (moreRows m) [[]] = moreRows m rows day := by
      rw [List.take_add_one, hd, List.foldl_append, hrows]; rfl
    rw [hrows] at hb
    rw [hstep] at hb2
    simp_arith []
    refine wp_step fun N3 hN3 => ?_
    simp_arith [e1]
    refine ⟨by rw [List.length_map]; omega, ?_⟩
    refine compW_pure e1 (fun x => if decide (((rowOf x).length : Int) < m) then some (.tup (rowOf x ++ [.int day])) else none) _ _ _ (fun x hx k hk => ?_) ?_
    · obtain ⟨l, hl, rfl⟩ := List.mem_map.mp hx
      have hll : l.length ≤ 20 := by
        rw [← hrows] at hl
        have := (mem_rowsL (m := m) (W := W.take i)).mp hl
        have := this.1.length_le
        rw [List.length_take] at this; omega
      simp_arith [intsD, List.length_map]
      simp only [rowOf, intsD, List.length_map] at hk
      by_cases h : (l.length : Int) < m
      · simp only [decide_eq_true h, if_true] at hk
        simp_arith [decide_eq_true h]
        exact ⟨by omega, by omega, hk⟩
      · simp only [decide_eq_false h, Bool.false_eq_true, if_false] at hk
        simp_arith [decide_eq_false h]
        exact hk
    · rw [List.nil_append, filterMap_rows (p := fun l => decide ((l.length : Int) < m)) (g := fun l => l ++ [day]) (fun l => by simp [rowOf, intsD])]
      simp_arith [e1]
      have hlen : rows.length + (((rows.filter fun l => decide ((l.length : Int) < m)).map (· ++ [day])).map intsD).length = (moreRows m rows day).length := by
        unfold moreRows; simp
      refine ⟨by rw [List.length_map, hlen]; omega, hN3 _ _ ?_⟩
      simp_arith []
      refine hN _ _ ⟨_, rfl, hs.put nt, ?_⟩
      rw [supd_same, hstep]
      unfold moreRows
      rw [List.map_append]
  · subst hδ
    rw [List.length_map, List.take_length] at e1
    have hb := bound W.length (Nat.le_refl _)
    rw [List.take_length] at hb
    refine hN2 _ _ (wp_step fun N3 hN3 => ?_)
    simp_arith [e1]
    refine ⟨by rw [List.length_map]; omega, ?_⟩
    refine compW_pure e1 (fun x => if decide (((rowOf x).length : Int) = m) then some x else none) _ _ _ (fun x hx k hk => ?_) ?_
    · obtain ⟨l, hl, rfl⟩ := List.mem_map.mp hx
      simp_arith [intsD, List.length_map]
      simp only [rowOf, intsD, List.length_map] at hk
      refine eqX_int ?_
      by_cases h : (l.length : Int) = m
      · simp only [decide_eq_true h, if_true] at hk ⊢; exact hk
      · simp only [decide_eq_false h, Bool.false_eq_true, if_false] at hk ⊢; exact hk
    · rw [List.nil_append, filterMap_rows (p := fun l => decide ((l.length : Int) = m)) (g := fun l => l) (fun l => by simp [rowOf, intsD]), List.map_id']
      refine ⟨sortable_rows fun l hl z => ?_, S, hs, ?_⟩
      · subst z
        have := (List.mem_filter.mp hl).2
        simp at this; omega
      · rw [sortD_rows]; exact hq
theorem least_cons (c : List Int) (w : Want) (ws : List Want) : ∃ f : List Int → Option (List (List Int)), least c (w :: ws) = (sortedRows w.1 w.2).findSome? f ∧ ∀ r, (Okc (K85.sub c r) → f r = (least (K85.sub c r) ws).map (r :: ·)) ∧ (¬ Okc (K85.sub c r) → f r = none) := by
  classical
  exact ⟨fun r => if Okc (K85.sub c r) then (least (K85.sub c r) ws).map (r :: ·) else none, by rw [least], fun r => ⟨fun h => if_pos h, fun h => if_neg h⟩⟩
def resD : Option (List (List Int)) → Dat
  | none => .non
  | some P => .tup (P.map intsD)
def sp__law_least (k : Nat) : DSp := fun ds S q _ => ∃ (c : List Int) (ws : List Want), ds = [intsD c, wantsD ws] ∧ ws.length ≤ k ∧ k ≤ 10 ∧ c ≠ [] ∧ c.length ≤ 20 ∧ (∀ w ∈ ws, WOk c.length w) ∧ q (.d (resD (least c ws))) S
theorem rng_len {h : Nat} {l : List Int} (hl : l.Pairwise (· < ·)) (hr : Rng h l) : l.length ≤ h := by
  have nd : l.Nodup := hl.imp fun h => by omega
  have := nodup_len (m := (List.range h).map fun (n : Nat) => (n : Int)) nd fun x hx => by
    obtain ⟨h0, h1⟩ := hr x hx
    exact List.mem_map.mpr ⟨x.toNat, List.mem_range.mpr (by omega), by omega⟩
  simpa using this
theorem least_len : ∀ {ws : List Want} {c : List Int} {P : List (List Int)}, least c ws = some P → P.length = ws.length
  | [], c, P, h => by
    unfold least at h
    cases h; rfl
  | w :: ws, c, P, h => by
    obtain ⟨f, e, hf⟩ := least_cons c w ws
    rw [e] at h
    obtain ⟨l1, a, l2, _, fa, _⟩ := List.findSome?_eq_some_iff.mp h
    by_cases ho : Okc (K85.sub c a)
    · rw [(hf a).1 ho, Option.map_eq_some_iff] at fa
      obtain ⟨Q, hQ, rfl⟩ := fa
      rw [List.length_cons, least_len hQ, List.length_cons]
    · rw [(hf a).2 ho] at fa; cases fa
theorem w__law_least {k : Nat} {ds S q e} (h : sp__law_least (k + 1) ds S q e) : bodyW (b__law_least sp__law_rows (sp__law_least k)) N__law_least 2 ds S q e := by
  obtain ⟨c, ws, rfl, hl, hk, hne, hc, hw, hq⟩ := h
  have sz : sizeLine = 16777216 := sizeLine_eq
  refine ⟨rfl, ?_⟩
  unfold b__law_least N__law_least
  refine wp_step fun N1 hN1 => ?_
  simp_arith []
  refine ⟨by omega, eqX_wants ?_⟩
  cases ws with
  | nil =>
    simp_arith [decide_true]
    refine wp_step fun N2 hN2 => ?_
    simp_arith []
    refine ⟨by omega, S, .refl, ?_⟩
    have : least c [] = some [] := by unfold least; rfl
    rw [this] at hq
    exact hq
  | cons w ws =>
    have hnil : ¬ (w :: ws = []) := by simp
    simp_arith [decide_eq_false hnil]
    refine hN1 _ _ (wp_step fun N2 hN2 => ?_)
    clear hN1 N1
    obtain ⟨w1, w2, w3⟩ := hw w List.mem_cons_self
    have wl := rng_len w1 w2
    have e0 : (List.map wantD (w :: ws))[0]? = some (wantD w) := rfl
    simp_arith [wantsD, e0, wantD, intsD]
    refine ⟨w.2, w.1, rfl, by omega, w3, ?_⟩
    obtain ⟨f, ef, hf⟩ := least_cons c w ws
    have rlen : (sortedRows w.1 w.2).length ≤ 1048576 := by
      unfold sortedRows
      rw [List.length_mergeSort]
      refine Nat.le_trans (List.length_filter_le _ _) ?_
      have h2 := rowsL_len (m := w.1) w.2 [[]]
      have h3 : 2 ^ w.2.length ≤ 2 ^ 20 := Nat.pow_le_pow_right (by omega) (by omega)
      simp only [List.length_cons, List.length_nil] at h2
      unfold rowsL
      omega
    simp_arith []
    refine ⟨by rw [List.length_map]; omega, ?_⟩
    refine forW_by (fun i δ S' => ∃ (a2 a3 a4 : Option Dat), δ = [some (.tup (c.map Dat.int)), some (wantsD (w :: ws)), a2, a3, a4, none] ∧ S' = S ∧ least c (w :: ws) = ((sortedRows w.1 w.2).drop i).findSome? f) ⟨_, _, _, rfl, rfl, by rw [ef]; rfl⟩ (fun _ _ _ _ => trivial)
      (fun i d δ S' N hd ⟨a2, a3, a4, hδ, hS, hle⟩ hN => ?_) (fun δ S' ⟨a2, a3, a4, hδ, hS, hle⟩ => ?_)
    · subst hδ hS
      rw [List.getElem?_map, Option.map_eq_some_iff] at hd
      obtain ⟨row, hrow, rfl⟩ := hd
      have hi := (List.getElem?_eq_some_iff.mp hrow).1
      have hdr : (sortedRows w.1 w.2).drop i = row :: (sortedRows w.1 w.2).drop (i + 1) := by
        rw [List.drop_eq_getElem_cons hi]
        congr 1
        exact (List.getElem?_eq_some_iff.mp hrow).2
      rw [hdr, List.findSome?_cons] at hle
      have goOn : f row = none → N [some (.tup (c.map Dat.int)), some (wantsD (w :: ws)), some (intsD row), some (intsD (K85.sub c row)), a4, none] S' ∧ ∀ a4', N [some (.tup (c.map Dat.int)), some (wantsD (w :: ws)), some (intsD row), some (intsD (K85.sub c row)), a4', none] S' := fun hfr => by
        rw [hfr] at hle
        exact ⟨hN _ _ ⟨_, _, _, rfl, rfl, hle⟩, fun a4' => hN _ _ ⟨_, _, _, rfl, rfl, hle⟩⟩
      have rowl : row.length ≤ 20 := by
        have := (mem_sorted.mp (List.mem_of_getElem? hrow)).1.length_le
        omega
      simp_arith []
      refine wp_step fun N3 hN3 => ?_
      simp_arith [intsD, List.length_map, Int.toNat_natCast]
      refine ⟨by omega, by omega, ?_⟩
      refine compW_pure trivial (fun x => match x with | .int i => some (.int (cap c i - (row.count i : Int))) | _ => none) _ _ _ (fun x hx k hk => ?_) ?_
      · obtain ⟨j, hj, rfl⟩ := List.mem_map.mp hx
        rw [List.mem_range] at hj
        have hin : InR c (j : Int) := ⟨by omega, by omega⟩
        simp_arith [ints_at hin, count_ints]
        exact ⟨.inl trivial, okD_int _, okDL_ints _, hk⟩
      · have er : ((List.range c.length).map fun (i : Nat) => Dat.int i).filterMap (fun x => match x with | .int i => some (Dat.int (cap c i - (row.count i : Int))) | _ => none) = (K85.sub c row).map Dat.int := by
          rw [filterMap_all (h := fun x => match x with | .int i => Dat.int (cap c i - (row.count i : Int)) | x => x) fun x hx => ?_]
          · apply List.ext_getElem?
            intro j
            simp only [List.map_map, List.getElem?_map, sub_get]
            by_cases hj : j < c.length
            · have hin : InR c (j : Int) := ⟨by omega, by omega⟩
              have := cap_get hin
              rw [Int.toNat_natCast] at this
              rw [List.getElem?_range hj, this]; rfl
            · rw [List.getElem?_eq_none (by simp; omega), List.getElem?_eq_none (by omega)]; rfl
          · obtain ⟨j, hj, rfl⟩ := List.mem_map.mp hx; rfl
        rw [List.nil_append, er]
        refine hN3 _ _ (wp_step fun N4 hN4 => ?_)
        clear hN3 N3
        obtain ⟨n, ns, hn⟩ : ∃ n ns, K85.sub c row = n :: ns := by
          cases hr : K85.sub c row with
          | nil =>
            have := sub_len c row
            rw [hr] at this
            exact (hne (List.eq_nil_of_length_eq_zero this.symm)).elim
          | cons n ns => exact ⟨n, ns, rfl⟩
        have hio : intsOf ((K85.sub c row).map Dat.int) = some (n :: ns) := by rw [intsOf_ints, hn]
        have hok : Okc (K85.sub c row) ↔ 0 ≤ ns.foldl min n := by
          rw [foldl_min, hn]
          unfold Okc
          constructor
          · intro h; exact ⟨h n List.mem_cons_self, fun x hx => h x (List.mem_cons_of_mem _ hx)⟩
          · rintro ⟨h1, h2⟩ v hv
            rcases List.mem_cons.mp hv with e | e
            · subst e; exact h1
            · exact h2 v e
        simp_arith [hio]
        by_cases ho : 0 ≤ ns.foldl min n
        · have hoc := hok.mpr ho
          have hfr := (hf row).1 hoc
          simp_arith [decide_eq_true ho]
          refine wp_step fun N5 hN5 => ?_
          have ed : cutD ((w :: ws).map wantD) (some (1 : Int)) none = ws.map wantD := by
            have := cut_drop ((w :: ws).map wantD) 1
            exact this
          simp_arith [wantsD]
          rw [show wantD w :: List.map wantD ws = (w :: ws).map wantD from rfl, ed]
          refine ⟨K85.sub c row, ws, rfl, by simp at hl; omega, by omega, by rw [hn]; simp, by rw [sub_len]; exact hc, fun w' hw' => by rw [sub_len]; exact hw w' (List.mem_cons_of_mem _ hw'), ?_⟩
          simp_arith []
          refine hN5 _ _ (wp_step fun N6 hN6 => ?_)
          cases hb : least (K85.sub c row) ws with
          | none =>
            rw [hb] at hfr
            simp_arith [resD]
            refine hN6 _ _ ?_
            simp_arith []
            refine hN4 _ _ ?_
            simp_arith []
            exact (goOn hfr).2 _
          | some P =>
            rw [hb] at hfr
            have hfr : f row = some (row :: P) := hfr
            rw [hfr] at hle
            have hPl := least_len hb
            simp_arith [resD]
            refine wp_step fun N7 hN7 => ?_
            simp_arith []
            simp only [List.length_cons] at hl
            refine ⟨by omega, by rw [List.length_map]; omega, _, .refl, ?_⟩
            rw [hle] at hq
            exact hq
        · have hoc : ¬ Okc (K85.sub c row) := fun z => ho (hok.mp z)
          simp_arith [decide_eq_false ho]
          refine hN4 _ _ ?_
          simp_arith []
          exact (goOn ((hf row).2 hoc)).1
    · subst hδ hS
      rw [List.length_map, List.drop_length] at hle
      refine hN2 _ _ (wp_step fun N3 hN3 => ?_)
      simp_arith []
      rw [hle] at hq
      exact ⟨_, .refl, hq⟩
theorem w__law_least0 {ds S q e} (h : sp__law_least 0 ds S q e) (sp : DSp) : bodyW (b__law_least sp__law_rows sp) N__law_least 2 ds S q e := by
  obtain ⟨c, ws, rfl, hl, hk, hne, hc, hw, hq⟩ := h
  have sz : sizeLine = 16777216 := sizeLine_eq
  have : ws = [] := List.eq_nil_of_length_eq_zero (by omega)
  subst this
  refine ⟨rfl, ?_⟩
  unfold b__law_least N__law_least
  refine wp_step fun N1 hN1 => ?_
  simp_arith []
  refine ⟨by omega, eqX_wants ?_⟩
  simp_arith [decide_true]
  refine wp_step fun N2 hN2 => ?_
  simp_arith []
  refine ⟨by omega, S, .refl, ?_⟩
  have : least c [] = some [] := by unfold least; rfl
  rw [this] at hq
  exact hq
end DL
/-! k85: what each def does. -/
namespace DL
open PySem PySem.Spec PyProof.Rows L2 K85
local macro_rules
  | `(tactic| simp_arith only [$xs,*]) => `(tactic| simp only [wpSs, wpS, wpX, wpSrc, wpXs, wpA, wpO, wpC, wpB, bindTg, bindTgs, slotsT, slotsTs, wipeD, settle, opBlt, getSq, getL, getI, getB, getD, x1, asRef, atL, opMth, mthOk, opBin, opAdd, opAug, opCmp, opIx, opIxn, opIxm, opSl, opSet, isTy, truthX, srcX, srcE, keyOf, isNonX, if_true, if_false, reduceCtorEq, Bool.false_eq_true, Bool.not_true, Bool.not_false, Bool.true_eq_false, and_true, true_and, List.getElem?_cons_zero, List.getElem?_cons_succ, List.set_cons_zero, List.set_cons_succ, List.map_cons, List.map_nil, List.length_cons, List.length_nil, List.cons_append, List.nil_append, List.replicate_succ, List.replicate_zero, Nat.add_one_sub_one, Nat.reduceAdd, Nat.reduceSub, Nat.zero_add, Nat.sub_zero, startD, $xs,*])
local macro_rules
  | `(tactic| simp_arith [$xs,*]) => `(tactic| simp only [DL.wpSs_nil, wpS, wpX, wpSrc, wpXs, wpA, wpO, wpC, wpB, bindTg, bindTgs, slotsT, slotsTs, wipeD, settle, opBlt, getSq, getL, getI, getB, getD, x1, asRef, atL, opMth, mthOk, opBin, opAdd, opAug, opCmp, opIx, opIxn, opIxm, opSl, opSet, isTy, truthX, srcX, srcE, keyOf, isNonX, if_true, if_false, reduceCtorEq, Bool.false_eq_true, Bool.not_true, Bool.not_false, Bool.true_eq_false, and_true, true_and, List.getElem?_cons_zero, List.getElem?_cons_succ, List.set_cons_zero, List.set_cons_succ, List.map_cons, List.map_nil, List.length_cons, List.length_nil, List.cons_append, List.nil_append, List.replicate_succ, List.replicate_zero, Nat.add_one_sub_one, Nat.reduceAdd, Nat.reduceSub, Nat.zero_add, Nat.sub_zero, startD, $xs,*])
/-! ### the law -/
theorem firstPlan_asc : ∀ (ws : List Want) (c : List Int), Okc c → (∀ w ∈ ws, w.2.Pairwise (· < ·)) → HasPlan c ws → ∀ l ∈ firstPlan c ws, l.Pairwise (· < ·)
  | [], c, _, _, _, l, hl => by cases hl
  | w :: ws, c, hc, hw, hp, l, hl => by
    have hW := hw w List.mem_cons_self
    have hW2 : w.2.Nodup := hW.imp fun h => by omega
    obtain ⟨e, g1, g2, g3, g4, g5⟩ := greedy_ok hW ((open_iff hW2).mp hp)
    have ge : firstRow c w ws = e := by unfold firstRow; rw [g1]; rfl
    have g4 : rowP c ws e := g4
    have hl : l ∈ firstRow c w ws :: firstPlan (K85.sub c (firstRow c w ws)) ws := hl
    rw [ge] at hl
    rcases List.mem_cons.mp hl with z | z
    · subst z; exact hW.sublist g2
    · exact firstPlan_asc ws (K85.sub c e) g4.1 (fun w h => hw w (List.mem_cons_of_mem _ h)) g4.2 l z
def sp_law : DSp := fun ds S q _ => ∃ l : List Int, ds = [.scr l] ∧ q (.d (.bl true)) S
theorem w_law {ds S q e} (h : sp_law ds S q e) : bodyW (b_law sp__law_source sp__law_draw sp__law_wants (sp__law_least 5) sp_first_plan sp__law_is_plan) N_law 1 ds S q e := by
  obtain ⟨l, rfl, hq⟩ := h
  have sz : sizeLine = 16777216 := sizeLine_eq
  refine ⟨rfl, ?_⟩
  unfold b_law N_law
  refine wp_step fun N1 hN1 => ?_
  simp_arith []
  refine ⟨l, rfl, fun pc S1 cells seed hs0 epc hcl hs1 hs2 p np => ?_⟩
  have hne : p ≠ pc := by intro z; subst z; rw [epc] at np; cases np
  have lf0 : Lft (supd S1 p (.lst [.ref pc, .int 0, .int 0, .int 0, .int seed])) p pc 0 := ⟨cells, 0, 0, 0, seed, supd_same, by rw [supd_ne hne.symm]; exact epc, hne, Nat.zero_le _, hcl, Nat.le_refl _, hs1, hs2⟩
  have sub0 : Sub S (supd S1 p (.lst [.ref pc, .int 0, .int 0, .int 0, .int seed])) := hs0.newOf np
  have npS : S p = none := hs0.non _ np
  generalize supd S1 p (.lst [.ref pc, .int 0, .int 0, .int 0, .int seed]) = S2 at lf0 sub0
  refine hN1 _ _ (wp_step fun N2 hN2 => ?_)
  clear hN1 N1
  simp_arith []
  refine ⟨by omega, by omega, ?_⟩
  refine forW_by (fun i δ S' => ∃ (a2 a3 a4 a5 a6 a7 : Option Dat), δ = [some (.scr l), some (.ref p), a2, a3, a4, a5, a6, a7, none] ∧ Lft S' p pc (1000 * i) ∧ Sub S S') ⟨_, _, _, _, _, _, rfl, lf0, sub0⟩ (fun _ _ _ _ => trivial)
    (fun i d δ S' N hd ⟨a2, a3, a4, a5, a6, a7, hδ, lf, hsub⟩ hN => ?_) (fun δ S' ⟨a2, a3, a4, a5, a6, a7, hδ, lf, hsub⟩ => ?_)
  · subst hδ
    have hi4 : i < 4 := by
      have := (List.getElem?_eq_some_iff.mp hd).1
      simpa using this
    have subp : ∀ {Sx : Sto}, (∀ a, a ≠ p → Sx a = S' a) → Sub S Sx := fun {Sx} h a o ho => by
      rw [h a (by intro z; subst z; rw [npS] at ho; cases ho)]; exact hsub a o ho
    simp_arith []
    refine wp_step fun N3 hN3 => ?_
    simp_arith []
    refine ⟨p, pc, 4, _, rfl, by omega, by omega, lf, by omega, fun n S3 n0 n1 lf3 fr3 => ?_⟩
    simp_arith []
    refine ⟨by omega, by omega, ?_⟩
    refine compW_by (fun j acc S' => ∃ c : List Int, acc = c.map .int ∧ c.length = j ∧ (∀ x ∈ c, 0 ≤ x) ∧ Lft S' p pc (1000 * i + 1 + j) ∧ (∀ a, a ≠ p → S' a = S3 a)) ⟨[], rfl, rfl, (fun _ h => by cases h), lf3, fun _ _ => rfl⟩ (fun _ _ _ _ => trivial)
      (fun j d acc Sx k hd ⟨c, e1, e2, e3, e4, e5⟩ hk => ?_) (fun acc Sx ⟨c, e1, e2, e3, e4, e5⟩ => ?_)
    · have hj : j < (1 + n).toNat := by
        have := (List.getElem?_eq_some_iff.mp hd).1
        simpa using this
      refine ⟨p, pc, 4, _, rfl, by omega, by omega, e4, by omega, fun r S4 r0 r1 lf4 fr4 => ?_⟩
      simp_arith []
      refine hk _ _ ⟨c ++ [r], by rw [e1]; simp, by simp [e2], fun x hx => ?_, by rw [← Nat.add_assoc]; exact lf4, fun a ha => by rw [fr4 a ha]; exact e5 a ha⟩
      rcases List.mem_append.mp hx with z | z
      · exact e3 x z
      · simp at z; subst z; exact r0
    · subst e1
      rw [List.length_map, List.length_range] at e2 e4
      have hc0 : 0 < c.length := by omega
      have hc1 : c.length ≤ 4 := by omega
      have frx : ∀ a, a ≠ p → Sx a = S' a := fun a ha => by rw [e5 a ha]; exact fr3 a ha
      refine hN3 _ _ (wp_step fun N4 hN4 => ?_)
      clear hN3 N3
      simp_arith []
      refine ⟨p, pc, 5, _, rfl, by omega, by omega, e4, by omega, fun many S5 m0 m1 lf5 fr5 => ?_⟩
      simp_arith []
      refine ⟨p, pc, c, many, _, rfl, hc0, by omega, m0, by omega, lf5, by omega, fun ws S6 wl wok lf6 fr6 => ?_⟩
      simp_arith []
      have fr : ∀ a, a ≠ p → S6 a = S' a := fun a ha => by rw [fr6 a ha, fr5 a ha]; exact frx a ha
      have lfN : Lft S6 p pc (1000 * (i + 1)) := lf6.mono (by omega)
      have subN := subp fr
      have hcne : c ≠ [] := by intro z; subst z; simp at hc0
      have okc : Okc c := e3
      have asc : ∀ w ∈ ws, w.2.Pairwise (· < ·) := fun w hw => (wok w hw).1
      have at_ : ∀ i, i < ws.length → ∃ w ∈ ws, dem ws i = w.1 ∧ own ws i = w.2 := fun i hi => ⟨_, List.getElem_mem hi, dem_get (List.getElem?_eq_getElem hi)⟩
      have ownout : ∀ i, ¬ i < ws.length → own ws i = [] := fun i hi => by
        unfold own
        rw [List.getD_eq_getElem?_getD, List.getElem?_eq_none (by omega)]; rfl
      have inr : ∀ j, ∀ d ∈ own ws j, InR c d := fun j d hd => by
        by_cases hj : j < ws.length
        · obtain ⟨w, hw, _, ho⟩ := at_ j hj
          rw [ho] at hd
          exact (wok w hw).2.1 d hd
        · rw [ownout j hj] at hd; cases hd
      have ownl : ∀ j, (own ws j).length ≤ 1000 := fun j => by
        by_cases hj : j < ws.length
        · obtain ⟨w, hw, _, ho⟩ := at_ j hj
          rw [ho]
          have := rng_len (wok w hw).1 (wok w hw).2.1
          omega
        · rw [ownout j hj]; simp
      have wb : WB c ws := ⟨⟨by omega, inr, ownl, by omega⟩, fun j hj => by
        obtain ⟨w, hw, hd, _⟩ := at_ j hj
        rw [hd]
        have := (wok w hw).2.2
        omega⟩
      refine hN4 _ _ (wp_step fun N5 hN5 => ?_)
      clear hN4 N4
      simp_arith []
      refine ⟨c, ws, rfl, by omega, by omega, hcne, by omega, wok, ?_⟩
      simp_arith []
      refine hN5 _ _ (wp_step fun N6 hN6 => ?_)
      clear hN5 N5
      simp_arith []
      refine ⟨by omega, by omega, ?_⟩
      refine forW_by (fun t δ Sy => ∃ (a6 a7 : Option Dat), δ = [some (.scr l), some (.ref p), some d, some (.tup (c.map Dat.int)), some (wantsD ws), some (resD (least c ws)), a6, a7, none] ∧ Sy = S6) ⟨_, _, rfl, rfl⟩ (fun _ _ _ _ => trivial) (fun t d2 δ Sy N7 hd2 ⟨a6, a7, hδ, hSy⟩ hN7 => ?_) (fun δ Sy ⟨a6, a7, hδ, hSy⟩ => ?_)
      · subst hδ hSy
        simp_arith []
        refine wp_step fun N8 hN8 => ?_
        simp_arith []
        refine ⟨c, ws, rfl, okc, hcne, wb, asc, fun hp => ?_, fun hp => ?_⟩
        · obtain ⟨hle, hpl⟩ := (least_ok ws c okc asc).1 hp
          rw [hle]
          simp_arith [resD]
          refine hN8 _ _ (wp_step fun N9 hN9 => ?_)
          simp_arith [resD]
          refine wp_step fun N10 hN10 => ?_
          simp_arith []
          refine ⟨c, ws, firstPlan c ws, rfl, hpl, wb.toBnd, firstPlan_asc ws c okc asc hp, ?_⟩
          simp_arith []
          refine eqX_same ?_
          simp_arith []
          refine hN10 _ _ ?_
          simp_arith []
          refine hN9 _ _ ?_
          simp_arith []
          exact hN7 _ _ ⟨some d2, some (.tup ((firstPlan c ws).map intsD)), by rw [hle]; rfl, rfl⟩
        · have hle := (least_ok ws c okc asc).2 hp
          rw [hle]
          simp_arith [resD]
          refine hN8 _ _ (wp_step fun N9 hN9 => ?_)
          simp_arith [resD]
          refine wp_step fun N10 hN10 => ?_
          simp_arith []
          refine hN10 _ _ ?_
          simp_arith []
          refine hN9 _ _ ?_
          simp_arith []
          exact hN7 _ _ ⟨some d2, some .non, by rw [hle]; rfl, rfl⟩
      · subst hδ hSy
        refine hN6 _ _ ?_
        simp_arith []
        exact hN _ _ ⟨_, _, _, _, _, _, rfl, lfN, subN⟩
  · subst hδ
    refine hN2 _ _ (wp_step fun N3 hN3 => ?_)
    simp_arith []
    exact ⟨S, hsub, hq⟩
end DL
namespace DL
open PySem PySem.Spec PyProof.Rows L2 K85
section
variable {P : Program} {w : World} {K : PySem.W.Frag} {mg : Str → Option Value} {base : Heap}
theorem d_takers (hb : ∀ y ∈ bltNames, mg y = none) (h : Has K mg "takers" (top 1))  : DefOk P w K mg base 1 "takers" sp_takers := by
  obtain ⟨f, fd, F, hm⟩ := h
  exact def_okD (ps := ["share", "day"]) (b_takers ) F sc_takers (F.bindsN fun _ _ _ _ _ _ us hl => match us, hl with | [_, _], _ => rfl) hm hb (ck_takers ) (fun A hr => by simp only [b_takers, okSs, okS, okE, okEs, okEo, okSrc, and_true, true_and, and_self]) (fun ds S q e h => w_takers h)
theorem d_searched (hb : ∀ y ∈ bltNames, mg y = none) (h : Has K mg "searched" (top 2)) (c_takers : DefOk P w K mg base 1 "takers" sp_takers) : DefOk P w K mg base 2 "searched" sp_searched := by
  obtain ⟨f, fd, F, hm⟩ := h
  exact def_okD (ps := ["wants", "share", "begun"]) (b_searched sp_takers) F sc_searched (F.bindsN fun _ _ _ _ _ _ us hl => match us, hl with | [_, _, _], _ => rfl) hm hb (ck_searched sp_takers) (fun A hr => by have h_takers := c_takers.call (A := A) hr (by decide); simp only [b_searched, okSs, okS, okE, okEs, okEo, okSrc, and_true, true_and, and_self, h_takers]) (fun ds S q e h => w_searched h)
theorem d_lengthened (hb : ∀ y ∈ bltNames, mg y = none) (h : Has K mg "lengthened" (top 3)) (c_searched : DefOk P w K mg base 2 "searched" sp_searched) (c_takers : DefOk P w K mg base 1 "takers" sp_takers) : DefOk P w K mg base 3 "lengthened" sp_lengthened := by
  obtain ⟨f, fd, F, hm⟩ := h
  exact def_okD (ps := ["slots", "wants", "share", "ask"]) (b_lengthened sp_searched sp_takers) F sc_lengthened (F.bindsN fun _ _ _ _ _ _ us hl => match us, hl with | [_, _, _, _], _ => rfl) hm hb (ck_lengthened sp_searched sp_takers) (fun A hr => by have h_searched := c_searched.call (A := A) hr (by decide); have h_takers := c_takers.call (A := A) hr (by decide); simp only [b_lengthened, okSs, okS, okE, okEs, okEo, okSrc, and_true, true_and, and_self, h_searched, h_takers]) (fun ds S q e h => w_lengthened h)
theorem d_filled (hb : ∀ y ∈ bltNames, mg y = none) (h : Has K mg "filled" (top 4)) (c_lengthened : DefOk P w K mg base 3 "lengthened" sp_lengthened) : DefOk P w K mg base 4 "filled" sp_filled := by
  obtain ⟨f, fd, F, hm⟩ := h
  exact def_okD (ps := ["slots", "wants", "share"]) (b_filled sp_lengthened) F sc_filled (F.bindsN fun _ _ _ _ _ _ us hl => match us, hl with | [_, _, _], _ => rfl) hm hb (ck_filled sp_lengthened) (fun A hr => by have h_lengthened := c_lengthened.call (A := A) hr (by decide); simp only [b_filled, okSs, okS, okE, okEs, okEo, okSrc, and_true, true_and, and_self, h_lengthened]) (fun ds S q e h => w_filled h)
theorem d_rows_of (hb : ∀ y ∈ bltNames, mg y = none) (h : Has K mg "rows_of" (top 5))  : DefOk P w K mg base 1 "rows_of" sp_rows_of := by
  obtain ⟨f, fd, F, hm⟩ := h
  exact def_okD (ps := ["share"]) (b_rows_of ) F sc_rows_of (F.bindsN fun _ _ _ _ _ _ us hl => match us, hl with | [_], _ => rfl) hm hb (ck_rows_of ) (fun A hr => by simp only [b_rows_of, okSs, okS, okE, okEs, okEo, okSrc, and_true, true_and, and_self]) (fun ds S q e h => w_rows_of h)
theorem d_many_in (hb : ∀ y ∈ bltNames, mg y = none) (h : Has K mg "many_in" (top 6))  : DefOk P w K mg base 1 "many_in" sp_many_in := by
  obtain ⟨f, fd, F, hm⟩ := h
  exact def_okD (ps := ["share"]) (b_many_in ) F sc_many_in (F.bindsN fun _ _ _ _ _ _ us hl => match us, hl with | [_], _ => rfl) hm hb (ck_many_in ) (fun A hr => by simp only [b_many_in, okSs, okS, okE, okEs, okEo, okSrc, and_true, true_and, and_self]) (fun ds S q e h => w_many_in h)
theorem d_wanted_by (hb : ∀ y ∈ bltNames, mg y = none) (h : Has K mg "wanted_by" (top 7))  : DefOk P w K mg base 1 "wanted_by" sp_wanted_by := by
  obtain ⟨f, fd, F, hm⟩ := h
  exact def_okD (ps := ["wants"]) (b_wanted_by ) F sc_wanted_by (F.bindsN fun _ _ _ _ _ _ us hl => match us, hl with | [_], _ => rfl) hm hb (ck_wanted_by ) (fun A hr => by simp only [b_wanted_by, okSs, okS, okE, okEs, okEo, okSrc, and_true, true_and, and_self]) (fun ds S q e h => w_wanted_by h)
theorem d_lot_by (hb : ∀ y ∈ bltNames, mg y = none) (h : Has K mg "lot_by" (top 8)) (c_searched : DefOk P w K mg base 2 "searched" sp_searched) : DefOk P w K mg base 3 "lot_by" sp_lot_by := by
  obtain ⟨f, fd, F, hm⟩ := h
  exact def_okD (ps := ["wants", "share"]) (b_lot_by sp_searched) F sc_lot_by (F.bindsN fun _ _ _ _ _ _ us hl => match us, hl with | [_, _], _ => rfl) hm hb (ck_lot_by sp_searched) (fun A hr => by have h_searched := c_searched.call (A := A) hr (by decide); simp only [b_lot_by, okSs, okS, okE, okEs, okEo, okSrc, and_true, true_and, and_self, h_searched]) (fun ds S q e h => w_lot_by h)
theorem d_most (hb : ∀ y ∈ bltNames, mg y = none) (h : Has K mg "most" (top 9)) (c_filled : DefOk P w K mg base 4 "filled" sp_filled) (c_lot_by : DefOk P w K mg base 3 "lot_by" sp_lot_by) (c_rows_of : DefOk P w K mg base 1 "rows_of" sp_rows_of) (c_many_in : DefOk P w K mg base 1 "many_in" sp_many_in) : DefOk P w K mg base 5 "most" sp_most := by
  obtain ⟨f, fd, F, hm⟩ := h
  exact def_okD (ps := ["slots", "wants"]) (b_most sp_filled sp_lot_by sp_rows_of sp_many_in) F sc_most (F.bindsN fun _ _ _ _ _ _ us hl => match us, hl with | [_, _], _ => rfl) hm hb (ck_most sp_filled sp_lot_by sp_rows_of sp_many_in) (fun A hr => by have h_filled := c_filled.call (A := A) hr (by decide); have h_lot_by := c_lot_by.call (A := A) hr (by decide); have h_rows_of := c_rows_of.call (A := A) hr (by decide); have h_many_in := c_many_in.call (A := A) hr (by decide); simp only [b_most, okSs, okS, okE, okEs, okEo, okSrc, and_true, true_and, and_self, h_filled, h_lot_by, h_rows_of, h_many_in]) (fun ds S q e h => w_most h)
theorem d_plan_of (hb : ∀ y ∈ bltNames, mg y = none) (h : Has K mg "plan_of" (top 10)) (c_most : DefOk P w K mg base 5 "most" sp_most) (c_wanted_by : DefOk P w K mg base 1 "wanted_by" sp_wanted_by) : DefOk P w K mg base 6 "plan_of" sp_plan_of := by
  obtain ⟨f, fd, F, hm⟩ := h
  exact def_okD (ps := ["slots", "wants"]) (b_plan_of sp_most sp_wanted_by) F sc_plan_of (F.bindsN fun _ _ _ _ _ _ us hl => match us, hl with | [_, _], _ => rfl) hm hb (ck_plan_of sp_most sp_wanted_by) (fun A hr => by have h_most := c_most.call (A := A) hr (by decide); have h_wanted_by := c_wanted_by.call (A := A) hr (by decide); simp only [b_plan_of, okSs, okS, okE, okEs, okEo, okSrc, and_true, true_and, and_self, h_most, h_wanted_by]) (fun ds S q e h => w_plan_of h)
theorem d_spent (hb : ∀ y ∈ bltNames, mg y = none) (h : Has K mg "spent" (top 12))  : DefOk P w K mg base 1 "spent" sp_spent := by
  obtain ⟨f, fd, F, hm⟩ := h
  exact def_okD (ps := ["plan", "ask", "day"]) (b_spent ) F sc_spent (F.bindsN fun _ _ _ _ _ _ us hl => match us, hl with | [_, _, _], _ => rfl) hm hb (ck_spent ) (fun A hr => by simp only [b_spent, okSs, okS, okE, okEs, okEo, okSrc, and_true, true_and, and_self]) (fun ds S q e h => w_spent h)
theorem d_what_left (hb : ∀ y ∈ bltNames, mg y = none) (h : Has K mg "what_left" (top 13)) (c_spent : DefOk P w K mg base 1 "spent" sp_spent) : DefOk P w K mg base 2 "what_left" sp_what_left := by
  obtain ⟨f, fd, F, hm⟩ := h
  exact def_okD (ps := ["slots", "wants", "plan", "ask", "day"]) (b_what_left sp_spent) F sc_what_left (F.bindsN fun _ _ _ _ _ _ us hl => match us, hl with | [_, _, _, _, _], _ => rfl) hm hb (ck_what_left sp_spent) (fun A hr => by have h_spent := c_spent.call (A := A) hr (by decide); simp only [b_what_left, okSs, okS, okE, okEs, okEo, okSrc, and_true, true_and, and_self, h_spent]) (fun ds S q e h => w_what_left h)
theorem d_is_open (hb : ∀ y ∈ bltNames, mg y = none) (h : Has K mg "is_open" (top 14)) (c_what_left : DefOk P w K mg base 2 "what_left" sp_what_left) (c_plan_of : DefOk P w K mg base 6 "plan_of" sp_plan_of) : DefOk P w K mg base 7 "is_open" sp_is_open := by
  obtain ⟨f, fd, F, hm⟩ := h
  exact def_okD (ps := ["slots", "wants", "plan", "ask", "day"]) (b_is_open sp_what_left sp_plan_of) F sc_is_open (F.bindsN fun _ _ _ _ _ _ us hl => match us, hl with | [_, _, _, _, _], _ => rfl) hm hb (ck_is_open sp_what_left sp_plan_of) (fun A hr => by have h_what_left := c_what_left.call (A := A) hr (by decide); have h_plan_of := c_plan_of.call (A := A) hr (by decide); simp only [b_is_open, okSs, okS, okE, okEs, okEo, okSrc, and_true, true_and, and_self, h_what_left, h_plan_of]) (fun ds S q e h => w_is_open h)
theorem d_first_row (hb : ∀ y ∈ bltNames, mg y = none) (h : Has K mg "first_row" (top 15)) (c_is_open : DefOk P w K mg base 7 "is_open" sp_is_open) : DefOk P w K mg base 8 "first_row" sp_first_row := by
  obtain ⟨f, fd, F, hm⟩ := h
  exact def_okD (ps := ["slots", "wants", "plan", "ask"]) (b_first_row sp_is_open) F sc_first_row (F.bindsN fun _ _ _ _ _ _ us hl => match us, hl with | [_, _, _, _], _ => rfl) hm hb (ck_first_row sp_is_open) (fun A hr => by have h_is_open := c_is_open.call (A := A) hr (by decide); simp only [b_first_row, okSs, okS, okE, okEs, okEo, okSrc, and_true, true_and, and_self, h_is_open]) (fun ds S q e h => w_first_row h)
theorem d_first_plan (hb : ∀ y ∈ bltNames, mg y = none) (h : Has K mg "first_plan" (top 16)) (c_plan_of : DefOk P w K mg base 6 "plan_of" sp_plan_of) (c_first_row : DefOk P w K mg base 8 "first_row" sp_first_row) : DefOk P w K mg base 9 "first_plan" sp_first_plan := by
  obtain ⟨f, fd, F, hm⟩ := h
  exact def_okD (ps := ["slots", "wants"]) (b_first_plan sp_plan_of sp_first_row) F sc_first_plan (F.bindsN fun _ _ _ _ _ _ us hl => match us, hl with | [_, _], _ => rfl) hm hb (ck_first_plan sp_plan_of sp_first_row) (fun A hr => by have h_plan_of := c_plan_of.call (A := A) hr (by decide); have h_first_row := c_first_row.call (A := A) hr (by decide); simp only [b_first_plan, okSs, okS, okE, okEs, okEo, okSrc, and_true, true_and, and_self, h_plan_of, h_first_row]) (fun ds S q e h => w_first_plan h)
theorem d__law_source (hb : ∀ y ∈ bltNames, mg y = none) (h : Has K mg "_law_source" (top 18))  : DefOk P w K mg base 1 "_law_source" sp__law_source := by
  obtain ⟨f, fd, F, hm⟩ := h
  exact def_okD (ps := ["_law_script"]) (b__law_source ) F sc__law_source (F.bindsN fun _ _ _ _ _ _ us hl => match us, hl with | [_], _ => rfl) hm hb (ck__law_source ) (fun A hr => by simp only [b__law_source, okSs, okS, okE, okEs, okEo, okSrc, and_true, true_and, and_self]) (fun ds S q e h => w__law_source h)
theorem d__law_draw (hb : ∀ y ∈ bltNames, mg y = none) (h : Has K mg "_law_draw" (top 19))  : DefOk P w K mg base 1 "_law_draw" sp__law_draw := by
  obtain ⟨f, fd, F, hm⟩ := h
  exact def_okD (ps := ["_law_left", "_law_many"]) (b__law_draw ) F sc__law_draw (F.bindsN fun _ _ _ _ _ _ us hl => match us, hl with | [_, _], _ => rfl) hm hb (ck__law_draw ) (fun A hr => by simp only [b__law_draw, okSs, okS, okE, okEs, okEo, okSrc, and_true, true_and, and_self]) (fun ds S q e h => w__law_draw h)
theorem d__law_subset (hb : ∀ y ∈ bltNames, mg y = none) (h : Has K mg "_law_subset" (top 20)) (c__law_draw : DefOk P w K mg base 1 "_law_draw" sp__law_draw) : DefOk P w K mg base 2 "_law_subset" sp__law_subset := by
  obtain ⟨f, fd, F, hm⟩ := h
  exact def_okD (ps := ["_law_left", "_law_high", "_law_many"]) (b__law_subset sp__law_draw) F sc__law_subset (F.bindsN fun _ _ _ _ _ _ us hl => match us, hl with | [_, _, _], _ => rfl) hm hb (ck__law_subset sp__law_draw) (fun A hr => by have h__law_draw := c__law_draw.call (A := A) hr (by decide); simp only [b__law_subset, okSs, okS, okE, okEs, okEo, okSrc, and_true, true_and, and_self, h__law_draw]) (fun ds S q e h => w__law_subset h)
theorem d__law_wants (hb : ∀ y ∈ bltNames, mg y = none) (h : Has K mg "_law_wants" (top 21)) (c__law_subset : DefOk P w K mg base 2 "_law_subset" sp__law_subset) (c__law_draw : DefOk P w K mg base 1 "_law_draw" sp__law_draw) : DefOk P w K mg base 3 "_law_wants" sp__law_wants := by
  obtain ⟨f, fd, F, hm⟩ := h
  exact def_okD (ps := ["_law_left", "_law_slots", "_law_many", "_law_far"]) (b__law_wants sp__law_subset sp__law_draw) F sc__law_wants (F.bindsN fun _ _ _ _ _ _ us hl => match us, hl with | [_, _, _, _], _ => rfl) hm hb (ck__law_wants sp__law_subset sp__law_draw) (fun A hr => by have h__law_subset := c__law_subset.call (A := A) hr (by decide); have h__law_draw := c__law_draw.call (A := A) hr (by decide); simp only [b__law_wants, okSs, okS, okE, okEs, okEo, okSrc, and_true, true_and, and_self, h__law_subset, h__law_draw]) (fun ds S q e h => w__law_wants h)
theorem d__law_is_row (hb : ∀ y ∈ bltNames, mg y = none) (h : Has K mg "_law_is_row" (top 23))  : DefOk P w K mg base 1 "_law_is_row" sp__law_is_row := by
  obtain ⟨f, fd, F, hm⟩ := h
  exact def_okD (ps := ["_law_thing", "_law_high"]) (b__law_is_row ) F sc__law_is_row (F.bindsN fun _ _ _ _ _ _ us hl => match us, hl with | [_, _], _ => rfl) hm hb (ck__law_is_row ) (fun A hr => by simp only [b__law_is_row, okSs, okS, okE, okEs, okEo, okSrc, and_true, true_and, and_self]) (fun ds S q e h => w__law_is_row h)
theorem d__law_every (hb : ∀ y ∈ bltNames, mg y = none) (h : Has K mg "_law_every" (top 25))  : DefOk P w K mg base 1 "_law_every" sp__law_every := by
  obtain ⟨f, fd, F, hm⟩ := h
  exact def_okD (ps := ["_law_rows_here"]) (b__law_every ) F sc__law_every (F.bindsN fun _ _ _ _ _ _ us hl => match us, hl with | [_], _ => rfl) hm hb (ck__law_every ) (fun A hr => by simp only [b__law_every, okSs, okS, okE, okEs, okEo, okSrc, and_true, true_and, and_self]) (fun ds S q e h => w__law_every h)
theorem d__law_is_plan (hb : ∀ y ∈ bltNames, mg y = none) (h : Has K mg "_law_is_plan" (top 26)) (c__law_is_row : DefOk P w K mg base 1 "_law_is_row" sp__law_is_row) (c__law_every : DefOk P w K mg base 1 "_law_every" sp__law_every) : DefOk P w K mg base 2 "_law_is_plan" sp__law_is_plan := by
  obtain ⟨f, fd, F, hm⟩ := h
  exact def_okD (ps := ["_law_slots", "_law_wants_here", "_law_plan"]) (b__law_is_plan sp__law_is_row sp__law_every) F sc__law_is_plan (F.bindsN fun _ _ _ _ _ _ us hl => match us, hl with | [_, _, _], _ => rfl) hm hb (ck__law_is_plan sp__law_is_row sp__law_every) (fun A hr => by have h__law_is_row := c__law_is_row.call (A := A) hr (by decide); have h__law_every := c__law_every.call (A := A) hr (by decide); simp only [b__law_is_plan, okSs, okS, okE, okEs, okEo, okSrc, and_true, true_and, and_self, h__law_is_row, h__law_every]) (fun ds S q e h => w__law_is_plan h)
theorem d__law_rows (hb : ∀ y ∈ bltNames, mg y = none) (h : Has K mg "_law_rows" (top 27))  : DefOk P w K mg base 1 "_law_rows" sp__law_rows := by
  obtain ⟨f, fd, F, hm⟩ := h
  exact def_okD (ps := ["_law_days", "_law_many"]) (b__law_rows ) F sc__law_rows (F.bindsN fun _ _ _ _ _ _ us hl => match us, hl with | [_, _], _ => rfl) hm hb (ck__law_rows ) (fun A hr => by simp only [b__law_rows, okSs, okS, okE, okEs, okEo, okSrc, and_true, true_and, and_self]) (fun ds S q e h => w__law_rows h)
theorem d__law_least (hb : ∀ y ∈ bltNames, mg y = none) (h : Has K mg "_law_least" (top 28)) (c__law_rows : DefOk P w K mg base 1 "_law_rows" sp__law_rows) : ∀ k, DefOk P w K mg base (k + 2) "_law_least" (sp__law_least k)
  | 0 => by
    obtain ⟨f, fd, F, hm⟩ := h
    have bb : Binds K fd ["_law_slots", "_law_wants_here"] [] := F.bindsN fun _ _ _ _ _ _ us hl => match us, hl with | [_, _], _ => rfl
    have c0 : DefOk P w K mg base 0 "_law_least" fun _ _ _ _ => False := def_no F bb hm
    exact def_okD (ps := ["_law_slots", "_law_wants_here"]) (b__law_least sp__law_rows fun _ _ _ _ => False) F sc__law_least bb hm hb (ck__law_least sp__law_rows _) (fun A hr => by have h1 := c__law_rows.call (A := A) hr (by decide); have h2 := c0.call (A := A) hr (by decide); simp only [b__law_least, okSs, okS, okE, okEs, okEo, okSrc, and_true, true_and, and_self, h1, h2]) (fun ds S q e h => w__law_least0 h _)
  | k + 1 => by
    have c := d__law_least hb h c__law_rows k
    obtain ⟨f, fd, F, hm⟩ := h
    have bb : Binds K fd ["_law_slots", "_law_wants_here"] [] := F.bindsN fun _ _ _ _ _ _ us hl => match us, hl with | [_, _], _ => rfl
    exact def_okD (ps := ["_law_slots", "_law_wants_here"]) (b__law_least sp__law_rows (sp__law_least k)) F sc__law_least bb hm hb (ck__law_least sp__law_rows _) (fun A hr => by have h1 := c__law_rows.call (A := A) hr (by omega); have h2 := c.call (A := A) hr (Nat.le_refl _); simp only [b__law_least, okSs, okS, okE, okEs, okEo, okSrc, and_true, true_and, and_self, h1, h2]) (fun ds S q e h => w__law_least h)
theorem d_law {f : Addr} {fd : FuncData} (hb : ∀ y ∈ bltNames, mg y = none) (F : FnP K "law" "law" (top 29) f fd) (c__law_source : DefOk P w K mg base 1 "_law_source" sp__law_source) (c__law_draw : DefOk P w K mg base 1 "_law_draw" sp__law_draw) (c__law_wants : DefOk P w K mg base 3 "_law_wants" sp__law_wants) (c__law_least : DefOk P w K mg base 7 "_law_least" (sp__law_least 5)) (c_first_plan : DefOk P w K mg base 9 "first_plan" sp_first_plan) (c__law_is_plan : DefOk P w K mg base 2 "_law_is_plan" sp__law_is_plan) : FnOk P w K mg base (L2.CX P w) 10 f fd ["_law_script"] (SpOf K sp_law) :=
  fn_okD (ps := ["_law_script"]) (b_law sp__law_source sp__law_draw sp__law_wants ((sp__law_least 5)) sp_first_plan sp__law_is_plan) F sc_law hb (ck_law sp__law_source sp__law_draw sp__law_wants ((sp__law_least 5)) sp_first_plan sp__law_is_plan) (fun A hr => by have h__law_source := c__law_source.call (A := A) hr (by decide); have h__law_draw := c__law_draw.call (A := A) hr (by decide); have h__law_wants := c__law_wants.call (A := A) hr (by decide); have h__law_least := c__law_least.call (A := A) hr (by decide); have h_first_plan := c_first_plan.call (A := A) hr (by decide); have h__law_is_plan := c__law_is_plan.call (A := A) hr (by decide); simp only [b_law, okSs, okS, okE, okEs, okEo, okSrc, and_true, true_and, and_self, h__law_source, h__law_draw, h__law_wants, h__law_least, h_first_plan, h__law_is_plan]) (fun ds S q e h => w_law h)
end
/-! ### the head -/
def fn85 : List He.DefD := [defD "takers" (top 1), defD "searched" (top 2), defD "lengthened" (top 3), defD "filled" (top 4), defD "rows_of" (top 5), defD "many_in" (top 6), defD "wanted_by" (top 7), defD "lot_by" (top 8), defD "most" (top 9), defD "plan_of" (top 10), defD "spent" (top 12), defD "what_left" (top 13), defD "is_open" (top 14), defD "first_row" (top 15), defD "first_plan" (top 16), defD "_law_source" (top 18), defD "_law_draw" (top 19), defD "_law_subset" (top 20), defD "_law_wants" (top 21), defD "_law_is_row" (top 23), defD "_law_every" (top 25), defD "_law_is_plan" (top 26), defD "_law_rows" (top 27), defD "_law_least" (top 28), defD "law" (top 29)]
def fa85 : List He.Fa := [.glo "takers", .glo "searched", .glo "lengthened", .glo "filled", .glo "rows_of", .glo "many_in", .glo "wanted_by", .glo "lot_by", .glo "most", .glo "plan_of", .glo "spent", .glo "what_left", .glo "is_open", .glo "first_row", .glo "first_plan", .glo "_law_source", .glo "_law_draw", .glo "_law_subset", .glo "_law_wants", .glo "_law_is_row", .glo "_law_every", .glo "_law_is_plan", .glo "_law_rows", .glo "_law_least", .glo "law", .free "len", .free "abs", .free "int", .free "str", .free "max", .free "min", .free "sum", .free "sorted", .free "list", .free "tuple", .free "all", .free "any", .free "isinstance", .free "range", .free "enumerate", .free "zip", .free "bool"]
def loose85 : List PySem.Str := ["takers", "searched", "lengthened", "filled", "rows_of", "many_in", "wanted_by", "lot_by", "most", "plan_of", "spent", "what_left", "is_open", "first_row", "first_plan", "_law_source", "_law_draw", "_law_subset", "_law_wants", "_law_need", "_law_is_row", "_law_is_lot", "_law_every", "_law_is_plan", "_law_rows", "_law_least"]
abbrev R85 : PySem.W.OpenRow := PySem.W.OpenLaw.row PySem.Challenge.rw_columndays_k85_first_plans_by_trying
abbrev hk85 : PySem.W.Hook := He.hookD 4 fa85 fn85
def ob85 (s : PySem.W.SharedT) : He.AlD := He.obsDG 4 fa85 fn85 (HandSHeadRun.getT s)
theorem ob85_eq (s : PySem.W.SharedT) : ob85 s = hk85.obs s.abs := He.obsDG_eq (HandSHeadRun.getT_eq s)
set_option maxHeartbeats 0 in
theorem run85 (w : World) : HandSHeadRun.RunEq R85 (PySem.W.view R85.prog [29]) hk85 ob85 3000 loose85 w := by
  intro os
  kernel_rfl
theorem all85 {P : Program} {w : World} {K : PySem.W.Frag} {h : Heap} {mg : Str → Option Value} {f : Addr} (X : K.In h) (G : h.Ns mainGlobals mg) (hfa : mg ("law" : Str) = some (.ref f)) (c : He.SaysD fa85 fn85 K) :
    ∃ fd : FuncData, (∀ (s : Shared) (v : Value), BindsTo s fd ⟨[v], []⟩ [("_law_script", v)]) ∧ ∀ base : Heap, K.In base → base.Ns mainGlobals mg → FnOk P w K mg base CX0 10 f fd ["_law_script"] (fun vs H Q _ => SpOf K sp_law vs H Q fun _ _ _ => False) := by
  have hb := free_of X G c (by decide +kernel)
  have h_takers : Has K mg "takers" (top 1) := has_of X G c 0 0 rfl rfl
  have h_searched : Has K mg "searched" (top 2) := has_of X G c 1 1 rfl rfl
  have h_lengthened : Has K mg "lengthened" (top 3) := has_of X G c 2 2 rfl rfl
  have h_filled : Has K mg "filled" (top 4) := has_of X G c 3 3 rfl rfl
  have h_rows_of : Has K mg "rows_of" (top 5) := has_of X G c 4 4 rfl rfl
  have h_many_in : Has K mg "many_in" (top 6) := has_of X G c 5 5 rfl rfl
  have h_wanted_by : Has K mg "wanted_by" (top 7) := has_of X G c 6 6 rfl rfl
  have h_lot_by : Has K mg "lot_by" (top 8) := has_of X G c 7 7 rfl rfl
  have h_most : Has K mg "most" (top 9) := has_of X G c 8 8 rfl rfl
  have h_plan_of : Has K mg "plan_of" (top 10) := has_of X G c 9 9 rfl rfl
  have h_spent : Has K mg "spent" (top 12) := has_of X G c 10 10 rfl rfl
  have h_what_left : Has K mg "what_left" (top 13) := has_of X G c 11 11 rfl rfl
  have h_is_open : Has K mg "is_open" (top 14) := has_of X G c 12 12 rfl rfl
  have h_first_row : Has K mg "first_row" (top 15) := has_of X G c 13 13 rfl rfl
  have h_first_plan : Has K mg "first_plan" (top 16) := has_of X G c 14 14 rfl rfl
  have h__law_source : Has K mg "_law_source" (top 18) := has_of X G c 15 15 rfl rfl
  have h__law_draw : Has K mg "_law_draw" (top 19) := has_of X G c 16 16 rfl rfl
  have h__law_subset : Has K mg "_law_subset" (top 20) := has_of X G c 17 17 rfl rfl
  have h__law_wants : Has K mg "_law_wants" (top 21) := has_of X G c 18 18 rfl rfl
  have h__law_is_row : Has K mg "_law_is_row" (top 23) := has_of X G c 19 19 rfl rfl
  have h__law_every : Has K mg "_law_every" (top 25) := has_of X G c 20 20 rfl rfl
  have h__law_is_plan : Has K mg "_law_is_plan" (top 26) := has_of X G c 21 21 rfl rfl
  have h__law_rows : Has K mg "_law_rows" (top 27) := has_of X G c 22 22 rfl rfl
  have h__law_least : Has K mg "_law_least" (top 28) := has_of X G c 23 23 rfl rfl
  have h_law : Has K mg "law" (top 29) := has_of X G c 24 24 rfl rfl
  obtain ⟨fd, F⟩ := c.def_ 24 (d := defD "law" (top 29)) rfl
  have e := hfa.symm.trans (He.glo_ok X G (c.fact 24 (f := .glo "law") rfl))
  cases e
  have b := FunD.bindsA (ps := ["_law_script"]) F fun _ _ _ _ _ _ us hl => match us, hl with | [_], _ => rfl
  refine ⟨fd, fun s v => b s [v] rfl, fun base _ _ => ?_⟩
  have d_takers := d_takers (P := P) (w := w) (base := base) hb h_takers 
  have d_searched := d_searched (P := P) (w := w) (base := base) hb h_searched d_takers
  have d_lengthened := d_lengthened (P := P) (w := w) (base := base) hb h_lengthened d_searched d_takers
  have d_filled := d_filled (P := P) (w := w) (base := base) hb h_filled d_lengthened
  have d_rows_of := d_rows_of (P := P) (w := w) (base := base) hb h_rows_of 
  have d_many_in := d_many_in (P := P) (w := w) (base := base) hb h_many_in 
  have d_wanted_by := d_wanted_by (P := P) (w := w) (base := base) hb h_wanted_by 
  have d_lot_by := d_lot_by (P := P) (w := w) (base := base) hb h_lot_by d_searched
  have d_most := d_most (P := P) (w := w) (base := base) hb h_most d_filled d_lot_by d_rows_of d_many_in
  have d_plan_of := d_plan_of (P := P) (w := w) (base := base) hb h_plan_of d_most d_wanted_by
  have d_spent := d_spent (P := P) (w := w) (base := base) hb h_spent 
  have d_what_left := d_what_left (P := P) (w := w) (base := base) hb h_what_left d_spent
  have d_is_open := d_is_open (P := P) (w := w) (base := base) hb h_is_open d_what_left d_plan_of
  have d_first_row := d_first_row (P := P) (w := w) (base := base) hb h_first_row d_is_open
  have d_first_plan := d_first_plan (P := P) (w := w) (base := base) hb h_first_plan d_plan_of d_first_row
  have d__law_source := d__law_source (P := P) (w := w) (base := base) hb h__law_source 
  have d__law_draw := d__law_draw (P := P) (w := w) (base := base) hb h__law_draw 
  have d__law_subset := d__law_subset (P := P) (w := w) (base := base) hb h__law_subset d__law_draw
  have d__law_wants := d__law_wants (P := P) (w := w) (base := base) hb h__law_wants d__law_subset d__law_draw
  have d__law_is_row := d__law_is_row (P := P) (w := w) (base := base) hb h__law_is_row 
  have d__law_every := d__law_every (P := P) (w := w) (base := base) hb h__law_every 
  have d__law_is_plan := d__law_is_plan (P := P) (w := w) (base := base) hb h__law_is_plan d__law_is_row d__law_every
  have d__law_rows := d__law_rows (P := P) (w := w) (base := base) hb h__law_rows 
  have d__law_least := d__law_least (P := P) (w := w) (base := base) hb h__law_least d__law_rows 5
  have d_law := d_law (P := P) (w := w) (base := base) hb F d__law_source d__law_draw d__law_wants d__law_least d_first_plan d__law_is_plan
  exact fn_cx0 d_law
end DL
open PySem PySem.W PySem.Calls PyProof.Rows
set_option maxHeartbeats 0 in
theorem PySem.Challenge.cw_columndays_k85_first_plans_by_trying_holds : PySem.Challenge.rw_columndays_k85_first_plans_by_trying.Holds := by
  w_on; o_law
  refine HandSHeadRun.head_any (r := OpenLaw.row PySem.Challenge.rw_columndays_k85_first_plans_by_trying) (q := view (OpenLaw.row PySem.Challenge.rw_columndays_k85_first_plans_by_trying).prog [29]) (H := DL.hk85) (ob := DL.ob85) (M := 3000) (loose := DL.loose85) (d := HandSHeadRun.topDef (OpenLaw.row PySem.Challenge.rw_columndays_k85_first_plans_by_trying).prog 29) (kwd := []) DL.ob85_eq
    (by kernel_rfl) (fun s => by kernel_rfl) DL.run85 (by kernel_rfl) (by kernel_rfl) (by kernel_rfl) (by rfl) (by first | assumption | decide +kernel) (by decide +kernel) ⟨rfl, rfl, rfl, rfl, rfl, by decide +kernel⟩ ?hw ?hc
  case hw => w_witness2
  case hc =>
    refine L2.walk_ofE (l := PySem.Challenge.rw_columndays_k85_first_plans_by_trying) (n := 63) (k := 10) (x := "_law_script") (CX := L2.CX0) rfl (by decide) (by kernel_rfl) ⟨rfl, by decide, by decide⟩ ?F (fun _ _ _ _ z => z)
    intro w mg fa h Y G hmg0
    obtain ⟨K, KX, c⟩ := Y
    have hmg : mg ("law" : PySem.Str) = some (.ref fa) := by
      have e : (HandSHeadRun.topDef (OpenLaw.row PySem.Challenge.rw_columndays_k85_first_plans_by_trying).prog 29).name = ("law" : PySem.Str) := by kernel_rfl
      rw [← e]
      exact hmg0
    obtain ⟨fd, hb, hF⟩ := DL.all85 (P := (PySem.Challenge.rw_columndays_k85_first_plans_by_trying).prog) (w := w) KX G hmg c
    exact ⟨K, fd, fun vs H Q _ => DL.SpOf K DL.sp_law vs H Q fun _ _ _ => False, KX, hb, fun H a ns hl ho hS => DL.law_sp ho hS, hF⟩
