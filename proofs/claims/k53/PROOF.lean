import PyProof.Rows.All
import Wide.All
import OpenK.AllK
import Wide.FinOn
import HandS.ForMost
import HandS.ForExc
import HandS.Defaults
import HandS.HeadEnd
import HandS.HeadHook1
import HandS.HeadHook2
import HandS.TupAny
import HandS.TupMul
import HandS.IsInst
import HandS.Wide
import HandS.Codes
import HandS.Conv
import HandS.SortInts
import HandS.Iter
import HandS.Zip
import KE.KExcSuper
import KE.KSuper
import HandS.ExcIs
import HandS.ExcField
import HandS.ExcOwn
import HandS.DictSubMake
import KE.KExcIs
import HandS.Head0
import HandS.Head1
import HandS.Head2
import HandS.Words
import HandS.WordsExc
import HandS.More
import HandS.Dict
import PyProof.Rows.EnumRows
import HandS.Text
import HandS.Walk
import HandS.Style
import KE.GoesEnum
import HandS.RaiseMore
import KE.KStateDown
import Lean
import PySem.Challenge.RW_threecopies_k53_whole_texts_of_runs
set_option Elab.async false
set_option linter.all false
set_option maxRecDepth 100000
set_option maxHeartbeats 1000000
/-! M3: a mirror layer over HandS. Values as data (tuples, frozen lists, frozen instances are data; what is changed stands in a list of objects), code as functions that can be run. -/
namespace L2
namespace M3
open PySem PySem.Spec PyProof.Rows

inductive D where
  | non | bl (b : Bool) | int (i : Int) | str (x : Str) | ty (n : String) | glo (x : Str)
  | tup (ds : List D) | tl (ds : List D) | fz (ds : List D) | ti (C : Str) (ks : List Str) (ds : List D) | td (ks : List D) (ds : List D)
  | obj (i : Nat)
  deriving Inhabited

inductive MO where
  | lst (ds : List D) | dct (kvs : List (D × D)) | ins (C : Str) (fs : List (Str × D))
  deriving Inhabited

abbrev Gs := List MO
abbrev Sl := List (Option D)
structure Exc where
  c : Str
  f : Option (Str × D)
inductive R (α : Type) where
  | ok (a : α) (G : Gs) | exc (e : Exc) (G : Gs) | stuck
inductive RS where
  | nx (ds : Sl) (G : Gs) | rt (d : D) (G : Gs) | bk (ds : Sl) (G : Gs) | ct (ds : Sl) (G : Gs) | exc (e : Exc) (ds : Sl) (G : Gs) | stuck
/-- code: an expression's, a test's, a statement's, a def's -/
abbrev M (α : Type) := Sl → Gs → R α
abbrev MS := Sl → Gs → RS
abbrev FM := List D → Gs → R D

/-! ### the relation of data to the abstract heap -/
/-- where the objects stand; what is hidden (a comprehension's list that grows) -/
structure Rho where
  os : List Addr
  hd : List Addr
def Rho.no (ρ : Rho) (a : Addr) : Prop := ¬ a ∈ ρ.os ∧ ¬ a ∈ ρ.hd
def TupN (K : PySem.W.Frag) (ρ : Rho) (H : Hp) (a : Addr) (xs : List V) : Prop :=
  (ρ.no a ∧ Rd H a (.tup xs)) ∨
    ∃ (o : Obj) (its : Array Value) (n : Nat), K.lookup a = some o ∧ o.cls = .type "tuple" ∧ o.data = .seq its n ∧ its.size ≤ sizeLine ∧ Vals xs its.toList
def LstN (ρ : Rho) (H : Hp) (a : Addr) (xs : List V) : Prop := ρ.no a ∧ H a = some (.lst xs)
def LstF (K : PySem.W.Frag) (ρ : Rho) (H : Hp) (a : Addr) (xs : List V) : Prop :=
  (ρ.no a ∧ Rd H a (.lst xs)) ∨
    ∃ (o : Obj) (its : Array Value) (n : Nat), K.lookup a = some o ∧ o.cls = .type "list" ∧ o.dict = none ∧ o.data = .seq its n ∧ its.size ≤ sizeLine ∧ Vals xs its.toList
theorem TupN.sq {K ρ H a xs} (h : TupN K ρ H a xs) : SqT K H a xs := h.imp (fun x => x.2) id
theorem LstN.sq {K ρ H a xs} (h : LstN ρ H a xs) : SqL K H a xs := .of h.2
theorem LstF.sq {K ρ H a xs} (h : LstF K ρ H a xs) : SqL K H a xs := h.imp (fun x => x.2) id
def kD : Key → D
  | .inl i => .int i
  | .inr s => .str s

mutual
def DRel (K : PySem.W.Frag) (ρ : Rho) (H : Hp) : D → V → Prop
  | .non, v => v = .non
  | .bl b, v => v = .bl b
  | .int i, v => v = .int i
  | .str x, v => v = .str x
  | .ty n, v => v = .ty n
  | .glo x, v => v = .ref (He.ga K x)
  | .obj i, v => ∃ a, ρ.os[i]? = some a ∧ v = .ref a
  | .tup ds, v => ∃ a xs, v = .ref a ∧ TupN K ρ H a xs ∧ DRels K ρ H ds xs
  | .tl ds, v => ∃ a xs, v = .ref a ∧ LstN ρ H a xs ∧ DRels K ρ H ds xs
  | .fz ds, v => ∃ a xs, v = .ref a ∧ LstF K ρ H a xs ∧ DRels K ρ H ds xs
  | .td ks ds, v => ∃ a xs, v = .ref a ∧ ρ.no a ∧ ((∃ l : List (Key × V), H a = some (.dK l) ∧ ks = l.map (fun p => kD p.1) ∧ xs = l.map (·.2)) ∨
      (∃ l : List (List Key × V), H a = some (.dT l) ∧ ks = l.map (fun p => D.tup (p.1.map kD)) ∧ xs = l.map (·.2))) ∧ DRels K ρ H ds xs
  | .ti C ks ds, v => ∃ a dx xs, v = .ref a ∧ ρ.no a ∧ H a = some (.ins (He.ga K C) dx (ks.zip xs)) ∧ ks.length = xs.length ∧ DRels K ρ H ds xs
def DRels (K : PySem.W.Frag) (ρ : Rho) (H : Hp) : List D → List V → Prop
  | [], vs => vs = []
  | d :: ds, vs => ∃ v r, vs = v :: r ∧ DRel K ρ H d v ∧ DRels K ρ H ds r
end

/-- what stood stands, whatever is hidden -/
structure Grow (ρ : Rho) (H : Hp) (ρ' : Rho) (H' : Hp) : Prop where
  ext : ∃ t, ρ'.os = ρ.os ++ t
  keep : ∀ a o, H a = some o → ρ.no a → H' a = some o ∧ ρ'.no a
structure Step (ρ : Rho) (H : Hp) (ρ' : Rho) (H' : Hp) : Prop where
  ext : ∃ t, ρ'.os = ρ.os ++ t
  hid : ρ'.hd = ρ.hd
  keep : ∀ a o, H a = some o → ρ.no a → H' a = some o ∧ ρ'.no a
  kh : ∀ a ∈ ρ.hd, H' a = H a
theorem Step.g {ρ H ρ' H'} (s : Step ρ H ρ' H') : Grow ρ H ρ' H' := ⟨s.ext, s.keep⟩
theorem Step.refl (ρ : Rho) (H : Hp) : Step ρ H ρ H := ⟨⟨[], by simp⟩, rfl, fun a o h n => ⟨h, n⟩, fun _ _ => rfl⟩
theorem Step.trans {ρ H ρ1 H1 ρ2 H2} (a : Step ρ H ρ1 H1) (b : Step ρ1 H1 ρ2 H2) : Step ρ H ρ2 H2 := by
  obtain ⟨t, e⟩ := a.ext
  obtain ⟨u, e2⟩ := b.ext
  refine ⟨⟨t ++ u, by rw [e2, e, List.append_assoc]⟩, b.hid.trans a.hid, fun c o h n => ?_, fun c hc => ?_⟩
  · obtain ⟨h1, n1⟩ := a.keep c o h n
    exact b.keep c o h1 n1
  · exact (b.kh c (by rw [a.hid]; exact hc)).trans (a.kh c hc)
section
variable {K : PySem.W.Frag} {ρ ρ' : Rho} {H H' : Hp}
theorem Grow.rd (s : Grow ρ H ρ' H') {a : Addr} {u : HO} (n : ρ.no a) (h : Rd H a u) : ρ'.no a ∧ Rd H' a u := by
  rcases h with h | ⟨o, h⟩
  · exact ⟨(s.keep a _ h n).2, .inl (s.keep a _ h n).1⟩
  · exact ⟨(s.keep a _ h n).2, .inr ⟨o, (s.keep a _ h n).1⟩⟩
theorem TupN.grow (s : Grow ρ H ρ' H') {a xs} (h : TupN K ρ H a xs) : TupN K ρ' H' a xs := h.imp (fun x => s.rd x.1 x.2) id
theorem LstN.grow (s : Grow ρ H ρ' H') {a xs} (h : LstN ρ H a xs) : LstN ρ' H' a xs := ⟨(s.keep _ _ h.2 h.1).2, (s.keep _ _ h.2 h.1).1⟩
theorem LstF.grow (s : Grow ρ H ρ' H') {a xs} (h : LstF K ρ H a xs) : LstF K ρ' H' a xs := h.imp (fun x => s.rd x.1 x.2) id
mutual
theorem DRel.grow (s : Grow ρ H ρ' H') : ∀ {d : D} {v : V}, DRel K ρ H d v → DRel K ρ' H' d v
  | .non, _, h => h
  | .bl _, _, h => h
  | .int _, _, h => h
  | .str _, _, h => h
  | .ty _, _, h => h
  | .glo _, _, h => h
  | .obj i, _, h => by
    obtain ⟨a, h1, h2⟩ := h
    obtain ⟨t, et⟩ := s.ext
    have hl : i < ρ.os.length := (List.getElem?_eq_some_iff.mp h1).1
    exact ⟨a, by rw [et, List.getElem?_append_left hl]; exact h1, h2⟩
  | .tup ds, _, h => by
    obtain ⟨a, xs, e, h1, h2⟩ := h
    exact ⟨a, xs, e, h1.grow s, DRels.grow s h2⟩
  | .tl ds, _, h => by
    obtain ⟨a, xs, e, h1, h2⟩ := h
    exact ⟨a, xs, e, h1.grow s, DRels.grow s h2⟩
  | .fz ds, _, h => by
    obtain ⟨a, xs, e, h1, h2⟩ := h
    exact ⟨a, xs, e, h1.grow s, DRels.grow s h2⟩
  | .td ks ds, _, h => by
    obtain ⟨a, xs, e, h1, h2, h3⟩ := h
    rcases h2 with ⟨l, e1, e2, e3⟩ | ⟨l, e1, e2, e3⟩
    · exact ⟨a, xs, e, (s.keep _ _ e1 h1).2, .inl ⟨l, (s.keep _ _ e1 h1).1, e2, e3⟩, DRels.grow s h3⟩
    · exact ⟨a, xs, e, (s.keep _ _ e1 h1).2, .inr ⟨l, (s.keep _ _ e1 h1).1, e2, e3⟩, DRels.grow s h3⟩
  | .ti C ks ds, _, h => by
    obtain ⟨a, dx, xs, e, h1, h2, h3, h4⟩ := h
    exact ⟨a, dx, xs, e, (s.keep _ _ h2 h1).2, (s.keep _ _ h2 h1).1, h3, DRels.grow s h4⟩
theorem DRels.grow (s : Grow ρ H ρ' H') : ∀ {ds : List D} {vs : List V}, DRels K ρ H ds vs → DRels K ρ' H' ds vs
  | [], _, h => h
  | d :: ds, _, h => by
    obtain ⟨v, r, e, h1, h2⟩ := h
    exact ⟨v, r, e, DRel.grow s h1, DRels.grow s h2⟩
end
theorem TupN.step (s : Step ρ H ρ' H') {a xs} (h : TupN K ρ H a xs) : TupN K ρ' H' a xs := h.grow s.g
theorem LstN.step (s : Step ρ H ρ' H') {a xs} (h : LstN ρ H a xs) : LstN ρ' H' a xs := h.grow s.g
theorem LstF.step (s : Step ρ H ρ' H') {a xs} (h : LstF K ρ H a xs) : LstF K ρ' H' a xs := h.grow s.g
theorem DRel.step (s : Step ρ H ρ' H') {d : D} {v : V} (h : DRel K ρ H d v) : DRel K ρ' H' d v := h.grow s.g
theorem DRels.step (s : Step ρ H ρ' H') {ds : List D} {vs : List V} (h : DRels K ρ H ds vs) : DRels K ρ' H' ds vs := h.grow s.g
theorem DRels.length : ∀ {ds : List D} {vs : List V}, DRels K ρ H ds vs → ds.length = vs.length
  | [], _, h => by cases h; rfl
  | d :: ds, _, h => by
    obtain ⟨v, r, rfl, h1, h2⟩ := h
    simp [h2.length]
theorem DRels.get : ∀ {ds : List D} {vs : List V} {i : Nat} {d : D}, DRels K ρ H ds vs → ds[i]? = some d → ∃ v, vs[i]? = some v ∧ DRel K ρ H d v
  | [], _, i, d, h, e => by simp at e
  | d :: ds, _, 0, d', h, e => by
    obtain ⟨v, r, rfl, h1, h2⟩ := h
    simp at e
    subst e
    exact ⟨v, rfl, h1⟩
  | d :: ds, _, i + 1, d', h, e => by
    obtain ⟨v, r, rfl, h1, h2⟩ := h
    obtain ⟨u, e1, e2⟩ := DRels.get (i := i) h2 (by simpa using e)
    exact ⟨u, by simpa using e1, e2⟩
theorem DRels.getV : ∀ {ds : List D} {vs : List V} {i : Nat} {v : V}, DRels K ρ H ds vs → vs[i]? = some v → ∃ d, ds[i]? = some d ∧ DRel K ρ H d v := fun {ds vs i v} h e => by
  have hl : i < vs.length := (List.getElem?_eq_some_iff.mp e).1
  have hl2 : i < ds.length := by rw [h.length]; exact hl
  obtain ⟨u, e1, e2⟩ := h.get (i := i) (d := ds[i]) (by simp [hl2])
  rw [e] at e1
  cases e1
  exact ⟨_, by simp [hl2], e2⟩
theorem DRels.append : ∀ {ds es : List D} {vs us : List V}, DRels K ρ H ds vs → DRels K ρ H es us → DRels K ρ H (ds ++ es) (vs ++ us)
  | [], _, _, _, h, h' => by cases h; exact h'
  | d :: ds, es, _, us, h, h' => by
    obtain ⟨v, r, rfl, h1, h2⟩ := h
    exact ⟨v, r ++ us, rfl, h1, DRels.append h2 h'⟩
theorem DRels.take : ∀ {ds : List D} {vs : List V} (n : Nat), DRels K ρ H ds vs → DRels K ρ H (ds.take n) (vs.take n)
  | _, _, 0, _ => by simp [DRels]
  | [], _, n + 1, h => by cases h; simp [DRels]
  | d :: ds, _, n + 1, h => by
    obtain ⟨v, r, rfl, h1, h2⟩ := h
    exact ⟨v, r.take n, by simp, h1, DRels.take n h2⟩
theorem DRels.drop : ∀ {ds : List D} {vs : List V} (n : Nat), DRels K ρ H ds vs → DRels K ρ H (ds.drop n) (vs.drop n)
  | _, _, 0, h => by simpa using h
  | [], _, n + 1, h => by cases h; simp [DRels]
  | d :: ds, _, n + 1, h => by
    obtain ⟨v, r, rfl, h1, h2⟩ := h
    simpa using DRels.drop n h2
theorem DRels.set : ∀ {ds : List D} {vs : List V} {d : D} {v : V} (i : Nat), DRel K ρ H d v → DRels K ρ H ds vs → DRels K ρ H (ds.set i d) (vs.set i v)
  | [], _, _, _, _, _, h => by cases h; simp [DRels]
  | d :: ds, _, _, _, 0, hd, h => by
    obtain ⟨v, r, rfl, h1, h2⟩ := h
    exact ⟨_, r, rfl, hd, h2⟩
  | d :: ds, _, _, _, i + 1, hd, h => by
    obtain ⟨v, r, rfl, h1, h2⟩ := h
    exact ⟨v, r.set i _, rfl, h1, DRels.set i hd h2⟩
theorem drels_one {d : D} {v : V} (h : DRel K ρ H d v) : DRels K ρ H [d] [v] := ⟨v, [], rfl, h, rfl⟩
theorem drels_cons {d : D} {v : V} {ds : List D} {vs : List V} (h : DRel K ρ H d v) (t : DRels K ρ H ds vs) : DRels K ρ H (d :: ds) (v :: vs) := ⟨v, vs, rfl, h, t⟩
end

/-- one object -/
def MRel (K : PySem.W.Frag) (ρ : Rho) (H : Hp) (a : Addr) : MO → Prop
  | .lst ds => ∃ xs, H a = some (.lst xs) ∧ DRels K ρ H ds xs
  | .ins C fs => ∃ dx xs, H a = some (.ins (He.ga K C) dx ((fs.map (·.1)).zip xs)) ∧ DRels K ρ H (fs.map (·.2)) xs
  | .dct kvs => (∃ l : List (Key × V), H a = some (.dK l) ∧ kvs.map (·.1) = l.map (fun p => kD p.1) ∧ DRels K ρ H (kvs.map (·.2)) (l.map (·.2))) ∨
      (∃ l : List (List Key × V), H a = some (.dT l) ∧ kvs.map (·.1) = l.map (fun p => D.tup (p.1.map kD)) ∧ DRels K ρ H (kvs.map (·.2)) (l.map (·.2)))
structure Rl (K : PySem.W.Frag) (ρ : Rho) (G : Gs) (H : Hp) : Prop where
  nd : ρ.os.Nodup
  len : G.length = ρ.os.length
  dj : ∀ a ∈ ρ.hd, ¬ a ∈ ρ.os
  hs : ∀ a ∈ ρ.hd, ∃ o, H a = some o
  at_ : ∀ (i : Nat) (o : MO) (a : Addr), G[i]? = some o → ρ.os[i]? = some a → MRel K ρ H a o
def XRel (K : PySem.W.Frag) (ρ : Rho) (H : Hp) (e : Exc) (cls : Value) (dd : Option Addr) : Prop :=
  cls = .ref (He.ga K e.c) ∧ (match e.f with
    | none => dd = none
    | some (x, d) => ∃ a v, dd = some a ∧ ρ.no a ∧ H a = some (.xd [(x, v)]) ∧ DRel K ρ H d v)
theorem XRel.step {K ρ H ρ' H' e cls dd} (s : Step ρ H ρ' H') (h : XRel K ρ H e cls dd) : XRel K ρ' H' e cls dd := by
  refine ⟨h.1, ?_⟩
  have h2 := h.2
  revert h2
  cases e.f with
  | none => exact id
  | some p =>
    rintro ⟨a, v, e1, e2, e3, e4⟩
    exact ⟨a, v, e1, (s.keep _ _ e3 e2).2, (s.keep _ _ e3 e2).1, e4.step s⟩
/-- the slots -/
def SRel (K : PySem.W.Frag) (ρ : Rho) (H : Hp) (ds : Sl) (σ : St) : Prop := ∀ (i : Nat) (d : D), ds[i]? = some (some d) → ∃ v, σ[i]? = some (some v) ∧ DRel K ρ H d v
theorem SRel.grow {K ρ H ρ' H' ds σ} (s : Grow ρ H ρ' H') (h : SRel K ρ H ds σ) : SRel K ρ' H' ds σ := fun i d e => by
  obtain ⟨v, e1, e2⟩ := h i d e
  exact ⟨v, e1, e2.grow s⟩
theorem SRel.step {K ρ H ρ' H' ds σ} (s : Step ρ H ρ' H') (h : SRel K ρ H ds σ) : SRel K ρ' H' ds σ := h.grow s.g
theorem SRel.set {K ρ H} {ds : Sl} {σ : St} {d : D} {v : V} (hl : ds.length ≤ σ.length) (i : Nat) (h : SRel K ρ H ds σ) (r : DRel K ρ H d v) : SRel K ρ H (ds.set i (some d)) (σ.set i (some v)) := fun j e hj => by
  by_cases q : j = i
  · subst q
    have hlt : j < ds.length := by
      have := (List.getElem?_eq_some_iff.mp hj).1
      simpa using this
    rw [List.getElem?_set_self hlt] at hj
    cases hj
    refine ⟨v, ?_, r⟩
    rw [List.getElem?_set_self (by omega)]
  · rw [List.getElem?_set_ne (Ne.symm q)] at hj
    obtain ⟨u, e1, e2⟩ := h j e hj
    exact ⟨u, by rw [List.getElem?_set_ne (Ne.symm q)]; exact e1, e2⟩

/-! ### readings out of code -/
/-- what is wanted of exceptions; slots that are known by their value; what else is known -/
structure Wq where
  w : WX
  fx : List (Nat × V)
  iv : Rho → Hp → Prop
  st : ∀ ρ H ρ' H', Step ρ H ρ' H' → iv ρ H → iv ρ' H'
structure Lk (W : Wq) (ρ : Rho) (H : Hp) (ds : Sl) (σ : St) : Prop where
  len : ds.length = σ.length
  fx : ∀ p ∈ W.fx, σ[p.1]? = some (some p.2)
  iv : W.iv ρ H
theorem Lk.step {W ρ H ρ' H' ds σ} (s : Step ρ H ρ' H') (h : Lk W ρ H ds σ) : Lk W ρ' H' ds σ := ⟨h.len, h.fx, W.st _ _ _ _ s h.iv⟩
theorem Lk.set {W ρ H ds σ} {i : Nat} {d : D} {v : V} (hf : ∀ p ∈ W.fx, p.1 ≠ i) (h : Lk W ρ H ds σ) : Lk W ρ H (ds.set i (some d)) (σ.set i (some v)) :=
  ⟨by simp [h.len], fun p hp => by rw [List.getElem?_set_ne (Ne.symm (hf p hp))]; exact h.fx p hp, h.iv⟩
section
variable (K : PySem.W.Frag) (W : Wq)
def Pst {α β : Type} (Rel : Rho → Hp → α → β → Prop) (σ : St) (ρ : Rho) (H : Hp) (r : R α) (Q : β → Hp → Prop) : Prop := match r with
  | .ok d G' => ∀ ρ' H' v, Step ρ H ρ' H' → Rl K ρ' G' H' → Rel ρ' H' d v → Q v H'
  | .exc e G' => ∀ ρ' H' c dd, Step ρ H ρ' H' → Rl K ρ' G' H' → XRel K ρ' H' e c dd → W.w c dd σ H'
  | .stuck => False
def LE (m : M D) : TE := fun σ H Q => ∃ ρ G ds, Rl K ρ G H ∧ SRel K ρ H ds σ ∧ Lk W ρ H ds σ ∧ Pst K W (DRel K) σ ρ H (m ds G) Q
def LT (m : M Bool) : TT := fun σ H Q => ∃ ρ G ds, Rl K ρ G H ∧ SRel K ρ H ds σ ∧ Lk W ρ H ds σ ∧ Pst K W (fun _ _ b c => b = c) σ ρ H (m ds G) Q
def LA (m : M (List D)) : TA := fun σ H Q => ∃ ρ G ds, Rl K ρ G H ∧ SRel K ρ H ds σ ∧ Lk W ρ H ds σ ∧ Pst K W (DRels K) σ ρ H (m ds G) Q
def PstS (ρ : Rho) (H : Hp) (n : Nat) (r : RS) (E : Ends) : Prop := match r with
  | .nx ds G => ∀ ρ' H' σ', Step ρ H ρ' H' → Rl K ρ' G H' → SRel K ρ' H' ds σ' → Lk W ρ' H' ds σ' → σ'.length = n → E.nx σ' H'
  | .bk ds G => ∀ ρ' H' σ', Step ρ H ρ' H' → Rl K ρ' G H' → SRel K ρ' H' ds σ' → Lk W ρ' H' ds σ' → σ'.length = n → E.bk σ' H'
  | .ct ds G => ∀ ρ' H' σ', Step ρ H ρ' H' → Rl K ρ' G H' → SRel K ρ' H' ds σ' → Lk W ρ' H' ds σ' → σ'.length = n → E.ct σ' H'
  | .rt d G => ∀ ρ' H' v, Step ρ H ρ' H' → Rl K ρ' G H' → DRel K ρ' H' d v → E.rt v H'
  | .exc e ds G => ∀ ρ' H' σ' c dd, Step ρ H ρ' H' → Rl K ρ' G H' → SRel K ρ' H' ds σ' → Lk W ρ' H' ds σ' → σ'.length = n → XRel K ρ' H' e c dd → W.w c dd σ' H'
  | .stuck => False
def LS (m : MS) : TS := fun E σ H => ∃ ρ G ds, Rl K ρ G H ∧ SRel K ρ H ds σ ∧ Lk W ρ H ds σ ∧ PstS K W ρ H σ.length (m ds G) E
end
/-- what a def's code promises -/
def spM (K : PySem.W.Frag) (n : Nat) (f : FM) : Sp := fun vs H Q E => vs.length = n ∧ ∃ ρ G ds, Rl K ρ G H ∧ DRels K ρ H ds vs ∧ (match f ds G with
  | .ok d G' => ∀ ρ' H' v, Step ρ H ρ' H' → Rl K ρ' G' H' → DRel K ρ' H' d v → Q v H'
  | .exc e G' => ∀ ρ' H' c dd, Step ρ H ρ' H' → Rl K ρ' G' H' → XRel K ρ' H' e c dd → E c dd H'
  | .stuck => False)

section
variable {K : PySem.W.Frag} {W : Wq} {ρ ρ' : Rho} {H H' : Hp}
theorem Pst.step {α β : Type} {Rel : Rho → Hp → α → β → Prop} {σ : St} {r : R α} {Q : β → Hp → Prop} (s : Step ρ H ρ' H') (h : Pst K W Rel σ ρ H r Q) : Pst K W Rel σ ρ' H' r Q := by
  cases r with
  | ok d G => exact fun ρ2 H2 v s2 => h ρ2 H2 v (s.trans s2)
  | exc e G => exact fun ρ2 H2 c dd s2 => h ρ2 H2 c dd (s.trans s2)
  | stuck => exact h
theorem PstS.step {n : Nat} {r : RS} {E : Ends} (s : Step ρ H ρ' H') (h : PstS K W ρ H n r E) : PstS K W ρ' H' n r E := by
  cases r with
  | nx d G => exact fun ρ2 H2 v s2 => h ρ2 H2 v (s.trans s2)
  | bk d G => exact fun ρ2 H2 v s2 => h ρ2 H2 v (s.trans s2)
  | ct d G => exact fun ρ2 H2 v s2 => h ρ2 H2 v (s.trans s2)
  | rt d G => exact fun ρ2 H2 v s2 => h ρ2 H2 v (s.trans s2)
  | exc e ds G => exact fun ρ2 H2 v c dd s2 => h ρ2 H2 v c dd (s.trans s2)
  | stuck => exact h
end

/-! ### the judgements -/
def ME (X : Cx) (W : Wq) (e : Expr) (m : M D) : Prop := PE X e (LE X.K W m)
def MT (X : Cx) (W : Wq) (e : Expr) (m : M Bool) : Prop := PT X e (LT X.K W m)
def MWd (X : Cx) (W : Wq) (e : Expr) (m : M Bool) : Prop := PW X e (LT X.K W m)
def MA (X : Cx) (W : Wq) (es : List Expr) (m : M (List D)) : Prop := PA X es (LA X.K W m)
def MSt (X : Cx) (W : Wq) (st : Stmt) (m : MS) : Prop := PS X st (LS X.K W m)
def MSs (X : Cx) (W : Wq) (sts : List Stmt) (m : MS) : Prop := PSs X sts (LS X.K W m)
theorem _root_.L2.PE.conv {X : Cx} {e : Expr} {t t' : TE} (h : PE X e t) (c : ∀ σ H Q, t' σ H Q → t σ H Q) : PE X e t' := ⟨fun pins s σ H Q I q => h.run pins s σ H Q I (c _ _ _ q)⟩
theorem _root_.L2.PT.conv {X : Cx} {e : Expr} {t t' : TT} (h : PT X e t) (c : ∀ σ H Q, t' σ H Q → t σ H Q) : PT X e t' := ⟨fun pins s σ H Q I q => h.run pins s σ H Q I (c _ _ _ q)⟩
theorem _root_.L2.PW.conv {X : Cx} {e : Expr} {t t' : TT} (h : PW X e t) (c : ∀ σ H Q, t' σ H Q → t σ H Q) : PW X e t' := ⟨fun wh pins s σ H Q I q => h.run wh pins s σ H Q I (c _ _ _ q)⟩
theorem _root_.L2.PA.conv {X : Cx} {e : List Expr} {t t' : TA} (h : PA X e t) (c : ∀ σ H Q, t' σ H Q → t σ H Q) : PA X e t' := ⟨fun pos pins s σ H Q I q => h.run pos pins s σ H Q I (c _ _ _ q)⟩
theorem _root_.L2.PS.conv {X : Cx} {e : Stmt} {t t' : TS} (h : PS X e t) (c : ∀ σ H Q, t' Q σ H → t Q σ H) : PS X e t' := ⟨fun pins s σ H Q I q => h.run pins s σ H Q I (c _ _ _ q)⟩
theorem _root_.L2.PSs.conv {X : Cx} {e : List Stmt} {t t' : TS} (h : PSs X e t) (c : ∀ σ H Q, t' Q σ H → t Q σ H) : PSs X e t' := ⟨fun pins s σ H Q I q => h.run pins s σ H Q I (c _ _ _ q)⟩

/-! ### combinators -/
def ret {α : Type} (a : α) : M α := fun _ G => .ok a G
def bnd {α β : Type} (m : M α) (k : α → M β) : M β := fun ds G => match m ds G with
  | .ok a G1 => k a ds G1
  | .exc e G1 => .exc e G1
  | .stuck => .stuck
def lft {α : Type} (f : Gs → R α) : M α := fun _ G => f G
def rd (i : Nat) : M D := fun ds G => match ds[i]? with
  | some (some d) => .ok d G
  | _ => .stuck
def stk {α : Type} : R α := .stuck
section
variable {X : Cx} {W : Wq}
theorem me_rd {i : Nat} {x : Str} {pos : Pos} (h : PE X (.Name x pos) (tVar i)) : ME X W (.Name x pos) (rd i) := h.conv fun σ H Q ⟨ρ, G, ds, rl, sr, hl, p⟩ => by
  unfold rd at p
  cases e : ds[i]? with
  | none => rw [e] at p; exact p.elim
  | some o =>
    cases o with
    | none => rw [e] at p; exact p.elim
    | some d =>
      rw [e] at p
      obtain ⟨v, e1, e2⟩ := sr i d e
      exact ⟨v, e1, p ρ H v (Step.refl ρ H) rl e2⟩
theorem me_c {e : Expr} {d : D} {v : V} (h : PE X e (tC v)) (hd : ∀ ρ H, DRel X.K ρ H d v) : ME X W e (ret d) := h.conv fun σ H Q ⟨ρ, G, ds, rl, sr, hl, p⟩ => p ρ H v (Step.refl ρ H) rl (hd ρ H)
theorem me_int {i : Int} {j pos} : ME X W (.Constant (.int i) j pos) (ret (.int i)) := me_c pe_int fun _ _ => by simp [DRel]
theorem me_bl {i : Bool} {j pos} : ME X W (.Constant (.bool i) j pos) (ret (.bl i)) := me_c pe_bl fun _ _ => by simp [DRel]
theorem me_non {j pos} : ME X W (.Constant .none j pos) (ret .non) := me_c pe_non fun _ _ => by simp [DRel]
theorem me_str {x : Str} {j pos} : ME X W (.Constant (.str x) j pos) (ret (.str x)) := me_c pe_str fun _ _ => by simp [DRel]
end
end M3
end L2

set_option Elab.async false
set_option linter.all false
set_option maxRecDepth 100000
set_option maxHeartbeats 1000000
/-! M3b: moves of the heap, operators. -/
namespace L2
namespace M3
open PySem PySem.Spec PyProof.Rows

section
variable {K : PySem.W.Frag} {W : Wq} {ρ ρ' : Rho} {H H' : Hp} {G : Gs}
theorem MRel.grow (s : Grow ρ H ρ' H') {a : Addr} (e : H' a = H a) : ∀ {o : MO}, MRel K ρ H a o → MRel K ρ' H' a o
  | .lst ds, h => by
    obtain ⟨xs, h1, h2⟩ := h
    exact ⟨xs, e.trans h1, h2.grow s⟩
  | .ins C fs, h => by
    obtain ⟨dx, xs, h1, h2⟩ := h
    exact ⟨dx, xs, e.trans h1, h2.grow s⟩
  | .dct kvs, h => by
    rcases h with ⟨l, h1, h2, h3⟩ | ⟨l, h1, h2, h3⟩
    · exact .inl ⟨l, e.trans h1, h2, h3.grow s⟩
    · exact .inr ⟨l, e.trans h1, h2, h3.grow s⟩
theorem MRel.step (s : Step ρ H ρ' H') {a : Addr} (e : H' a = H a) {o : MO} (h : MRel K ρ H a o) : MRel K ρ' H' a o := h.grow s.g e
theorem MRel.some : ∀ {o : MO} {a : Addr}, MRel K ρ H a o → ∃ u, H a = some u
  | .lst ds, _, h => let ⟨_, h1, _⟩ := h; ⟨_, h1⟩
  | .ins C fs, _, h => let ⟨_, _, h1, _⟩ := h; ⟨_, h1⟩
  | .dct kvs, _, h => by
    rcases h with ⟨l, h1, h2, h3⟩ | ⟨l, h1, h2, h3⟩
    · exact ⟨_, h1⟩
    · exact ⟨_, h1⟩
theorem Rl.has (rl : Rl K ρ G H) {a : Addr} (h : a ∈ ρ.os) : ∃ u, H a = some u := by
  obtain ⟨i, hi, e⟩ := List.mem_iff_getElem.mp h
  have hg : i < G.length := by rw [rl.len]; exact hi
  exact (rl.at_ i G[i] a (by simp [hg]) (by simp [hi, e])).some
theorem Rl.new (rl : Rl K ρ G H) {p : Addr} (h : H p = none) : ρ.no p := by
  refine ⟨fun q => ?_, fun q => ?_⟩
  · obtain ⟨u, e⟩ := rl.has q
    rw [h] at e
    cases e
  · obtain ⟨u, e⟩ := rl.hs p q
    rw [h] at e
    cases e
theorem Rl.frame (rl : Rl K ρ G H) (s : Step ρ H ρ H') (k : ∀ a ∈ ρ.os, H' a = H a) : Rl K ρ G H' :=
  ⟨rl.nd, rl.len, rl.dj, fun a ha => let ⟨o, e⟩ := rl.hs a ha; ⟨o, (s.kh a ha).trans e⟩, fun i o a h1 h2 => (rl.at_ i o a h1 h2).step s (k a (List.mem_of_getElem? h2))⟩
theorem step_upd (rl : Rl K ρ G H) {p : Addr} {o : HO} (h : H p = none) : Step ρ H ρ (upd H p o) :=
  ⟨⟨[], by simp⟩, rfl, fun a u e n => ⟨by rw [upd_ne (ne_of_none e h)]; exact e, n⟩, fun a ha => upd_ne fun e => (rl.new h).2 (e ▸ ha)⟩
theorem Rl.updN (rl : Rl K ρ G H) {p : Addr} {o : HO} (h : H p = none) : Rl K ρ G (upd H p o) :=
  rl.frame (step_upd rl h) fun a ha => upd_ne fun e => (rl.new h).1 (e ▸ ha)
/-- an object of the list is changed -/
theorem step_write (rl : Rl K ρ G H) {a : Addr} {o : HO} (ha : a ∈ ρ.os) : Step ρ H ρ (upd H a o) :=
  ⟨⟨[], by simp⟩, rfl, fun b u e n => ⟨by rw [upd_ne fun z => n.1 (by rw [z]; exact ha)]; exact e, n⟩, fun b hb => upd_ne fun e => rl.dj b hb (by rw [e]; exact ha)⟩
theorem Rl.write (rl : Rl K ρ G H) {i : Nat} {a : Addr} {o : HO} {m : MO} (hi : ρ.os[i]? = some a) (hm : MRel K ρ (upd H a o) a m) : Rl K ρ (G.set i m) (upd H a o) := by
  have ha : a ∈ ρ.os := List.mem_of_getElem? hi
  have st := step_write (o := o) rl ha
  refine ⟨rl.nd, by simp [rl.len], rl.dj, fun b hb => let ⟨u, e⟩ := rl.hs b hb; ⟨u, (st.kh b hb).trans e⟩, fun j u b h1 h2 => ?_⟩
  by_cases e : j = i
  · subst e
    rw [hi] at h2
    cases h2
    have hl : j < G.length := by rw [rl.len]; exact (List.getElem?_eq_some_iff.mp hi).1
    rw [List.getElem?_set_self hl] at h1
    cases h1
    exact hm
  · rw [List.getElem?_set_ne (Ne.symm e)] at h1
    have nb : b ≠ a := fun z => e (by
      subst z
      obtain ⟨l1, e1⟩ := List.getElem?_eq_some_iff.mp h2
      obtain ⟨l2, e2⟩ := List.getElem?_eq_some_iff.mp hi
      exact (List.getElem_inj rl.nd).mp (e1.trans e2.symm))
    exact (rl.at_ j u b h1 h2).step st (upd_ne nb)
/-- with one object more -/
def Rho.more (ρ : Rho) (p : Addr) : Rho := ⟨ρ.os ++ [p], ρ.hd⟩
theorem step_alloc (rl : Rl K ρ G H) {p : Addr} {o : HO} (h : H p = none) : Step ρ H (ρ.more p) (upd H p o) :=
  ⟨⟨[p], rfl⟩, rfl, fun a u e n => ⟨by rw [upd_ne (ne_of_none e h)]; exact e, by
    refine ⟨?_, n.2⟩
    show ¬ a ∈ ρ.os ++ [p]
    simp only [List.mem_append, List.mem_singleton, not_or]
    exact ⟨n.1, ne_of_none e h⟩⟩, fun a ha => upd_ne fun e => (rl.new h).2 (e ▸ ha)⟩
theorem Rl.alloc (rl : Rl K ρ G H) {p : Addr} {o : HO} {m : MO} (h : H p = none) (hm : MRel K (ρ.more p) (upd H p o) p m) : Rl K (ρ.more p) (G ++ [m]) (upd H p o) := by
  have hp := rl.new h
  have st := step_alloc (o := o) rl h
  refine ⟨?_, ?_, fun b hb => ?_, fun b hb => let ⟨u, e⟩ := rl.hs b hb; ⟨u, (st.kh b hb).trans e⟩, fun j u b h1 h2 => ?_⟩
  · show (ρ.os ++ [p]).Nodup
    rw [List.nodup_append]
    exact ⟨rl.nd, by simp, fun a ha b hb e => hp.1 (by simp at hb; rw [← hb, ← e]; exact ha)⟩
  · show _ = (ρ.os ++ [p]).length
    simp [rl.len]
  · show ¬ b ∈ ρ.os ++ [p]
    simp only [List.mem_append, List.mem_singleton, not_or]
    exact ⟨rl.dj b hb, fun e => hp.2 (e ▸ hb)⟩
  · have h2' : (ρ.os ++ [p])[j]? = some b := h2
    by_cases e : j < ρ.os.length
    · rw [List.getElem?_append_left e] at h2'
      rw [List.getElem?_append_left (by rw [rl.len]; exact e)] at h1
      exact (rl.at_ j u b h1 h2').step st (upd_ne fun z => hp.1 (z ▸ List.mem_of_getElem? h2'))
    · have e2 : j = ρ.os.length := by
        have := (List.getElem?_eq_some_iff.mp h2').1
        simp at this
        omega
      subst e2
      rw [List.getElem?_append_right (Nat.le_refl _)] at h2'
      rw [List.getElem?_append_right (by rw [rl.len]; exact Nat.le_refl _), rl.len] at h1
      simp at h1 h2'
      subst h1 h2'
      exact hm
theorem tup_new {a : Addr} {ds : List D} {xs : List V} (rl : Rl K ρ G H) (h : H a = none) (d : DRels K ρ H ds xs) : DRel K ρ (upd H a (.tup xs)) (.tup ds) (.ref a) :=
  ⟨a, xs, rfl, .inl ⟨rl.new h, .inl upd_same⟩, d.step (step_upd rl h)⟩
theorem tl_new {a : Addr} {ds : List D} {xs : List V} (rl : Rl K ρ G H) (h : H a = none) (d : DRels K ρ H ds xs) : DRel K ρ (upd H a (.lst xs)) (.tl ds) (.ref a) :=
  ⟨a, xs, rfl, ⟨rl.new h, upd_same⟩, d.step (step_upd rl h)⟩

/-! ### going on behind a part -/
theorem le_seq {β δ : Type} {Rb : Rho → Hp → β → δ → Prop} {σ : St} {ds : Sl} {m : M D} {k : D → M β} {Q : δ → Hp → Prop} {Z : VK} (p : Pst K W Rb σ ρ H (bnd m k ds G) Q) (rl : Rl K ρ G H) (sr : SRel K ρ H ds σ) (hl : Lk W ρ H ds σ)
    (h : ∀ v H1 ρ1 G1 a, Step ρ H ρ1 H1 → Rl K ρ1 G1 H1 → SRel K ρ1 H1 ds σ → Lk W ρ1 H1 ds σ → DRel K ρ1 H1 a v → Pst K W Rb σ ρ1 H1 (k a ds G1) Q → Z v H1) : LE K W m σ H Z := by
  refine ⟨ρ, G, ds, rl, sr, hl, ?_⟩
  unfold bnd at p
  revert p
  cases m ds G with
  | ok a G1 => exact fun p ρ1 H1 v s1 r1 d1 => h v H1 ρ1 G1 a s1 r1 (sr.step s1) (hl.step s1) d1 (p.step s1)
  | exc e G1 => exact fun p => p
  | stuck => exact fun p => p
theorem la_seq {β δ : Type} {Rb : Rho → Hp → β → δ → Prop} {σ : St} {ds : Sl} {m : M (List D)} {k : List D → M β} {Q : δ → Hp → Prop} {Z : List V → Hp → Prop} (p : Pst K W Rb σ ρ H (bnd m k ds G) Q) (rl : Rl K ρ G H) (sr : SRel K ρ H ds σ) (hl : Lk W ρ H ds σ)
    (h : ∀ v H1 ρ1 G1 a, Step ρ H ρ1 H1 → Rl K ρ1 G1 H1 → SRel K ρ1 H1 ds σ → Lk W ρ1 H1 ds σ → DRels K ρ1 H1 a v → Pst K W Rb σ ρ1 H1 (k a ds G1) Q → Z v H1) : LA K W m σ H Z := by
  refine ⟨ρ, G, ds, rl, sr, hl, ?_⟩
  unfold bnd at p
  revert p
  cases m ds G with
  | ok a G1 => exact fun p ρ1 H1 v s1 r1 d1 => h v H1 ρ1 G1 a s1 r1 (sr.step s1) (hl.step s1) d1 (p.step s1)
  | exc e G1 => exact fun p => p
  | stuck => exact fun p => p
theorem lt_seq {β δ : Type} {Rb : Rho → Hp → β → δ → Prop} {σ : St} {ds : Sl} {m : M Bool} {k : Bool → M β} {Q : δ → Hp → Prop} {Z : Bool → Hp → Prop} (p : Pst K W Rb σ ρ H (bnd m k ds G) Q) (rl : Rl K ρ G H) (sr : SRel K ρ H ds σ) (hl : Lk W ρ H ds σ)
    (h : ∀ b H1 ρ1 G1, Step ρ H ρ1 H1 → Rl K ρ1 G1 H1 → SRel K ρ1 H1 ds σ → Lk W ρ1 H1 ds σ → Pst K W Rb σ ρ1 H1 (k b ds G1) Q → Z b H1) : LT K W m σ H Z := by
  refine ⟨ρ, G, ds, rl, sr, hl, ?_⟩
  unfold bnd at p
  revert p
  cases m ds G with
  | ok a G1 =>
    intro p ρ1 H1 v s1 r1 d1
    obtain rfl : a = v := d1
    exact h a H1 ρ1 G1 s1 r1 (sr.step s1) (hl.step s1) (p.step s1)
  | exc e G1 => exact fun p => p
  | stuck => exact fun p => p
end

/-! ### operators by values -/
/-- a pure answer -/
def lo {α : Type} (f : Gs → Option α) : M α := fun _ G => match f G with
  | some d => .ok d G
  | none => .stuck
theorem lo_inv {K W α β} {Rel : Rho → Hp → α → β → Prop} {σ ρ H} {f : Gs → Option α} {ds G} {Q : β → Hp → Prop} (p : Pst K W Rel σ ρ H (lo f ds G) Q) :
    ∃ d, f G = some d ∧ ∀ ρ' H' v, Step ρ H ρ' H' → Rl K ρ' G H' → Rel ρ' H' d v → Q v H' := by
  unfold lo at p
  revert p
  cases f G with
  | none => exact False.elim
  | some d => exact fun p => ⟨d, rfl, p⟩
/-- what a rule for two values is to do -/
def rO (K : PySem.W.Frag) (f : D → D → Gs → Option D) : R2 := fun x y H Q => ∃ ρ G a b d, Rl K ρ G H ∧ DRel K ρ H a x ∧ DRel K ρ H b y ∧ f a b G = some d ∧
  ∀ ρ' H' v, Step ρ H ρ' H' → Rl K ρ' G H' → DRel K ρ' H' d v → Q v H'
def rF (K : PySem.W.Frag) (f : List D → Gs → Option D) : List V → Hp → VK → Prop := fun xs H Q => ∃ ρ G as d, Rl K ρ G H ∧ DRels K ρ H as xs ∧ f as G = some d ∧
  ∀ ρ' H' v, Step ρ H ρ' H' → Rl K ρ' G H' → DRel K ρ' H' d v → Q v H'
section
variable {X : Cx} {W : Wq} {a b e : Expr} {es : List Expr} {pos p : Pos} {ma mb : M D}
theorem me_bin {op : Operator} {f : D → D → Gs → Option D} (ho : OpR X (binaryOp op) (rO X.K f)) (ha : ME X W a ma) (hb : ME X W b mb) :
    ME X W (.BinOp a op b pos) (bnd ma fun x => bnd mb fun y => lo (f x y)) := (pe_op ho ha hb).conv fun σ H Q ⟨ρ, G, ds, rl, sr, hl, p⟩ => by
  refine le_seq p rl sr hl fun x H1 ρ1 G1 c s1 r1 sr1 hl1 d1 p1 => ?_
  refine le_seq p1 r1 sr1 hl1 fun y H2 ρ2 G2 d s2 r2 sr2 hl2 d2 p2 => ?_
  obtain ⟨d', e, q⟩ := lo_inv p2
  exact ⟨ρ2, G2, c, d, d', r2, d1.step s2, d2, e, q⟩
theorem me_cmp {op : CmpOp} {f : D → D → Gs → Option D} (ho : OpR X (compareOp op) (rO X.K f)) (ha : ME X W a ma) (hb : ME X W b mb) (hm : behindInMarks op b = false) :
    ME X W (.Compare a [op] [b] pos) (bnd ma fun x => bnd mb fun y => lo (f x y)) := (pe_cmpR ho ha hb hm).conv fun σ H Q ⟨ρ, G, ds, rl, sr, hl, p⟩ => by
  refine le_seq p rl sr hl fun x H1 ρ1 G1 c s1 r1 sr1 hl1 d1 p1 => ?_
  refine le_seq p1 r1 sr1 hl1 fun y H2 ρ2 G2 d s2 r2 sr2 hl2 d2 p2 => ?_
  obtain ⟨d', e, q⟩ := lo_inv p2
  exact ⟨ρ2, G2, c, d, d', r2, d1.step s2, d2, e, q⟩
/-- a bool told -/
def tb (d : D) : Gs → Option Bool := fun _ => match d with
  | .bl b => some b
  | _ => none
theorem bl_inv {K ρ H} {d : D} {v : V} {b : Bool} {G : Gs} (h : tb d G = some b) (r : DRel K ρ H d v) : d = .bl b ∧ v = .bl b := by
  unfold tb at h
  cases d with
  | bl c =>
    have e : c = b := Option.some.inj h
    subst e
    exact ⟨rfl, r⟩
  | _ => cases h
/-- a value that is a bool, as a test -/
theorem mt_val (h : ME X W e ma) (he : ∀ whole, isTrue e X.env whole = (do let v ← whole; standAt e.pos; holding [v] (truthy v)) := by intro _; rfl) : MT X W e (bnd ma fun d => lo (tb d)) := (pt_val h he).conv fun σ H Q ⟨ρ, G, ds, rl, sr, hl, p⟩ => by
  refine le_seq p rl sr hl fun x H1 ρ1 G1 c s1 r1 sr1 hl1 d1 p1 => ?_
  obtain ⟨d', e, q⟩ := lo_inv p1
  obtain ⟨rfl, rfl⟩ := bl_inv e d1
  exact ⟨d', rfl, q ρ1 H1 d' (Step.refl _ _) r1 rfl⟩
theorem mt_cmp {op : CmpOp} {f : D → D → Gs → Option D} (ho : OpR X (compareOp op) (rO X.K f)) (ha : ME X W a ma) (hb : ME X W b mb) (hm : behindInMarks op b = false) :
    MT X W (.Compare a [op] [b] pos) (bnd ma fun x => bnd mb fun y => bnd (lo (f x y)) fun d => lo (tb d)) := (pt_cmpR ho ha hb hm).conv fun σ H Q ⟨ρ, G, ds, rl, sr, hl, p⟩ => by
  refine le_seq p rl sr hl fun x H1 ρ1 G1 c s1 r1 sr1 hl1 d1 p1 => ?_
  refine le_seq p1 r1 sr1 hl1 fun y H2 ρ2 G2 d s2 r2 sr2 hl2 d2 p2 => ?_
  have p3 := p2
  unfold bnd lo at p3
  cases q1 : f c d G2 with
  | none =>
    simp only [q1] at p3
    exact p3.elim
  | some d' =>
    simp only [q1] at p3
    refine ⟨ρ2, G2, c, d, d', r2, d1.step s2, d2, q1, fun ρ3 H3 v s3 r3 d3 => ?_⟩
    cases q2 : tb d' G2 with
    | none =>
      simp only [q2] at p3
      exact p3.elim
    | some k =>
      simp only [q2] at p3
      obtain ⟨rfl, rfl⟩ := bl_inv q2 d3
      exact ⟨k, rfl, p3 ρ3 H3 k s3 r3 rfl⟩
theorem pst_test {K : PySem.W.Frag} {σ : St} {ρ : Rho} {H : Hp} {m : M D} {ds : Sl} {G : Gs} {Q : Bool → Hp → Prop} (p : Pst K W (fun _ _ b c => b = c) σ ρ H (bnd m (fun d => lo (tb d)) ds G) Q) : Pst K W (DRel K) σ ρ H (m ds G) (fun x H' => ∃ k, x = V.bl k ∧ Q k H') := by
  unfold bnd at p
  revert p
  cases m ds G with
  | ok d G1 =>
    intro p ρ' H' v s r dd
    obtain ⟨k, e, z⟩ := lo_inv p
    obtain ⟨rfl, rfl⟩ := bl_inv e dd
    exact ⟨k, rfl, z ρ' H' k s r rfl⟩
  | exc e G1 => exact id
  | stuck => exact id
theorem ite_eq_T {c : Bool} {A B : Prop} (h : c = true) (x : A) : if c = true then A else B := by rw [if_pos h]; exact x
theorem ite_eq_F {c : Bool} {A B : Prop} (h : c = false) (x : B) : if c = true then A else B := by rw [h, if_neg Bool.false_ne_true]; exact x
/-- chains -/
def chn (f g : D → D → Gs → Option D) (x y : D) (mc : M D) : M D := bnd (lo (f x y)) fun r => bnd (lo (tb r)) fun k => if k = true then bnd mc fun z => lo (g y z) else ret (.bl false)
theorem chn_seq {K : PySem.W.Frag} {f g : D → D → Gs → Option D} {c d : D} {mc : M D} {σ : St} {ρ : Rho} {H2 : Hp} {ds : Sl} {G2 : Gs} {Q : VK} (p : Pst K W (DRel K) σ ρ H2 (chn f g c d mc ds G2) Q) :
    ∃ k, f c d G2 = some (.bl k) ∧ (if k = true then Pst K W (DRel K) σ ρ H2 (bnd mc (fun z => lo (g d z)) ds G2) Q else ∀ ρ' H' v, Step ρ H2 ρ' H' → Rl K ρ' G2 H' → DRel K ρ' H' (.bl false) v → Q v H') := by
  unfold chn at p
  unfold bnd at p
  unfold lo at p
  cases q1 : f c d G2 with
  | none => simp only [q1] at p; exact p.elim
  | some d' =>
    simp only [q1] at p
    cases d' with
    | bl k =>
      simp only [tb] at p
      cases k with
      | true => exact ⟨true, rfl, by simpa [lo, bnd] using p⟩
      | false => exact ⟨false, rfl, by simpa [ret, Pst] using p⟩
    | _ => simp only [tb] at p; exact p.elim
theorem me_chain {c : Expr} {mc : M D} {op op' : CmpOp} {f g : D → D → Gs → Option D} (ho : OpR X (compareOp op) (rO X.K f)) (ho' : OpR X (compareOp op') (rO X.K g)) (ha : ME X W a ma) (hb : ME X W b mb) (hc : ME X W c mc)
    (hm : lastMarks [op, op'] [b, c] = false := by with_unfolding_all rfl) : ME X W (.Compare a [op, op'] [b, c] pos) (bnd ma fun x => bnd mb fun y => chn f g x y mc) := (pe_chain ho ho' ha hb hc hm).conv fun σ H Q ⟨ρ, G, ds, rl, sr, hl, p⟩ => by
  refine le_seq p rl sr hl fun x H1 ρ1 G1 c s1 r1 sr1 hl1 d1 p1 => ?_
  refine le_seq p1 r1 sr1 hl1 fun y H2 ρ2 G2 d s2 r2 sr2 hl2 d2 p2 => ?_
  obtain ⟨k, e, q⟩ := chn_seq p2
  refine ⟨ρ2, G2, c, d, .bl k, r2, d1.step s2, d2, e, fun ρ3 H3 v s3 r3 d3 => ⟨k, d3, ?_⟩⟩
  cases k with
  | true =>
    rw [if_pos rfl] at q ⊢
    refine le_seq (q.step s3) r3 (sr2.step s3) (hl2.step s3) fun z H4 ρ4 G4 c' s4 r4 sr4 hl4 d4 p4 => ?_
    obtain ⟨d', e', q'⟩ := lo_inv p4
    exact ⟨ρ4, G4, d, c', d', r4, (d2.step s3).step s4, d4, e', q'⟩
  | false =>
    rw [if_neg Bool.false_ne_true] at q ⊢
    exact q ρ3 H3 _ s3 r3 rfl
theorem mt_chain {c : Expr} {mc : M D} {op op' : CmpOp} {f g : D → D → Gs → Option D} (ho : OpR X (compareOp op) (rO X.K f)) (ho' : OpR X (compareOp op') (rO X.K g)) (ha : ME X W a ma) (hb : ME X W b mb) (hc : ME X W c mc)
    (hm : lastMarks [op, op'] [b, c] = false := by with_unfolding_all rfl) : MT X W (.Compare a [op, op'] [b, c] pos) (bnd (bnd ma fun x => bnd mb fun y => chn f g x y mc) fun d => lo (tb d)) := (pt_chain ho ho' ha hb hc hm).conv fun σ H Q ⟨ρ, G, ds, rl, sr, hl, p⟩ => by
  have p' := pst_test p
  clear p
  refine le_seq p' rl sr hl fun x H1 ρ1 G1 c s1 r1 sr1 hl1 d1 p1 => ?_
  refine le_seq p1 r1 sr1 hl1 fun y H2 ρ2 G2 d s2 r2 sr2 hl2 d2 p2 => ?_
  obtain ⟨k, e, q⟩ := chn_seq p2
  refine ⟨ρ2, G2, c, d, .bl k, r2, d1.step s2, d2, e, fun ρ3 H3 v s3 r3 d3 => ⟨k, d3, ?_⟩⟩
  cases k with
  | true =>
    rw [if_pos rfl] at q ⊢
    refine le_seq (q.step s3) r3 (sr2.step s3) (hl2.step s3) fun z H4 ρ4 G4 c' s4 r4 sr4 hl4 d4 p4 => ?_
    obtain ⟨d', e', q'⟩ := lo_inv p4
    exact ⟨ρ4, G4, d, c', d', r4, (d2.step s3).step s4, d4, e', q'⟩
  | false =>
    rw [if_neg Bool.false_ne_true] at q ⊢
    exact q ρ3 H3 _ s3 r3 rfl
/-! tests joined -/
variable {ta tb' : M Bool} {rest : List Expr} {A B : Expr}
theorem mw_and1 (ha : MT X W A ta) : MWd X W (.BoolOp .And [A] pos) ta := pw_and1 ha
theorem mw_or1 (ha : MT X W A ta) : MWd X W (.BoolOp .Or [A] pos) ta := pw_or1 ha
theorem mw_and (ha : MT X W A ta) (hb : MWd X W (.BoolOp .And (B :: rest) pos) tb') : MWd X W (.BoolOp .And (A :: B :: rest) pos) (bnd ta fun k => if k = true then tb' else ret false) := (pw_and ha hb).conv fun σ H Q ⟨ρ, G, ds, rl, sr, hl, p⟩ => by
  refine lt_seq p rl sr hl fun k H1 ρ1 G1 s1 r1 sr1 hl1 p1 => ?_
  cases k with
  | true => exact ⟨ρ1, G1, ds, r1, sr1, hl1, p1⟩
  | false => exact p1 ρ1 H1 false (Step.refl _ _) r1 rfl
theorem mw_or (ha : MT X W A ta) (hb : MWd X W (.BoolOp .Or (B :: rest) pos) tb') : MWd X W (.BoolOp .Or (A :: B :: rest) pos) (bnd ta fun k => if k = true then ret true else tb') := (pw_or ha hb).conv fun σ H Q ⟨ρ, G, ds, rl, sr, hl, p⟩ => by
  refine lt_seq p rl sr hl fun k H1 ρ1 G1 s1 r1 sr1 hl1 p1 => ?_
  cases k with
  | true => exact p1 ρ1 H1 true (Step.refl _ _) r1 rfl
  | false => exact ⟨ρ1, G1, ds, r1, sr1, hl1, p1⟩
theorem mt_w (h : MWd X W A ta) : MT X W A ta := PW.pt h
theorem mt_not (ha : MT X W A ta) : MT X W (.UnaryOp .Not A pos) (bnd ta fun k => ret (!k)) := (pt_not ha).conv fun σ H Q ⟨ρ, G, ds, rl, sr, hl, p⟩ =>
  lt_seq p rl sr hl fun k H1 ρ1 G1 s1 r1 sr1 hl1 p1 => p1 ρ1 H1 (!k) (Step.refl _ _) r1 rfl
/-! .. as values -/
theorem me_one {op} (h : ME X W a ma) : ME X W (.BoolOp op [a] pos) ma := pe_one h
theorem me_and (ha : ME X W a ma) (hb : ME X W (.BoolOp .And (b :: rest) pos) mb) : ME X W (.BoolOp .And (a :: b :: rest) pos) (bnd ma fun x => bnd (lo (tb x)) fun k => if k = true then mb else ret (.bl false)) := (pe_and ha hb).conv fun σ H Q ⟨ρ, G, ds, rl, sr, hl, p⟩ => by
  refine le_seq p rl sr hl fun x H1 ρ1 G1 c s1 r1 sr1 hl1 d1 p1 => ?_
  unfold bnd lo at p1
  cases q1 : tb c G1 with
  | none => simp only [q1] at p1; exact p1.elim
  | some k =>
    simp only [q1] at p1
    obtain ⟨rfl, rfl⟩ := bl_inv q1 d1
    refine ⟨k, rfl, ?_⟩
    cases k with
    | true => rw [if_pos rfl]; exact ⟨ρ1, G1, ds, r1, sr1, hl1, p1⟩
    | false => rw [if_neg Bool.false_ne_true]; exact p1 ρ1 H1 _ (Step.refl _ _) r1 rfl
theorem me_or (ha : ME X W a ma) (hb : ME X W (.BoolOp .Or (b :: rest) pos) mb) : ME X W (.BoolOp .Or (a :: b :: rest) pos) (bnd ma fun x => bnd (lo (tb x)) fun k => if k = true then ret (.bl true) else mb) := (pe_or ha hb).conv fun σ H Q ⟨ρ, G, ds, rl, sr, hl, p⟩ => by
  refine le_seq p rl sr hl fun x H1 ρ1 G1 c s1 r1 sr1 hl1 d1 p1 => ?_
  unfold bnd lo at p1
  cases q1 : tb c G1 with
  | none => simp only [q1] at p1; exact p1.elim
  | some k =>
    simp only [q1] at p1
    obtain ⟨rfl, rfl⟩ := bl_inv q1 d1
    refine ⟨k, rfl, ?_⟩
    cases k with
    | true => rw [if_pos rfl]; exact p1 ρ1 H1 _ (Step.refl _ _) r1 rfl
    | false => rw [if_neg Bool.false_ne_true]; exact ⟨ρ1, G1, ds, r1, sr1, hl1, p1⟩
theorem me_not (ha : ME X W a ma) : ME X W (.UnaryOp .Not a pos) (bnd ma fun x => bnd (lo (tb x)) fun k => ret (.bl (!k))) := (pe_not ha).conv fun σ H Q ⟨ρ, G, ds, rl, sr, hl, p⟩ => by
  refine le_seq p rl sr hl fun x H1 ρ1 G1 c s1 r1 sr1 hl1 d1 p1 => ?_
  unfold bnd lo at p1
  cases q1 : tb c G1 with
  | none => simp only [q1] at p1; exact p1.elim
  | some k =>
    simp only [q1] at p1
    obtain ⟨rfl, rfl⟩ := bl_inv q1 d1
    exact ⟨k, rfl, p1 ρ1 H1 _ (Step.refl _ _) r1 rfl⟩
theorem me_if {c : Expr} {tc : M Bool} (hc : MT X W c tc) (ha : ME X W a ma) (hb : ME X W b mb) : ME X W (.IfExp c a b pos) (bnd tc fun k => if k = true then ma else mb) := (pe_ifExp hc ha hb).conv fun σ H Q ⟨ρ, G, ds, rl, sr, hl, p⟩ => by
  refine lt_seq p rl sr hl fun k H1 ρ1 G1 s1 r1 sr1 hl1 p1 => ?_
  cases k with
  | true => rw [if_pos rfl] at p1 ⊢; exact ⟨ρ1, G1, ds, r1, sr1, hl1, p1⟩
  | false => rw [if_neg Bool.false_ne_true] at p1 ⊢; exact ⟨ρ1, G1, ds, r1, sr1, hl1, p1⟩
/-! arguments, displays -/
variable {m : M (List D)} {me : M D}
theorem ma_nil : MA X W [] (ret []) := pa_nil.conv fun σ H Q ⟨ρ, G, ds, rl, sr, hl, p⟩ => p ρ H [] (Step.refl _ _) rl rfl
theorem ma_cons (ha : ME X W e me) (hr : MA X W es m) (hs : starEach (e :: es) X.env = (false, eval e X.env) :: starEach es X.env := by rfl) : MA X W (e :: es) (bnd me fun d => bnd m fun ds => ret (d :: ds)) := (pa_cons ha hr hs).conv fun σ H Q ⟨ρ, G, ds, rl, sr, hl, p⟩ => by
  refine le_seq p rl sr hl fun x H1 ρ1 G1 c s1 r1 sr1 hl1 d1 p1 => ?_
  refine la_seq p1 r1 sr1 hl1 fun y H2 ρ2 G2 d s2 r2 sr2 hl2 d2 p2 => ?_
  exact p2 ρ2 H2 _ (Step.refl _ _) r2 (drels_cons (d1.step s2) d2)
def mkT (ds : List D) : Gs → Option D := fun _ => if ds.length ≤ sizeLine then some (.tup ds) else none
def mkL (ds : List D) : Gs → Option D := fun _ => if ds.length ≤ sizeLine then some (.tl ds) else none
theorem me_tup {x1} (h : MA X W es m) : ME X W (.Tuple es x1 pos) (bnd m fun ds => lo (mkT ds)) := (pe_tup h).conv fun σ H Q ⟨ρ, G, ds, rl, sr, hl, p⟩ => by
  refine la_seq p rl sr hl fun xs H1 ρ1 G1 c s1 r1 sr1 hl1 d1 p1 => ?_
  obtain ⟨d', e, q⟩ := lo_inv p1
  unfold mkT at e
  split at e
  · cases e
    rename_i hz
    exact ⟨by rw [← d1.length]; exact hz, fun a ha => q ρ1 _ _ (step_upd r1 ha) (r1.updN ha) (tup_new r1 ha d1)⟩
  · cases e
theorem me_tl (h : MA X W es m) : ME X W (.List es pos) (bnd m fun ds => lo (mkL ds)) := (pe_lst h).conv fun σ H Q ⟨ρ, G, ds, rl, sr, hl, p⟩ => by
  refine la_seq p rl sr hl fun xs H1 ρ1 G1 c s1 r1 sr1 hl1 d1 p1 => ?_
  obtain ⟨d', e, q⟩ := lo_inv p1
  unfold mkL at e
  split at e
  · cases e
    rename_i hz
    exact ⟨by rw [← d1.length]; exact hz, fun a ha => q ρ1 _ _ (step_upd r1 ha) (r1.updN ha) (tl_new r1 ha d1)⟩
  · cases e
/-- a list display that is to be changed: a new object -/
def newL (ds : List D) : M D := fun _ G => if ds.length ≤ sizeLine then .ok (.obj G.length) (G ++ [.lst ds]) else .stuck
theorem me_lst (h : MA X W es m) : ME X W (.List es pos) (bnd m fun ds => newL ds) := (pe_lst h).conv fun σ H Q ⟨ρ, G, ds, rl, sr, hl, p⟩ => by
  refine la_seq p rl sr hl fun xs H1 ρ1 G1 c s1 r1 sr1 hl1 d1 p1 => ?_
  unfold newL at p1
  split at p1
  · rename_i hz
    refine ⟨by rw [← d1.length]; exact hz, fun a ha => p1 (ρ1.more a) _ _ (step_alloc r1 ha) (r1.alloc ha ⟨xs, upd_same, d1.step (step_alloc r1 ha)⟩) ?_⟩
    refine ⟨a, ?_, rfl⟩
    show (ρ1.os ++ [a])[G1.length]? = _
    rw [r1.len]
    simp
  · exact p1.elim
/-! builtins -/
theorem me_callB {x : Str} {id : String} {f : List D → Gs → Option D} (hc : CallR X (.builtin id) (rF X.K f)) (hg : Gl X x) (hmg : X.mg x = none) (hv : bootBuiltins x = some (.builtin id)) (ha : MA X W (e :: es) m) (hn : x ≠ "__name__" := by decide) (hdb : (x == ("__debug__" : Str)) = false := by decide)
    (he : starEach (e :: es) X.env = (false, eval e X.env) :: starEach es X.env := by rfl) (hpl : (backTo pos (starEach es X.env)).any (·.1) = false := by rfl) : ME X W (.Call (.Name x p) (e :: es) [] pos) (bnd m fun ds => lo (f ds)) := (pe_callB hc hg hmg hv ha hn hdb he hpl).conv fun σ H Q ⟨ρ, G, ds, rl, sr, hl, p⟩ => by
  refine la_seq p rl sr hl fun xs H1 ρ1 G1 c s1 r1 sr1 hl1 d1 p1 => ?_
  obtain ⟨d', e, q⟩ := lo_inv p1
  exact ⟨ρ1, G1, c, d', r1, d1, e, q⟩
theorem me_callTy {x : Str} {T : String} {f : List D → Gs → Option D} (hc : CallR X (.type T) (rF X.K f)) (hg : Gl X x) (hmg : X.mg x = none) (hv : bootBuiltins x = some (.type T)) (ha : MA X W (e :: es) m) (hn : x ≠ "__name__" := by decide) (hdb : (x == ("__debug__" : Str)) = false := by decide)
    (he : starEach (e :: es) X.env = (false, eval e X.env) :: starEach es X.env := by rfl) (hpl : (backTo pos (starEach es X.env)).any (·.1) = false := by rfl) : ME X W (.Call (.Name x p) (e :: es) [] pos) (bnd m fun ds => lo (f ds)) := (pe_callTy hc hg hmg hv ha hn hdb he hpl).conv fun σ H Q ⟨ρ, G, ds, rl, sr, hl, p⟩ => by
  refine la_seq p rl sr hl fun xs H1 ρ1 G1 c s1 r1 sr1 hl1 d1 p1 => ?_
  obtain ⟨d', e, q⟩ := lo_inv p1
  exact ⟨ρ1, G1, c, d', r1, d1, e, q⟩
theorem me_ix {f : D → D → Gs → Option D} (hr : IxR X (rO X.K f)) (ha : ME X W a ma) (hb : ME X W b mb) (hs : PlainIx b) : ME X W (.Subscript a b pos) (bnd ma fun x => bnd mb fun y => lo (f x y)) := (pe_ix hr ha hb hs).conv fun σ H Q ⟨ρ, G, ds, rl, sr, hl, p⟩ => by
  refine le_seq p rl sr hl fun x H1 ρ1 G1 c s1 r1 sr1 hl1 d1 p1 => ?_
  refine le_seq p1 r1 sr1 hl1 fun y H2 ρ2 G2 d s2 r2 sr2 hl2 d2 p2 => ?_
  obtain ⟨d', e, q⟩ := lo_inv p2
  exact ⟨ρ2, G2, c, d, d', r2, d1.step s2, d2, e, q⟩
end
end M3
end L2

set_option Elab.async false
set_option linter.all false
set_option maxRecDepth 100000
set_option maxHeartbeats 2000000
/-! M3c: what operators and built-ins do to data. -/
namespace L2
namespace M3
open PySem PySem.Spec PyProof.Rows

/-! ### reading lists -/
def lstD (G : Gs) : D → Option (List D)
  | .tl ds => some ds
  | .obj i => match G[i]? with
    | some (.lst ds) => some ds
    | _ => none
  | _ => none
/-- a list or a tuple that is read -/
def seqD (G : Gs) : D → Option (List D)
  | .tup ds => some ds
  | .fz ds => some ds
  | d => lstD G d
section
variable {K : PySem.W.Frag} {ρ : Rho} {H : Hp} {G : Gs}
theorem lst_at (rl : Rl K ρ G H) {d : D} {v : V} {ds : List D} (h : lstD G d = some ds) (r : DRel K ρ H d v) : ∃ a xs, v = .ref a ∧ H a = some (.lst xs) ∧ DRels K ρ H ds xs := by
  cases d with
  | tl es =>
    cases h
    obtain ⟨a, xs, e, h1, h2⟩ := r
    exact ⟨a, xs, e, h1.2, h2⟩
  | obj i =>
    obtain ⟨a, h1, e⟩ := r
    unfold lstD at h
    cases q : G[i]? with
    | none => simp only [q] at h; cases h
    | some o =>
      simp only [q] at h
      cases o with
      | lst es =>
        cases h
        obtain ⟨xs, h2, h3⟩ := rl.at_ i _ a q h1
        exact ⟨a, xs, e, h2, h3⟩
      | _ => cases h
  | _ => cases h
theorem seq_at (rl : Rl K ρ G H) {d : D} {v : V} {ds : List D} (h : seqD G d = some ds) (r : DRel K ρ H d v) : ∃ a xs, v = .ref a ∧ (SqL K H a xs ∨ SqT K H a xs) ∧ DRels K ρ H ds xs := by
  have low : ∀ {d : D}, DRel K ρ H d v → lstD G d = some ds → ∃ a xs, v = .ref a ∧ (SqL K H a xs ∨ SqT K H a xs) ∧ DRels K ρ H ds xs := fun r h => by
    obtain ⟨a, xs, e, h1, h2⟩ := lst_at rl h r
    exact ⟨a, xs, e, .inl (.of h1), h2⟩
  cases d with
  | tup es =>
    cases h
    obtain ⟨a, xs, e, h1, h2⟩ := r
    exact ⟨a, xs, e, .inr h1.sq, h2⟩
  | fz es =>
    cases h
    obtain ⟨a, xs, e, h1, h2⟩ := r
    exact ⟨a, xs, e, .inl h1.sq, h2⟩
  | _ => exact low r h
/-- flat data is its value -/
def flat : D → Option V
  | .non => some .non
  | .bl b => some (.bl b)
  | .int i => some (.int i)
  | .str x => some (.str x)
  | _ => none
theorem flat_at {d : D} {v w : V} (h : flat d = some w) (r : DRel K ρ H d v) : v = w ∧ flatV w = true := by
  cases d <;> first | (cases h; exact ⟨r, rfl⟩) | cases h
def intD : D → Option Int
  | .int i => some i
  | _ => none
def blD : D → Option Bool
  | .bl i => some i
  | _ => none
def strD : D → Option Str
  | .str i => some i
  | _ => none
theorem int_at {d : D} {v : V} {i : Int} (h : intD d = some i) (r : DRel K ρ H d v) : v = .int i := by
  cases d <;> first | (cases h; exact r) | cases h
theorem bl_at {d : D} {v : V} {i : Bool} (h : blD d = some i) (r : DRel K ρ H d v) : v = .bl i := by
  cases d <;> first | (cases h; exact r) | cases h
theorem str_at {d : D} {v : V} {i : Str} (h : strD d = some i) (r : DRel K ρ H d v) : v = .str i := by
  cases d <;> first | (cases h; exact r) | cases h
/-- all of them -/
def allOf {α : Type} (f : D → Option α) : List D → Option (List α)
  | [] => some []
  | d :: ds => match f d, allOf f ds with
    | some a, some as => some (a :: as)
    | _, _ => none
theorem all_at {α : Type} {f : D → Option α} {g : α → V} (hf : ∀ {d : D} {v : V} {a : α}, f d = some a → DRel K ρ H d v → v = g a) : ∀ {ds : List D} {vs : List V} {as : List α}, allOf f ds = some as → DRels K ρ H ds vs → vs = as.map g
  | [], _, _, h, r => by cases h; cases r; rfl
  | d :: ds, _, as, h, r => by
    obtain ⟨v, us, rfl, r1, r2⟩ := r
    unfold allOf at h
    cases q : f d with
    | none => simp only [q] at h; cases h
    | some a =>
      cases q2 : allOf f ds with
      | none => simp only [q, q2] at h; cases h
      | some bs =>
        simp only [q, q2] at h
        cases h
        rw [hf q r1, all_at hf q2 r2]
        rfl
theorem drels_map {α : Type} {f : α → D} {g : α → V} (h : ∀ a, DRel K ρ H (f a) (g a)) : ∀ as : List α, DRels K ρ H (as.map f) (as.map g)
  | [] => rfl
  | a :: as => ⟨_, _, rfl, h a, drels_map h as⟩
end

/-! ### arithmetic -/
def i2 (f : Int → Int → Option D) : D → D → Gs → Option D := fun x y _ => match x, y with
  | .int i, .int j => f i j
  | _, _ => none
def addD : D → D → Gs → Option D := fun x y G => match x, y with
  | .int i, .int j => some (.int (i + j))
  | .str a, .str b => if a.length + b.length ≤ sizeLine then some (.str (a ++ b)) else none
  | .tup a, .tup b => if a.length + b.length ≤ sizeLine then some (.tup (a ++ b)) else none
  | x, y => match lstD G x, lstD G y with
    | some a, some b => if a.length + b.length ≤ sizeLine then some (.tl (a ++ b)) else none
    | _, _ => none
def subD := i2 fun i j => some (.int (i - j))
def mulI (i j : Int) : Option D := if i.natAbs < 2 ^ 64 ∨ j.natAbs < 2 ^ 64 ∨ i.natAbs.log2 + j.natAbs.log2 < 1000000 then some (.int (i * j)) else none
def mulD : D → D → Gs → Option D := fun x y G => match x, y with
  | .int i, .int j => mulI i j
  | .tup a, .int k => if a ≠ [] ∧ 2 ≤ k ∧ k ≤ 1000 ∧ a.length ≤ 1000 then some (.tup (List.replicate k.toNat a).flatten) else none
  | x, .int k => match lstD G x with
    | some a => if -(2 ^ 63) ≤ k ∧ k < 2 ^ 63 ∧ a.length * k.toNat ≤ sizeLine then some (.tl (List.replicate k.toNat a).flatten) else none
    | none => none
  | _, _ => none
def fdivD := i2 fun i j => if 0 < j ∧ j.natAbs.log2 < 9000 then some (.int (i / j)) else none
def modD := i2 fun i j => if 0 < j then some (.int (i % j)) else none
def powD := i2 fun i j => if 0 ≤ j ∧ j ≤ 1000000 ∧ i.natAbs < 2 ^ 64 then some (.int (i ^ j.toNat)) else none
def negD : D → Gs → Option D := fun x _ => match x with
  | .int i => some (.int (-i))
  | _ => none
section
variable {X : Cx}
theorem i2_ok {f : Value → Value → Sem Value} {g : Int → Int → Option D} (h : ∀ {pins : List (Addr × Obj)} {s : Shared} {σ : St} {H : Hp} {i j : Int} {v u : Value} {Q : VK} {d : D}, Inv X pins σ H s → RelV (.int i) v → RelV (.int j) u → g i j = some d →
    (∀ w, (∀ K ρ, DRel K ρ H d w) → Q w H) → wpAny (model X.prog X.w) X.A (f v u) (EP X pins σ Q) X.xe s) : OpR X f (rO X.K (i2 g)) := by
  intro pins s σ H x y v u Q I rx ry ⟨ρ, G, a, b, d, rl, ha, hb, e, q⟩
  unfold i2 at e
  split at e
  · obtain rfl : x = _ := ha
    obtain rfl : y = _ := hb
    exact h I rx ry e fun w hw => q ρ H w (Step.refl _ _) rl (hw _ _)
  · cases e
theorem opSub : OpR X (binaryOp .Sub) (rO X.K subD) := i2_ok fun I r1 r2 e q => by
  cases e
  exact op_sub _ _ _ _ _ _ _ _ _ I r1 r2 ⟨_, _, rfl, rfl, q _ fun _ _ => rfl⟩
theorem opFdiv : OpR X (binaryOp .FloorDiv) (rO X.K fdivD) := i2_ok fun I r1 r2 e q => by
  split at e
  · cases e
    rename_i h
    exact op_fdivW _ _ _ _ _ _ _ _ _ I r1 r2 ⟨_, _, rfl, rfl, h, q _ fun _ _ => rfl⟩
  · cases e
theorem opMod : OpR X (binaryOp .Mod) (rO X.K modD) := i2_ok fun I r1 r2 e q => by
  split at e
  · cases e
    rename_i h
    exact op_mod _ _ _ _ _ _ _ _ _ I r1 r2 ⟨_, _, rfl, rfl, h, q _ fun _ _ => rfl⟩
  · cases e
theorem opPow : OpR X (binaryOp .Pow) (rO X.K powD) := i2_ok fun I r1 r2 e q => by
  split at e
  · cases e
    rename_i h
    exact op_pow _ _ _ _ _ _ _ _ _ I r1 r2 ⟨_, _, rfl, rfl, h, q _ fun _ _ => rfl⟩
  · cases e
theorem opAdd : OpR X (binaryOp .Add) (rO X.K addD) := by
  intro pins s σ H x y v u Q I rx ry ⟨ρ, G, a, b, d, rl, ha, hb, e, q⟩
  unfold addD at e
  split at e
  · cases e
    obtain rfl : x = _ := ha
    obtain rfl : y = _ := hb
    exact op_add _ _ _ _ _ _ _ _ _ I rx ry ⟨_, _, rfl, rfl, q ρ H _ (Step.refl _ _) rl rfl⟩
  · split at e
    · cases e
      rename_i h
      obtain rfl : x = _ := ha
      obtain rfl : y = _ := hb
      exact op_add_str _ _ _ _ _ _ _ _ _ I rx ry ⟨_, _, rfl, rfl, h, q ρ H _ (Step.refl _ _) rl rfl⟩
    · cases e
  · split at e
    · cases e
      rename_i h
      obtain ⟨p, xs, rfl, h1, h2⟩ := ha
      obtain ⟨p', ys, rfl, h3, h4⟩ := hb
      refine op_catA _ _ _ _ _ _ _ _ _ I rx ry ⟨p, p', xs, ys, rfl, rfl, h1.sq, h3.sq, by rw [← h2.length, ← h4.length]; exact h, fun z => ?_, fun _ z => ?_, fun _ _ c hc => ?_⟩
      · have e0 := h2.length
        rw [z] at e0
        rw [List.length_eq_zero_iff.mp e0] at q
        exact q ρ H _ (Step.refl _ _) rl ⟨p', ys, rfl, h3, h4⟩
      · have e0 := h4.length
        rw [z] at e0
        rw [List.length_eq_zero_iff.mp e0, List.append_nil] at q
        exact q ρ H _ (Step.refl _ _) rl ⟨p, xs, rfl, h1, h2⟩
      · exact q ρ _ _ (step_upd rl hc) (rl.updN hc) (tup_new rl hc (h2.append h4))
    · cases e
  · split at e
    · split at e
      · cases e
        rename_i as bs ea eb h
        obtain ⟨p, xs, rfl, h1, h2⟩ := lst_at rl ea ha
        obtain ⟨p', ys, rfl, h3, h4⟩ := lst_at rl eb hb
        exact op_cat _ _ _ _ _ _ _ _ _ I rx ry ⟨p, p', xs, ys, rfl, rfl, h1, h3, by rw [← h2.length, ← h4.length]; exact h, fun c hc => q ρ _ _ (step_upd rl hc) (rl.updN hc) (tl_new rl hc (h2.append h4))⟩
      · cases e
    · cases e
theorem drels_rep {K : PySem.W.Frag} {ρ : Rho} {H : Hp} {ds : List D} {xs : List V} (h : DRels K ρ H ds xs) : ∀ k : Nat, DRels K ρ H (List.replicate k ds).flatten (List.replicate k xs).flatten
  | 0 => rfl
  | k + 1 => by
    rw [List.replicate_succ, List.replicate_succ, List.flatten_cons, List.flatten_cons]
    exact h.append (drels_rep h k)
theorem opMul : OpR X (binaryOp .Mult) (rO X.K mulD) := by
  intro pins s σ H x y v u Q I rx ry ⟨ρ, G, a, b, d, rl, ha, hb, e, q⟩
  unfold mulD at e
  split at e
  · unfold mulI at e
    split at e
    · cases e
      rename_i i j h
      obtain rfl : x = _ := ha
      obtain rfl : y = _ := hb
      have fin := q ρ H (.int (i * j)) (Step.refl _ _) rl rfl
      rcases h with h | h | h
      · exact op_mul _ _ _ _ _ _ _ _ _ I rx ry ⟨_, _, rfl, rfl, .inl ⟨by omega, by omega⟩, fin⟩
      · exact op_mul _ _ _ _ _ _ _ _ _ I rx ry ⟨_, _, rfl, rfl, .inr ⟨by omega, by omega⟩, fin⟩
      · exact op_mulW _ _ _ _ _ _ _ _ _ I rx ry ⟨_, _, rfl, rfl, h, fin⟩
    · cases e
  · split at e
    · cases e
      rename_i es k h
      obtain ⟨p, xs, rfl, h1, h2⟩ := ha
      obtain rfl : y = _ := hb
      obtain ⟨n1, n2, n3, n4⟩ := h
      refine op_repT _ _ _ _ _ _ _ _ _ I rx ry ⟨p, k, xs, rfl, rfl, h1.sq, fun z => n1 ?_, n2, n3, by rw [← h2.length]; exact n4, fun c hc => q ρ _ _ (step_upd rl hc) (rl.updN hc) (tup_new rl hc (drels_rep h2 _))⟩
      have e0 := h2.length
      rw [z] at e0
      exact List.length_eq_zero_iff.mp e0
    · cases e
  · split at e
    · split at e
      · cases e
        rename_i k _ _ _ es ea h
        obtain ⟨p, xs, rfl, h1, h2⟩ := lst_at rl ea ha
        obtain rfl : y = _ := hb
        obtain ⟨n1, n2, n3⟩ := h
        exact op_rep _ _ _ _ _ _ _ _ _ I rx ry ⟨p, k, xs, rfl, rfl, h1, n1, n2, by rw [← h2.length]; exact n3, fun c hc => q ρ _ _ (step_upd rl hc) (rl.updN hc) (tl_new rl hc (drels_rep h2 _))⟩
      · cases e
    · cases e
  · cases e
/-- -a -/
theorem me_neg {W : Wq} {a : Expr} {pos : Pos} {ma : M D} (ha : ME X W a ma) : ME X W (.UnaryOp .USub a pos) (bnd ma fun x => lo (negD x)) := (pe_un un_neg ha).conv fun σ H Q ⟨ρ, G, ds, rl, sr, hl, p⟩ => by
  refine le_seq p rl sr hl fun x H1 ρ1 G1 c s1 r1 sr1 hl1 d1 p1 => ?_
  obtain ⟨d', e, q⟩ := lo_inv p1
  unfold negD at e
  split at e
  · cases e
    obtain rfl : x = _ := d1
    exact ⟨_, rfl, q ρ1 H1 _ (Step.refl _ _) r1 rfl⟩
  · cases e

/-! ### comparisons -/
def cI (f : Int → Int → Bool) : D → D → Gs → Option D := i2 fun i j => some (.bl (f i j))
def ltS (a b : Str) : Bool := decide (a.cps.toList < b.cps.toList)
def ltD : D → D → Gs → Option D := cI fun i j => decide (i < j)
def leD : D → D → Gs → Option D := cI fun i j => decide (i ≤ j)
def gtD : D → D → Gs → Option D := cI fun i j => decide (j < i)
def geD : D → D → Gs → Option D := cI fun i j => decide (j ≤ i)
theorem opLt : OpR X (compareOp .Lt) (rO X.K ltD) := i2_ok fun I r1 r2 e q => by
  cases e
  exact op_lt _ _ _ _ _ _ _ _ _ I r1 r2 ⟨_, _, rfl, rfl, q _ fun _ _ => rfl⟩
theorem opLe : OpR X (compareOp .LtE) (rO X.K leD) := i2_ok fun I r1 r2 e q => by
  cases e
  exact op_le _ _ _ _ _ _ _ _ _ I r1 r2 ⟨_, _, rfl, rfl, q _ fun _ _ => rfl⟩
theorem opGt : OpR X (compareOp .Gt) (rO X.K gtD) := i2_ok fun I r1 r2 e q => by
  cases e
  exact op_gt _ _ _ _ _ _ _ _ _ I r1 r2 ⟨_, _, rfl, rfl, q _ fun _ _ => rfl⟩
theorem opGe : OpR X (compareOp .GtE) (rO X.K geD) := i2_ok fun I r1 r2 e q => by
  cases e
  exact op_ge _ _ _ _ _ _ _ _ _ I r1 r2 ⟨_, _, rfl, rfl, q _ fun _ _ => rfl⟩
/-! == of data at any depth -/
mutual
def toPy : D → Option PyData
  | .non => some .none
  | .bl b => some (.bool b)
  | .int i => some (.int i)
  | .str x => some (.str x)
  | .tup ds => match toPys ds with
    | some xs => some (.tuple xs)
    | none => none
  | .tl ds => match toPys ds with
    | some xs => some (.list xs)
    | none => none
  | .fz ds => match toPys ds with
    | some xs => some (.list xs)
    | none => none
  | _ => none
def toPys : List D → Option (List PyData)
  | [] => some []
  | d :: ds => match toPy d, toPys ds with
    | some x, some xs => some (x :: xs)
    | _, _ => none
end
/-- a list of the objects read as data -/
def thaw (G : Gs) (d : D) : D := match lstD G d with
  | some ds => .tl ds
  | none => d
mutual
theorem toPy_at {K : PySem.W.Frag} {ρ : Rho} {H : Hp} : ∀ {d : D} {v : V} {x : PyData}, toPy d = some x → DRel K ρ H d v → Dp K H v x
  | .non, _, _, h, r => by cases h; cases r; exact .non
  | .bl b, _, _, h, r => by cases h; cases r; exact .bl b
  | .int i, _, _, h, r => by cases h; cases r; exact .int i
  | .str x, _, _, h, r => by cases h; cases r; exact .str x
  | .tup ds, _, _, h, r => by
    unfold toPy at h
    split at h
    · cases h
      rename_i q
      obtain ⟨a, xs, rfl, h1, h2⟩ := r
      exact .tup h1.sq (toPys_at q h2)
    · cases h
  | .tl ds, _, _, h, r => by
    unfold toPy at h
    split at h
    · cases h
      rename_i q
      obtain ⟨a, xs, rfl, h1, h2⟩ := r
      exact .lst h1.sq (toPys_at q h2)
    · cases h
  | .fz ds, _, _, h, r => by
    unfold toPy at h
    split at h
    · cases h
      rename_i q
      obtain ⟨a, xs, rfl, h1, h2⟩ := r
      exact .lst h1.sq (toPys_at q h2)
    · cases h
  | .ty _, _, _, h, _ => by simp [toPy] at h
  | .glo _, _, _, h, _ => by simp [toPy] at h
  | .ti .., _, _, h, _ => by simp [toPy] at h
  | .td .., _, _, h, _ => by simp [toPy] at h
  | .obj _, _, _, h, _ => by simp [toPy] at h
theorem toPys_at {K : PySem.W.Frag} {ρ : Rho} {H : Hp} : ∀ {ds : List D} {vs : List V} {xs : List PyData}, toPys ds = some xs → DRels K ρ H ds vs → DpAll K H vs xs
  | [], _, _, h, r => by cases h; cases r; exact .nil
  | d :: ds, _, xs, h, r => by
    obtain ⟨v, us, rfl, r1, r2⟩ := r
    unfold toPys at h
    split at h
    · cases h
      rename_i q1 q2
      exact .cons (toPy_at q1 r1) (toPys_at q2 r2)
    · cases h
end
def eqD : D → D → Gs → Option D := fun x y G => match toPy (thaw G x), toPy (thaw G y) with
  | some a, some b => if SeqAt.shaped a = true ∧ SeqAt.shaped b = true then some (.bl (PyData.eqv a b)) else none
  | _, _ => none
def neD : D → D → Gs → Option D := fun x y G => match toPy (thaw G x), toPy (thaw G y) with
  | some a, some b => if SeqAt.shaped a = true ∧ SeqAt.shaped b = true then some (.bl (!PyData.eqv a b)) else none
  | _, _ => none
theorem thaw_at {K : PySem.W.Frag} {ρ : Rho} {G : Gs} {H : Hp} (rl : Rl K ρ G H) {d : D} {v : V} {x : PyData} (h : toPy (thaw G d) = some x) (r : DRel K ρ H d v) : Dp K H v x := by
  unfold thaw at h
  split at h
  · rename_i ds e
    obtain ⟨a, xs, rfl, h1, h2⟩ := lst_at rl e r
    unfold toPy at h
    split at h
    · cases h
      rename_i q
      exact .lst (.of h1) (toPys_at q h2)
    · cases h
  · exact toPy_at h r
theorem opEq (hu : X.A.units + 64 < cLine) : OpR X (compareOp .Eq) (rO X.K eqD) := by
  intro pins s σ H x y v u Q I rx ry ⟨ρ, G, a, b, d, rl, ha, hb, e, q⟩
  unfold eqD at e
  split at e
  · split at e
    · cases e
      rename_i e1 e2 h
      exact op_eqD hu _ _ _ _ _ _ _ _ _ I rx ry ⟨_, _, thaw_at rl e1 ha, thaw_at rl e2 hb, h.1, h.2, q ρ H _ (Step.refl _ _) rl rfl⟩
    · cases e
  · cases e
theorem opNe (hu : X.A.units + 64 < cLine) : OpR X (compareOp .NotEq) (rO X.K neD) := by
  intro pins s σ H x y v u Q I rx ry ⟨ρ, G, a, b, d, rl, ha, hb, e, q⟩
  unfold neD at e
  split at e
  · split at e
    · cases e
      rename_i e1 e2 h
      exact op_neD hu _ _ _ _ _ _ _ _ _ I rx ry ⟨_, _, thaw_at rl e1 ha, thaw_at rl e2 hb, h.1, h.2, q ρ H _ (Step.refl _ _) rl rfl⟩
    · cases e
  · cases e
/-! x in a list or tuple of flat items; x is None -/
def eqFlat (x y : D) : Bool := match flat x, flat y with
  | some a, some b => eqV b a
  | _, _ => false
def inD (neg : Bool) : D → D → Gs → Option D := fun x y G => match flat x, seqD G y with
  | some a, some ds => (match allOf flat ds with
    | some vs => some (.bl (if neg then !inV a vs else inV a vs))
    | none => none)
  | _, _ => none
theorem flats_at {K : PySem.W.Frag} {ρ : Rho} {H : Hp} : ∀ {ds : List D} {vs as : List V}, allOf flat ds = some as → DRels K ρ H ds vs → vs = as ∧ as.all flatV = true
  | [], _, _, h, r => by cases h; cases r; exact ⟨rfl, rfl⟩
  | d :: ds, _, as, h, r => by
    obtain ⟨v, us, rfl, r1, r2⟩ := r
    unfold allOf at h
    split at h
    · cases h
      rename_i q1 q2
      obtain ⟨rfl, f1⟩ := flat_at q1 r1
      obtain ⟨rfl, f2⟩ := flats_at q2 r2
      exact ⟨rfl, by rw [List.all_cons, f1, f2] <;> rfl⟩
    · cases h
theorem opIn : OpR X (compareOp .In) (rO X.K (inD false)) := by
  intro pins s σ H x y v u Q I rx ry ⟨ρ, G, a, b, d, rl, ha, hb, e, q⟩
  unfold inD at e
  split at e
  · split at e
    · cases e
      rename_i e1 e2 _ _ e3
      obtain ⟨rfl, f1⟩ := flat_at e1 ha
      obtain ⟨p, xs, rfl, h1, h2⟩ := seq_at rl e2 hb
      obtain ⟨rfl, f2⟩ := flats_at e3 h2
      exact op_in_seq _ _ _ _ _ _ _ _ _ I rx ry ⟨p, _, rfl, h1, f1, f2, q ρ H _ (Step.refl _ _) rl rfl⟩
    · cases e
  · cases e
theorem opNotIn : OpR X (compareOp .NotIn) (rO X.K (inD true)) := by
  intro pins s σ H x y v u Q I rx ry ⟨ρ, G, a, b, d, rl, ha, hb, e, q⟩
  unfold inD at e
  split at e
  · split at e
    · cases e
      rename_i e1 e2 _ _ e3
      obtain ⟨rfl, f1⟩ := flat_at e1 ha
      obtain ⟨p, xs, rfl, h1, h2⟩ := seq_at rl e2 hb
      obtain ⟨rfl, f2⟩ := flats_at e3 h2
      exact op_notIn_seq _ _ _ _ _ _ _ _ _ I rx ry ⟨p, _, rfl, h1, f1, f2, q ρ H _ (Step.refl _ _) rl rfl⟩
    · cases e
  · cases e
def isN (d : D) : Bool := match d with
  | .non => true
  | _ => false
def isD : D → D → Gs → Option D := fun x y _ => match y with
  | .non => some (.bl (isN x))
  | _ => none
def isntD : D → D → Gs → Option D := fun x y _ => match y with
  | .non => some (.bl (!isN x))
  | _ => none
theorem isN_at {K : PySem.W.Frag} {ρ : Rho} {H : Hp} {d : D} {v : V} (r : DRel K ρ H d v) : decide (v = .non) = isN d := by
  cases d with
  | non => cases r; rfl
  | bl b => cases r; rfl
  | int i => cases r; rfl
  | str x => cases r; rfl
  | ty n => cases r; rfl
  | glo x => cases r; rfl
  | tup ds => obtain ⟨a, xs, rfl, _⟩ := r; rfl
  | tl ds => obtain ⟨a, xs, rfl, _⟩ := r; rfl
  | fz ds => obtain ⟨a, xs, rfl, _⟩ := r; rfl
  | ti C ks ds => obtain ⟨a, dx, xs, rfl, _⟩ := r; rfl
  | td ks ds => obtain ⟨a, xs, rfl, _⟩ := r; rfl
  | obj i => obtain ⟨a, _, rfl⟩ := r; rfl
theorem opIs : OpR X (compareOp .Is) (rO X.K isD) := by
  intro pins s σ H x y v u Q I rx ry ⟨ρ, G, a, b, d, rl, ha, hb, e, q⟩
  unfold isD at e
  split at e
  · cases e
    obtain rfl : y = _ := hb
    exact op_isN _ _ _ _ _ _ _ _ _ I rx ry ⟨rfl, by rw [isN_at ha]; exact q ρ H _ (Step.refl _ _) rl rfl⟩
  · cases e
theorem opIsnt : OpR X (compareOp .IsNot) (rO X.K isntD) := by
  intro pins s σ H x y v u Q I rx ry ⟨ρ, G, a, b, d, rl, ha, hb, e, q⟩
  unfold isntD at e
  split at e
  · cases e
    obtain rfl : y = _ := hb
    exact op_notN _ _ _ _ _ _ _ _ _ I rx ry ⟨rfl, by rw [isN_at ha]; exact q ρ H _ (Step.refl _ _) rl rfl⟩
  · cases e

/-! ### items -/
def ixD : D → D → Gs → Option D := fun x y G => match seqD G x, y with
  | some ds, .int i => atI ds i
  | _, _ => match x, y with
    | .str z, .int i => if z.length ≤ sizeLine then (atI z.cps.toList i).map fun c => .str ⟨#[c]⟩ else none
    | _, _ => none
theorem atI_rel {K : PySem.W.Frag} {ρ : Rho} {H : Hp} {ds : List D} {vs : List V} {i : Int} {d : D} (r : DRels K ρ H ds vs) (h : atI ds i = some d) : ∃ v, atI vs i = some v ∧ DRel K ρ H d v := by
  unfold atI at h ⊢
  rw [← r.length]
  cases q : ixN ds.length i with
  | none => rw [q] at h; cases h
  | some j =>
    rw [q] at h
    obtain ⟨v, e1, e2⟩ := r.get (i := j) h
    exact ⟨v, e1, e2⟩
theorem ixOk : IxR X (rO X.K ixD) := by
  intro value slice pins s σ H x y v u Q I rx ry ⟨ρ, G, a, b, d, rl, ha, hb, e, q⟩ hs
  unfold ixD at e
  split at e
  · rename_i ds i e1
    obtain rfl : y = _ := hb
    obtain ⟨p, xs, rfl, h1, h2⟩ := seq_at rl e1 ha
    obtain ⟨w, e2, dw⟩ := atI_rel h2 e
    have fin := q ρ H w (Step.refl _ _) rl dw
    rcases h1 with h1 | h1
    · exact ix_list _ _ _ _ _ _ _ _ _ _ _ I rx ry ⟨p, xs, i, w, rfl, rfl, h1, e2, fin⟩ hs
    · exact ix_tup _ _ _ _ _ _ _ _ _ _ _ I rx ry ⟨p, xs, i, w, rfl, rfl, h1, e2, fin⟩ hs
  · split at e
    · split at e
      · rename_i z i _ hz
        obtain rfl : x = _ := ha
        obtain rfl : y = _ := hb
        cases e3 : atI z.cps.toList i with
        | none => rw [e3] at e; cases e
        | some c =>
          rw [e3] at e
          cases e
          exact ix_str _ _ _ _ _ _ _ _ _ _ _ I rx ry ⟨z, i, c, rfl, rfl, hz, e3, q ρ H _ (Step.refl _ _) rl rfl⟩ hs
      · cases e
    · cases e
end
end M3
end L2

set_option Elab.async false
set_option linter.all false
set_option maxRecDepth 100000
set_option maxHeartbeats 2000000
/-! M3d: built-in functions on data. -/
namespace L2
namespace M3
open PySem PySem.Spec PyProof.Rows

/-! ### classes -/
abbrev CT := Sum String Str
def cv (K : PySem.W.Frag) : CT → Value
  | .inl n => .type n
  | .inr C => .ref (He.ga K C)
def tyO : Option MO → Option CT
  | some (.lst _) => some (.inl "list")
  | some (.dct _) => some (.inl "dict")
  | some (.ins C _) => some (.inr C)
  | none => none
def tyC (G : Gs) : D → Option CT
  | .non => some (.inl "NoneType")
  | .bl _ => some (.inl "bool")
  | .int _ => some (.inl "int")
  | .str _ => some (.inl "str")
  | .tup _ => some (.inl "tuple")
  | .tl _ => some (.inl "list")
  | .fz _ => some (.inl "list")
  | .td _ _ => some (.inl "dict")
  | .ti C _ _ => some (.inr C)
  | .obj i => tyO G[i]?
  | _ => none
structure InsF (K : PySem.W.Frag) (C : Addr) : Prop where
  cl : Cls K C
  ha : PySem.W.findIn K (.ref C) "__class__" = some (some (.builtin "object.__class__"))
  hn : PySem.W.specialIn K (.builtin "object.__class__") "__get__" = some (some (.builtin "getset_descriptor.__get__"))
  ht : PySem.W.takesIn K (.builtin "object.__class__") = some true
  hm : PySem.W.mroIn K C (.type "object") = some true
/-- what is known of the program's classes: the table of isinstance, the classes that have instances, their fields; the errors, their fields -/
structure TF where
  kt : CT → CT → Option Bool
  ic : Str → Bool
  nf : Str → Str → Bool
  ec : Str → Bool
  xf : Str → Str → Bool
structure PF (K : PySem.W.Frag) where
  T : TF
  hkt : ∀ a b r, T.kt a b = some r → PySem.W.kitOne K (cv K a) (cv K b) = some r
  hic : ∀ C, T.ic C = true → InsF K (He.ga K C)
def bT : List String := ["NoneType", "bool", "int", "str", "tuple", "list", "dict"]
/-- built-in types among themselves -/
def kt0 : CT → CT → Option Bool
  | .inl a, .inl b => if a ∈ bT ∧ b ∈ bT ∧ b ≠ "NoneType" then some (a == b || (a == "bool" && b == "int")) else none
  | _, _ => none
theorem kt0_ok {K : PySem.W.Frag} : ∀ a b r, kt0 a b = some r → PySem.W.kitOne K (cv K a) (cv K b) = some r := by
  intro a b r h
  cases a with
  | inr C => exact absurd h (by intro z; cases z)
  | inl a =>
    cases b with
    | inr C => exact absurd h (by intro z; cases z)
    | inl b =>
      replace h : (if a ∈ bT ∧ b ∈ bT ∧ b ≠ "NoneType" then some (a == b || (a == "bool" && b == "int")) else none) = some r := h
      split at h
      · rename_i q
        obtain ⟨q1, q2, q3⟩ := q
        cases h
        have key : ∀ a ∈ bT, ∀ b ∈ bT, b ≠ "NoneType" → kitB a b = some (a == b || (a == "bool" && b == "int")) := by decide +kernel
        exact kit_ty (key a q1 b q2 q3)
      · cases h
section
variable {X : Cx} {ρ : Rho} {H : Hp} {G : Gs}
theorem ty_at (F : PF X.K) (rl : Rl X.K ρ G H) {d : D} {v : V} {t : CT} (h : tyC G d = some t) (hi : ∀ C, t = .inr C → F.T.ic C = true) (r : DRel X.K ρ H d v) : TyX X.K H v (cv X.K t) := by
  cases d with
  | non => cases h; cases r; exact .base .non
  | bl b => cases h; cases r; exact .base (.bl b)
  | int i => cases h; cases r; exact .base (.int i)
  | str x => cases h; cases r; exact .base (.str x)
  | tup ds =>
    cases h
    obtain ⟨a, xs, rfl, h1, h2⟩ := r
    rcases h1 with ⟨_, h1 | ⟨o, h1⟩⟩ | ⟨o, its, n, e1, e2, _⟩
    · exact .base (.tup h1)
    · exact .fTuple h1
    · exact .kTuple e1 e2
  | tl ds =>
    cases h
    obtain ⟨a, xs, rfl, h1, h2⟩ := r
    exact .base (.lst h1.2)
  | fz ds =>
    cases h
    obtain ⟨a, xs, rfl, h1, h2⟩ := r
    rcases h1 with ⟨_, h1 | ⟨o, h1⟩⟩ | ⟨o, its, n, e1, e2, _⟩
    · exact .base (.lst h1)
    · exact .base (.frz h1)
    · exact .kList e1 e2
  | td ks ds =>
    cases h
    obtain ⟨a, xs, rfl, _, h1, _⟩ := r
    rcases h1 with ⟨l, e1, _⟩ | ⟨l, e1, _⟩
    · exact .base (.dK e1)
    · exact .base (.dT e1)
  | ti C ks ds =>
    cases h
    obtain ⟨a, dx, xs, rfl, _, h1, _⟩ := r
    have f := F.hic C (hi C rfl)
    exact .base (.ins h1 f.cl f.ha f.hn f.ht f.hm)
  | obj i =>
    obtain ⟨a, h1, rfl⟩ := r
    have h' : tyO G[i]? = some t := h
    cases q : G[i]? with
    | none => rw [q] at h'; cases h'
    | some o =>
      rw [q] at h'
      cases o with
      | lst ds =>
        cases h'
        obtain ⟨xs, h2, _⟩ := rl.at_ i _ a q h1
        exact .base (.lst h2)
      | dct kvs =>
        cases h'
        rcases rl.at_ i _ a q h1 with ⟨l, e1, _⟩ | ⟨l, e1, _⟩
        · exact .base (.dK e1)
        · exact .base (.dT e1)
      | ins C fs =>
        cases h'
        obtain ⟨dx, xs, h2, _⟩ := rl.at_ i _ a q h1
        have f := F.hic C (hi C rfl)
        exact .base (.ins h2 f.cl f.ha f.hn f.ht f.hm)
  | _ => cases h
def clsD : D → Option CT
  | .ty n => some (.inl n)
  | .glo C => some (.inr C)
  | _ => none
theorem clsV_at {K : PySem.W.Frag} {d : D} {v : V} {c : CT} (h : clsD d = some c) (r : DRel K ρ H d v) : ClsV v (cv K c) := by
  cases d with
  | ty n => cases h; cases r; exact .ty n
  | glo C => cases h; cases r; exact .own _
  | _ => cases h
def okT (T : TF) : CT → Bool
  | .inl _ => true
  | .inr C => T.ic C
def isiF (T : TF) : List D → Gs → Option D := fun ds G => match ds with
  | [x, c] => (match tyC G x, clsD c with
    | some t, some u => if okT T t = true then (T.kt t u).map D.bl else none
    | _, _ => none)
  | _ => none
theorem bIsi (F : PF X.K) : CallR X (.builtin "isinstance") (rF X.K (isiF F.T)) := by
  intro pins s σ H vs us Q I rv ⟨ρ, G, as, d, rl, ha, e, q⟩
  unfold isiF at e
  split at e
  · rename_i x c
    obtain ⟨v1, r1, rfl, d1, v2, r2, rfl, d2, e2⟩ := ha
    cases e2
    split at e
    · rename_i t u e1 e2
      split at e
      · rename_i hc
        cases e3 : F.T.kt t u with
        | none => rw [e3] at e; cases e
        | some b =>
          rw [e3] at e
          cases e
          exact call_isi _ _ _ _ _ _ _ I rv ⟨_, _, _, _, b, rfl, clsV_at e2 d2, ty_at F rl e1 (fun C z => by subst z; exact hc) d1, F.hkt _ _ _ e3, q ρ H _ (Step.refl _ _) rl rfl⟩
      · cases e
    · cases e
  · cases e

/-! ### len, int, abs, sum, all, any, tuple, list, sorted, str -/
def lenD : D → Gs → Option Nat := fun d G => match d with
  | .str z => if z.length ≤ sizeLine then some z.length else none
  | d => (seqD G d).map (·.length)
def lenF : List D → Gs → Option D := fun ds G => match ds with
  | [x] => (lenD x G).map fun n => .int n
  | _ => none
theorem bLen : CallR X (.builtin "len") (rF X.K lenF) := by
  intro pins s σ H vs us Q I rv ⟨ρ, G, as, d, rl, ha, e, q⟩
  unfold lenF at e
  split at e
  · rename_i x
    obtain ⟨v1, r1, rfl, d1, e2⟩ := ha
    cases e2
    cases e1 : lenD x G with
    | none => rw [e1] at e; cases e
    | some n =>
      rw [e1] at e
      cases e
      unfold lenD at e1
      split at e1
      · split at e1
        · cases e1
          obtain rfl : v1 = _ := d1
          exact call_len _ _ _ _ _ _ _ I rv ⟨_, _, rfl, ⟨by assumption, rfl⟩, q ρ H _ (Step.refl _ _) rl rfl⟩
        · cases e1
      · cases e3 : seqD G x with
        | none => rw [e3] at e1; cases e1
        | some ds =>
          rw [e3] at e1
          cases e1
          obtain ⟨a, xs, rfl, h1, h2⟩ := seq_at rl e3 d1
          refine call_len_seq _ _ _ _ _ _ _ I rv ⟨a, xs, rfl, h1, ?_⟩
          rw [← h2.length]
          exact q ρ H _ (Step.refl _ _) rl rfl
  · cases e
def int1 (f : Int → Int) : List D → Gs → Option D := fun ds _ => match ds with
  | [.int i] => some (.int (f i))
  | _ => none
def intF : List D → Gs → Option D := fun ds _ => match ds with
  | [.int i] => some (.int i)
  | [.bl k] => some (.int (if k then 1 else 0))
  | _ => none
def absF := int1 fun i => if i < 0 then -i else i
theorem bAbs : CallR X (.builtin "abs") (rF X.K absF) := by
  intro pins s σ H vs us Q I rv ⟨ρ, G, as, d, rl, ha, e, q⟩
  unfold absF int1 at e
  split at e
  · cases e
    obtain ⟨v1, r1, rfl, d1, e2⟩ := ha
    cases e2
    cases d1
    exact call_abs _ _ _ _ _ _ _ I rv ⟨_, rfl, q ρ H _ (Step.refl _ _) rl rfl⟩
  · cases e
theorem bInt : CallR X (.type "int") (rF X.K intF) := by
  intro pins s σ H vs us Q I rv ⟨ρ, G, as, d, rl, ha, e, q⟩
  unfold intF at e
  split at e
  · cases e
    obtain ⟨v1, r1, rfl, d1, e2⟩ := ha
    cases e2
    cases d1
    exact call_int1 _ _ _ _ _ _ _ I rv (.inl ⟨_, rfl, q ρ H _ (Step.refl _ _) rl rfl⟩)
  · cases e
    obtain ⟨v1, r1, rfl, d1, e2⟩ := ha
    cases e2
    cases d1
    exact call_int1 _ _ _ _ _ _ _ I rv (.inr ⟨_, rfl, q ρ H _ (Step.refl _ _) rl rfl⟩)
  · cases e
/-- a list that is read -/
def lsD (G : Gs) : D → Option (List D)
  | .fz ds => some ds
  | d => lstD G d
theorem ls_at {K : PySem.W.Frag} (rl : Rl K ρ G H) {d : D} {v : V} {ds : List D} (h : lsD G d = some ds) (r : DRel K ρ H d v) : ∃ a xs, v = .ref a ∧ SqL K H a xs ∧ DRels K ρ H ds xs := by
  have low : ∀ {d : D}, DRel K ρ H d v → lstD G d = some ds → ∃ a xs, v = .ref a ∧ SqL K H a xs ∧ DRels K ρ H ds xs := fun r h => by
    obtain ⟨a, xs, e, h1, h2⟩ := lst_at rl h r
    exact ⟨a, xs, e, .of h1, h2⟩
  cases d with
  | fz es =>
    cases h
    obtain ⟨a, xs, e, h1, h2⟩ := r
    exact ⟨a, xs, e, h1.sq, h2⟩
  | _ => exact low r h
/-- a list of things that are alike -/
def lsOf {α : Type} (f : D → Option α) (G : Gs) (d : D) : Option (List α) := match lsD G d with
  | some ds => allOf f ds
  | none => none
theorem lsOf_at {α : Type} {f : D → Option α} {g : α → V} {K : PySem.W.Frag} (hf : ∀ {d : D} {v : V} {a : α}, f d = some a → DRel K ρ H d v → v = g a) (rl : Rl K ρ G H) {d : D} {v : V} {as : List α} (h : lsOf f G d = some as) (r : DRel K ρ H d v) :
    ∃ a, v = .ref a ∧ SqL K H a (as.map g) := by
  unfold lsOf at h
  split at h
  · rename_i ds e
    obtain ⟨a, xs, rfl, h1, h2⟩ := ls_at rl e r
    rw [all_at hf h h2] at h1
    exact ⟨a, rfl, h1⟩
  · cases h
def sumF : List D → Gs → Option D := fun ds G => match ds with
  | [x] => (lsOf intD G x).map fun ns => .int ns.sum
  | _ => none
def allF : List D → Gs → Option D := fun ds G => match ds with
  | [x] => (lsOf blD G x).map fun ns => .bl (ns.all id)
  | _ => none
def anyF : List D → Gs → Option D := fun ds G => match ds with
  | [x] => (lsOf blD G x).map fun ns => .bl (ns.any id)
  | _ => none
theorem bSum (hc : X.calm = true) : CallR X (.builtin "sum") (rF X.K sumF) := by
  intro pins s σ H vs us Q I rv ⟨ρ, G, as, d, rl, ha, e, q⟩
  unfold sumF at e
  split at e
  · rename_i x
    obtain ⟨v1, r1, rfl, d1, e2⟩ := ha
    cases e2
    cases e1 : lsOf intD G x with
    | none => rw [e1] at e; cases e
    | some n =>
      rw [e1] at e
      cases e
      obtain ⟨a, rfl, h1⟩ := lsOf_at (fun h r => int_at h r) rl e1 d1
      exact cr_sum hc _ _ _ _ _ _ _ I rv ⟨a, n, rfl, h1, q ρ H _ (Step.refl _ _) rl rfl⟩
  · cases e
theorem bAll (hc : X.calm = true) : CallR X (.builtin "all") (rF X.K allF) := by
  intro pins s σ H vs us Q I rv ⟨ρ, G, as, d, rl, ha, e, q⟩
  unfold allF at e
  split at e
  · rename_i x
    obtain ⟨v1, r1, rfl, d1, e2⟩ := ha
    cases e2
    cases e1 : lsOf blD G x with
    | none => rw [e1] at e; cases e
    | some n =>
      rw [e1] at e
      cases e
      obtain ⟨a, rfl, h1⟩ := lsOf_at (fun h r => bl_at h r) rl e1 d1
      exact cr_all hc _ _ _ _ _ _ _ I rv ⟨a, n, rfl, h1, q ρ H _ (Step.refl _ _) rl rfl⟩
  · cases e
theorem bAny (hc : X.calm = true) : CallR X (.builtin "any") (rF X.K anyF) := by
  intro pins s σ H vs us Q I rv ⟨ρ, G, as, d, rl, ha, e, q⟩
  unfold anyF at e
  split at e
  · rename_i x
    obtain ⟨v1, r1, rfl, d1, e2⟩ := ha
    cases e2
    cases e1 : lsOf blD G x with
    | none => rw [e1] at e; cases e
    | some n =>
      rw [e1] at e
      cases e
      obtain ⟨a, rfl, h1⟩ := lsOf_at (fun h r => bl_at h r) rl e1 d1
      exact cr_any hc _ _ _ _ _ _ _ I rv ⟨a, n, rfl, h1, q ρ H _ (Step.refl _ _) rl rfl⟩
  · cases e
def tupF : List D → Gs → Option D := fun ds G => match ds with
  | [.tup ds] => some (.tup ds)
  | [x] => (lsD G x).map D.tup
  | _ => none
theorem bTup : CallR X (.type "tuple") (rF X.K tupF) := by
  intro pins s σ H vs us Q I rv ⟨ρ, G, as, d, rl, ha, e, q⟩
  unfold tupF at e
  split at e
  · cases e
    obtain ⟨v1, r1, rfl, d1, e2⟩ := ha
    cases e2
    obtain ⟨a, xs, rfl, h1, h2⟩ := d1
    exact call_tuple_of _ _ _ _ _ _ _ I rv ⟨a, xs, rfl, .inr ⟨h1.sq, q ρ H _ (Step.refl _ _) rl ⟨a, xs, rfl, h1, h2⟩⟩⟩
  · rename_i x _
    obtain ⟨v1, r1, rfl, d1, e2⟩ := ha
    cases e2
    cases e1 : lsD G x with
    | none => rw [e1] at e; cases e
    | some n =>
      rw [e1] at e
      cases e
      obtain ⟨a, xs, rfl, h1, h2⟩ := ls_at rl e1 d1
      exact call_tuple_of _ _ _ _ _ _ _ I rv ⟨a, xs, rfl, .inl ⟨h1, fun c hc => q ρ _ _ (step_upd rl hc) (rl.updN hc) (tup_new rl hc h2)⟩⟩
  · cases e
def listF : List D → Gs → Option D := fun ds G => match ds with
  | [x] => (seqD G x).map D.tl
  | _ => none
theorem bList : CallR X (.type "list") (rF X.K listF) := by
  intro pins s σ H vs us Q I rv ⟨ρ, G, as, d, rl, ha, e, q⟩
  unfold listF at e
  split at e
  · rename_i x
    obtain ⟨v1, r1, rfl, d1, e2⟩ := ha
    cases e2
    cases e1 : seqD G x with
    | none => rw [e1] at e; cases e
    | some n =>
      rw [e1] at e
      cases e
      obtain ⟨a, xs, rfl, h1, h2⟩ := seq_at rl e1 d1
      exact call_list_of _ _ _ _ _ _ _ I rv ⟨a, xs, rfl, h1, fun c hc => q ρ _ _ (step_upd rl hc) (rl.updN hc) (tl_new rl hc h2)⟩
  · cases e
/-- the ints sorted: a sort of one's own -/
def insI (i : Int) : List Int → List Int
  | [] => [i]
  | j :: r => if i ≤ j then i :: j :: r else j :: insI i r
def sortI : List Int → List Int
  | [] => []
  | i :: r => insI i (sortI r)
theorem insI_perm (i : Int) : ∀ l : List Int, (insI i l).Perm (i :: l)
  | [] => .refl _
  | j :: r => by
    unfold insI
    split
    · exact .refl _
    · exact ((insI_perm i r).cons j).trans (.swap i j r)
theorem sortI_perm : ∀ l : List Int, (sortI l).Perm l
  | [] => .refl _
  | i :: r => (insI_perm i _).trans ((sortI_perm r).cons i)
theorem insI_sorted (i : Int) : ∀ l : List Int, l.Pairwise (· ≤ ·) → (insI i l).Pairwise (· ≤ ·)
  | [], _ => by simp [insI]
  | j :: r, h => by
    unfold insI
    rw [List.pairwise_cons] at h
    split
    · rename_i c
      rw [List.pairwise_cons]
      refine ⟨fun a ha => ?_, List.pairwise_cons.mpr h⟩
      rcases List.mem_cons.mp ha with rfl | ha
      · exact c
      · exact Int.le_trans c (h.1 a ha)
    · rename_i c
      rw [List.pairwise_cons]
      refine ⟨fun a ha => ?_, insI_sorted i r h.2⟩
      rcases List.mem_cons.mp ((insI_perm i r).mem_iff.mp ha) with rfl | ha
      · omega
      · exact h.1 a ha
theorem sortI_sorted : ∀ l : List Int, (sortI l).Pairwise (· ≤ ·)
  | [] => .nil
  | i :: r => insI_sorted i _ (sortI_sorted r)
theorem sortI_eq {l m : List Int} (hp : m.Perm l) (hs : m.Pairwise (· ≤ ·)) : m = sortI l :=
  (hp.trans (sortI_perm l).symm).eq_of_pairwise (fun a b _ _ h1 h2 => Int.le_antisymm h1 h2) hs (sortI_sorted l)
/-- sorted of a list or a tuple of ints -/
def sortedF : List D → Gs → Option D := fun ds G => match ds with
  | [x] => (lsOf intD G x).map fun ns => .tl ((sortI ns).map D.int)
  | _ => none
theorem bSorted : CallR X (.builtin "sorted") (rF X.K sortedF) := by
  intro pins s σ H vs us Q I rv ⟨ρ, G, as, d, rl, ha, e, q⟩
  unfold sortedF at e
  split at e
  · rename_i x
    obtain ⟨v1, r1, rfl, d1, e2⟩ := ha
    cases e2
    cases e1 : lsOf intD G x with
    | none => rw [e1] at e; cases e
    | some n =>
      rw [e1] at e
      cases e
      obtain ⟨a, rfl, h1⟩ := lsOf_at (fun h r => int_at h r) rl e1 d1
      refine cr_sortedI _ _ _ _ _ _ _ I rv ⟨a, n, rfl, h1, fun m p hp hs hn => ?_⟩
      dsimp only at q
      rw [← sortI_eq hp hs] at q
      exact q ρ _ _ (step_upd rl hn) (rl.updN hn) (tl_new rl hn (drels_map (f := D.int) (g := V.int) (fun _ => rfl) m))
  · cases e
def strF : List D → Gs → Option D := fun ds _ => match ds with
  | [.int i] => if i.natAbs.log2 < 1920 then some (.str (toString i)) else none
  | _ => none
theorem bStr : CallR X (.type "str") (rF X.K strF) := by
  intro pins s σ H vs us Q I rv ⟨ρ, G, as, d, rl, ha, e, q⟩
  unfold strF at e
  split at e
  · split at e
    · cases e
      rename_i h
      obtain ⟨v1, r1, rfl, d1, e2⟩ := ha
      cases e2
      cases d1
      exact call_str_int _ _ _ _ _ _ _ I rv ⟨_, rfl, h, q ρ H _ (Step.refl _ _) rl rfl⟩
    · cases e
  · cases e
def max2F : List D → Gs → Option D := fun ds _ => match ds with
  | [.int i, .int j] => some (.int (if j > i then j else i))
  | _ => none
def min2F : List D → Gs → Option D := fun ds _ => match ds with
  | [.int i, .int j] => some (.int (if j < i then j else i))
  | _ => none
theorem bMax2 (hc : X.calm = true) : CallR X (.builtin "max") (rF X.K max2F) := by
  intro pins s σ H vs us Q I rv ⟨ρ, G, as, d, rl, ha, e, q⟩
  unfold max2F at e
  split at e
  · cases e
    obtain ⟨v1, r1, rfl, d1, v2, r2, rfl, d2, e2⟩ := ha
    cases e2
    cases d1
    cases d2
    exact call_max2 hc _ _ _ _ _ _ _ I rv ⟨_, _, rfl, q ρ H _ (Step.refl _ _) rl rfl⟩
  · cases e
theorem bMin2 (hc : X.calm = true) : CallR X (.builtin "min") (rF X.K min2F) := by
  intro pins s σ H vs us Q I rv ⟨ρ, G, as, d, rl, ha, e, q⟩
  unfold min2F at e
  split at e
  · cases e
    obtain ⟨v1, r1, rfl, d1, v2, r2, rfl, d2, e2⟩ := ha
    cases e2
    cases d1
    cases d2
    exact call_min2 hc _ _ _ _ _ _ _ I rv ⟨_, _, rfl, q ρ H _ (Step.refl _ _) rl rfl⟩
  · cases e

/-! ### slices -/
def cutD (ds : List D) (lo hi : Option Int) : List D := (ds.drop (HT.sIx ds.length 0 lo)).take (HT.sIx ds.length ds.length hi - HT.sIx ds.length 0 lo)
def slD : D → Option Int → Option Int → Gs → Option D := fun x lo hi G => match x with
  | .tup ds => some (.tup (cutD ds lo hi))
  | .str z => if z.length ≤ sizeLine then some (.str (cutS z lo hi)) else none
  | x => (lsD G x).map fun ds => .tl (cutD ds lo hi)
theorem cut_rel {K : PySem.W.Frag} {ds : List D} {xs : List V} (h : DRels K ρ H ds xs) (lo hi : Option Int) : DRels K ρ H (cutD ds lo hi) (cutV xs lo hi) := by
  unfold cutD cutV
  rw [h.length]
  exact (h.drop _).take _
theorem cutD_whole {ds : List D} {lo hi : Option Int} (h1 : HT.sIx ds.length 0 lo = 0) (h2 : HT.sIx ds.length ds.length hi = ds.length) : cutD ds lo hi = ds := by
  unfold cutD
  rw [h1, h2]
  simp
def rS (K : PySem.W.Frag) : V → Option Int → Option Int → Hp → VK → Prop := fun x lo hi H Q => ∃ ρ G a d, Rl K ρ G H ∧ DRel K ρ H a x ∧ slD a lo hi G = some d ∧
  ∀ ρ' H' v, Step ρ H ρ' H' → Rl K ρ' G H' → DRel K ρ' H' d v → Q v H'
theorem slOk : SlR X (rS X.K) := by
  intro pins s σ H x v vl vu lo hi sl Q I rx hs pl pu ⟨ρ, G, a, d, rl, ha, e, q⟩
  unfold slD at e
  split at e
  · cases e
    obtain ⟨p, xs, rfl, h1, h2⟩ := ha
    refine sl_tupA _ _ _ _ _ _ _ _ _ _ _ _ I rx hs pl pu ⟨p, xs, rfl, h1.sq, fun z => ?_, fun z c hc => ?_⟩
    · rw [← h2.length] at z
      rw [cutD_whole z.1 z.2] at q
      exact q ρ H _ (Step.refl _ _) rl ⟨p, xs, rfl, h1, h2⟩
    · exact q ρ _ _ (step_upd rl hc) (rl.updN hc) (tup_new rl hc (cut_rel h2 _ _))
  · split at e
    · cases e
      rename_i hz
      obtain rfl : x = _ := ha
      exact sl_str _ _ _ _ _ _ _ _ _ _ _ _ I rx hs pl pu ⟨_, rfl, hz, q ρ H _ (Step.refl _ _) rl rfl⟩
    · cases e
  · cases e1 : lsD G a with
    | none => rw [e1] at e; cases e
    | some n =>
      rw [e1] at e
      cases e
      obtain ⟨p, xs, rfl, h1, h2⟩ := ls_at rl e1 ha
      exact sl_list _ _ _ _ _ _ _ _ _ _ _ _ I rx hs pl pu ⟨p, xs, rfl, h1, fun c hc => q ρ _ _ (step_upd rl hc) (rl.updN hc) (tl_new rl hc (cut_rel h2 _ _))⟩
def LO (K : PySem.W.Frag) (W : Wq) (m : M (Option Int)) : TO := fun σ H Q => ∃ ρ G ds, Rl K ρ G H ∧ SRel K ρ H ds σ ∧ Lk W ρ H ds σ ∧ Pst K W (fun _ _ b c => b = c) σ ρ H (m ds G) Q
def MO' (X : Cx) (W : Wq) (e : Option Expr) (m : M (Option Int)) : Prop := PO X e (LO X.K W m)
theorem _root_.L2.PO.conv {X : Cx} {e : Option Expr} {t t' : TO} (h : PO X e t) (c : ∀ σ H Q, t' σ H Q → t σ H Q) : PO X e t' := ⟨fun pins s σ H Q I q => h.run pins s σ H Q I (c _ _ _ q)⟩
variable {W : Wq} {e : Expr} {me : M D} {lo' hi' : Option Expr} {ml mh : M (Option Int)} {pos p2 : Pos}
theorem mo_none : MO' X W none (ret none) := po_none.conv fun σ H Q ⟨ρ, G, ds, rl, sr, hl, p⟩ => p ρ H none (Step.refl _ _) rl rfl
def toI (d : D) : Gs → Option (Option Int) := fun _ => (intD d).map some
theorem mo_some (h : ME X W e me) : MO' X W (some e) (bnd me fun d => lo (toI d)) := (po_some h).conv fun σ H Q ⟨ρ, G, ds, rl, sr, hl, p⟩ => by
  refine le_seq p rl sr hl fun x H1 ρ1 G1 c s1 r1 sr1 hl1 d1 p1 => ?_
  obtain ⟨d', e, q⟩ := lo_inv p1
  unfold toI at e
  cases e1 : intD c with
  | none => rw [e1] at e; cases e
  | some i =>
    rw [e1] at e
    cases e
    exact ⟨i, int_at e1 d1, q ρ1 H1 _ (Step.refl _ _) r1 rfl⟩
theorem lo_seq {K : PySem.W.Frag} {β δ : Type} {Rb : Rho → Hp → β → δ → Prop} {σ : St} {ds : Sl} {m : M (Option Int)} {k : Option Int → M β} {Q : δ → Hp → Prop} {Z : Option Int → Hp → Prop} (p : Pst K W Rb σ ρ H (bnd m k ds G) Q) (rl : Rl K ρ G H) (sr : SRel K ρ H ds σ) (hl : Lk W ρ H ds σ)
    (h : ∀ b H1 ρ1 G1, Step ρ H ρ1 H1 → Rl K ρ1 G1 H1 → SRel K ρ1 H1 ds σ → Lk W ρ1 H1 ds σ → Pst K W Rb σ ρ1 H1 (k b ds G1) Q → Z b H1) : LO K W m σ H Z := by
  refine ⟨ρ, G, ds, rl, sr, hl, ?_⟩
  unfold bnd at p
  revert p
  cases m ds G with
  | ok a G1 =>
    intro p ρ1 H1 v s1 r1 d1
    obtain rfl : a = v := d1
    exact h a H1 ρ1 G1 s1 r1 (sr.step s1) (hl.step s1) (p.step s1)
  | exc e G1 => exact fun p => p
  | stuck => exact fun p => p
theorem me_slice (he : ME X W e me) (hl : MO' X W lo' ml) (hu : MO' X W hi' mh) : ME X W (.Subscript e (.Slice lo' hi' none p2) pos) (bnd me fun x => bnd ml fun l => bnd mh fun u => lo (slD x l u)) := (pe_slice slOk he hl hu).conv fun σ H Q ⟨ρ, G, ds, rl, sr, hl, p⟩ => by
  refine le_seq p rl sr hl fun x H1 ρ1 G1 c s1 r1 sr1 hl1 d1 p1 => ?_
  refine lo_seq p1 r1 sr1 hl1 fun l H2 ρ2 G2 s2 r2 sr2 hl2 p2 => ?_
  refine lo_seq p2 r2 sr2 hl2 fun u H3 ρ3 G3 s3 r3 sr3 hl3 p3 => ?_
  obtain ⟨d', e, q⟩ := lo_inv p3
  exact ⟨ρ3, G3, c, d', r3, (d1.step s2).step s3, e, q⟩
end
end M3
end L2

set_option Elab.async false
set_option linter.all false
set_option maxRecDepth 100000
set_option maxHeartbeats 2000000
/-! M3e: statements, loops, comprehensions. -/
namespace L2
namespace M3
open PySem PySem.Spec PyProof.Rows

/-! ### equality of data that can be run -/
mutual
def decD : D → D → Bool
  | .non, .non => true
  | .bl a, .bl b => decide (a = b)
  | .int a, .int b => decide (a = b)
  | .str a, .str b => decide (a = b)
  | .ty a, .ty b => decide (a = b)
  | .glo a, .glo b => decide (a = b)
  | .tup a, .tup b => decDs a b
  | .tl a, .tl b => decDs a b
  | .fz a, .fz b => decDs a b
  | .ti C k a, .ti C' k' b => decide (C = C') && (decide (k = k') && decDs a b)
  | .td k a, .td k' b => decDs k k' && decDs a b
  | .obj i, .obj j => decide (i = j)
  | _, _ => false
def decDs : List D → List D → Bool
  | [], [] => true
  | a :: as, b :: bs => decD a b && decDs as bs
  | _, _ => false
end
mutual
theorem decD_self : ∀ d : D, decD d d = true
  | .non => rfl
  | .bl a => by simp [decD]
  | .int a => by simp [decD]
  | .str a => by simp [decD]
  | .ty a => by simp [decD]
  | .glo a => by simp [decD]
  | .tup a => by simp [decD, decDs_self a]
  | .tl a => by simp [decD, decDs_self a]
  | .fz a => by simp [decD, decDs_self a]
  | .ti C k a => by simp [decD, decDs_self a]
  | .td k a => by simp [decD, decDs_self a, decDs_self k]
  | .obj i => by simp [decD]
theorem decDs_self : ∀ ds : List D, decDs ds ds = true
  | [] => rfl
  | d :: ds => by simp [decDs, decD_self d, decDs_self ds]
end
mutual
theorem decD_eq : ∀ {a b : D}, decD a b = true → a = b
  | .non, b, h => by cases b <;> first | rfl | simp [decD] at h
  | .bl a, b, h => by cases b <;> simp [decD] at h <;> rw [h]
  | .int a, b, h => by cases b <;> simp [decD] at h <;> rw [h]
  | .str a, b, h => by cases b <;> simp [decD] at h <;> rw [h]
  | .ty a, b, h => by cases b <;> simp [decD] at h <;> rw [h]
  | .glo a, b, h => by cases b <;> simp [decD] at h <;> rw [h]
  | .tup a, b, h => by cases b <;> simp [decD] at h <;> rw [decDs_eq h]
  | .tl a, b, h => by cases b <;> simp [decD] at h <;> rw [decDs_eq h]
  | .fz a, b, h => by cases b <;> simp [decD] at h <;> rw [decDs_eq h]
  | .ti C k a, b, h => by cases b <;> simp [decD] at h <;> rw [h.1, h.2.1, decDs_eq h.2.2]
  | .td k a, b, h => by cases b <;> simp [decD] at h <;> rw [decDs_eq h.1, decDs_eq h.2]
  | .obj a, b, h => by cases b <;> simp [decD] at h <;> rw [h]
theorem decDs_eq : ∀ {a b : List D}, decDs a b = true → a = b
  | [], b, h => by cases b <;> first | rfl | simp [decDs] at h
  | d :: ds, b, h => by cases b <;> simp [decDs] at h <;> rw [decD_eq h.1, decDs_eq h.2]
end

/-! ### statements: the moves -/
def bndS {α : Type} (m : M α) (k : α → MS) : MS := fun ds G => match m ds G with
  | .ok a G1 => k a ds G1
  | .exc e G1 => .exc e ds G1
  | .stuck => .stuck
def nxtS : MS := fun ds G => .nx ds G
def retS (d : D) : MS := fun _ G => .rt d G
def setS (i : Nat) (d : D) : MS := fun ds G => .nx (ds.set i (some d)) G
def seqS (m k : MS) : MS := fun ds G => match m ds G with
  | .nx ds1 G1 => k ds1 G1
  | r => r
section
variable {K : PySem.W.Frag} {W : Wq} {ρ : Rho} {H : Hp} {G : Gs}
theorem le_seqS {σ : St} {ds : Sl} {m : M D} {k : D → MS} {E : Ends} {Z : VK} (p : PstS K W ρ H σ.length (bndS m k ds G) E) (rl : Rl K ρ G H) (sr : SRel K ρ H ds σ) (hl : Lk W ρ H ds σ)
    (h : ∀ v H1 ρ1 G1 a, Step ρ H ρ1 H1 → Rl K ρ1 G1 H1 → SRel K ρ1 H1 ds σ → Lk W ρ1 H1 ds σ → DRel K ρ1 H1 a v → PstS K W ρ1 H1 σ.length (k a ds G1) E → Z v H1) : LE K W m σ H Z := by
  refine ⟨ρ, G, ds, rl, sr, hl, ?_⟩
  unfold bndS at p
  revert p
  cases m ds G with
  | ok a G1 => exact fun p ρ1 H1 v s1 r1 d1 => h v H1 ρ1 G1 a s1 r1 (sr.step s1) (hl.step s1) d1 (p.step s1)
  | exc e G1 => exact fun p ρ1 H1 c dd s1 r1 x1 => p ρ1 H1 σ c dd s1 r1 (sr.step s1) (hl.step s1) rfl x1
  | stuck => exact fun p => p
theorem la_seqS {σ : St} {ds : Sl} {m : M (List D)} {k : List D → MS} {E : Ends} {Z : List V → Hp → Prop} (p : PstS K W ρ H σ.length (bndS m k ds G) E) (rl : Rl K ρ G H) (sr : SRel K ρ H ds σ) (hl : Lk W ρ H ds σ)
    (h : ∀ v H1 ρ1 G1 a, Step ρ H ρ1 H1 → Rl K ρ1 G1 H1 → SRel K ρ1 H1 ds σ → Lk W ρ1 H1 ds σ → DRels K ρ1 H1 a v → PstS K W ρ1 H1 σ.length (k a ds G1) E → Z v H1) : LA K W m σ H Z := by
  refine ⟨ρ, G, ds, rl, sr, hl, ?_⟩
  unfold bndS at p
  revert p
  cases m ds G with
  | ok a G1 => exact fun p ρ1 H1 v s1 r1 d1 => h v H1 ρ1 G1 a s1 r1 (sr.step s1) (hl.step s1) d1 (p.step s1)
  | exc e G1 => exact fun p ρ1 H1 c dd s1 r1 x1 => p ρ1 H1 σ c dd s1 r1 (sr.step s1) (hl.step s1) rfl x1
  | stuck => exact fun p => p
theorem lt_seqS {σ : St} {ds : Sl} {m : M Bool} {k : Bool → MS} {E : Ends} {Z : Bool → Hp → Prop} (p : PstS K W ρ H σ.length (bndS m k ds G) E) (rl : Rl K ρ G H) (sr : SRel K ρ H ds σ) (hl : Lk W ρ H ds σ)
    (h : ∀ b H1 ρ1 G1, Step ρ H ρ1 H1 → Rl K ρ1 G1 H1 → SRel K ρ1 H1 ds σ → Lk W ρ1 H1 ds σ → PstS K W ρ1 H1 σ.length (k b ds G1) E → Z b H1) : LT K W m σ H Z := by
  refine ⟨ρ, G, ds, rl, sr, hl, ?_⟩
  unfold bndS at p
  revert p
  cases m ds G with
  | ok a G1 =>
    intro p ρ1 H1 v s1 r1 d1
    obtain rfl : a = v := d1
    exact h a H1 ρ1 G1 s1 r1 (sr.step s1) (hl.step s1) (p.step s1)
  | exc e G1 => exact fun p ρ1 H1 c dd s1 r1 x1 => p ρ1 H1 σ c dd s1 r1 (sr.step s1) (hl.step s1) rfl x1
  | stuck => exact fun p => p
end
section
variable {X : Cx} {W : Wq} {pos : Pos} {e : Expr} {me : M D}
theorem mss_nil : MSs X W [] nxtS := pss_nil.conv fun σ H Q ⟨ρ, G, ds, rl, sr, hl, p⟩ => p ρ H σ (Step.refl _ _) rl sr hl rfl
theorem seq_le {K : PySem.W.Frag} {ρ : Rho} {H : Hp} {n : Nat} {m k : MS} {ds : Sl} {G : Gs} {E : Ends} (p : PstS K W ρ H n (seqS m k ds G) E) : PstS K W ρ H n (m ds G) { E with nx := fun σ' H' => σ'.length = n → LS K W k E σ' H' } := by
  unfold seqS at p
  revert p
  cases m ds G with
  | nx ds1 G1 => exact fun p ρ1 H1 σ1 s1 r1 sr1 hl1 hn1 hn => ⟨ρ1, G1, ds1, r1, sr1, hl1, by rw [hn]; exact p.step s1⟩
  | rt d G1 => exact id
  | bk ds G1 => exact id
  | ct ds G1 => exact id
  | exc e ds G1 => exact id
  | stuck => exact id
theorem PstS.nxlen {K : PySem.W.Frag} {ρ : Rho} {H : Hp} {n : Nat} {r : RS} {E : Ends} {Z : St → Hp → Prop} (p : PstS K W ρ H n r { E with nx := fun σ' H' => σ'.length = n → Z σ' H' }) : PstS K W ρ H n r { E with nx := Z } := by
  cases r with
  | nx ds1 G1 => exact fun ρ1 H1 σ1 s1 r1 sr1 hl1 hn1 => p ρ1 H1 σ1 s1 r1 sr1 hl1 hn1 hn1
  | rt d G1 => exact p
  | bk ds G1 => exact p
  | ct ds G1 => exact p
  | exc e ds G1 => exact p
  | stuck => exact p
variable {st : Stmt} {sts : List Stmt} {m k : MS}
theorem mss_cons (h1 : MSt X W st m) (h2 : MSs X W sts k) : MSs X W (st :: sts) (seqS m k) := (pss_cons h1 h2).conv fun σ H Q ⟨ρ, G, ds, rl, sr, hl, p⟩ => ⟨ρ, G, ds, rl, sr, hl, (seq_le p).nxlen⟩
theorem mss_one (h1 : MSt X W st m) : MSs X W [st] m := pss_one h1
theorem ms_pass : MSt X W (.Pass pos) nxtS := ps_pass.conv fun σ H Q ⟨ρ, G, ds, rl, sr, hl, p⟩ => p ρ H σ (Step.refl _ _) rl sr hl rfl
def brkS : MS := fun ds G => .bk ds G
def cntS : MS := fun ds G => .ct ds G
theorem ms_break : MSt X W (.Break pos) brkS := ps_break.conv fun σ H Q ⟨ρ, G, ds, rl, sr, hl, p⟩ => p ρ H σ (Step.refl _ _) rl sr hl rfl
theorem ms_continue : MSt X W (.Continue pos) cntS := ps_continue.conv fun σ H Q ⟨ρ, G, ds, rl, sr, hl, p⟩ => p ρ H σ (Step.refl _ _) rl sr hl rfl
theorem ms_doc {x j pos'} : MSt X W (.Expr (.Constant (.str x) j pos) pos') nxtS := ps_doc.conv fun σ H Q ⟨ρ, G, ds, rl, sr, hl, p⟩ => p ρ H σ (Step.refl _ _) rl sr hl rfl
theorem ms_expr (he : ME X W e me) (hs : swapsWith e none pos.line X.env = pure false := by rfl) : MSt X W (.Expr e pos) (bndS me fun _ => nxtS) := (ps_expr he hs).conv fun σ H Q ⟨ρ, G, ds, rl, sr, hl, p⟩ =>
  le_seqS p rl sr hl fun v H1 ρ1 G1 a s1 r1 sr1 hl1 d1 p1 => p1 ρ1 H1 σ (Step.refl _ _) r1 sr1 hl1 rfl
theorem ms_ret (he : ME X W e me) : MSt X W (.Return (some e) pos) (bndS me retS) := (ps_ret he).conv fun σ H Q ⟨ρ, G, ds, rl, sr, hl, p⟩ =>
  le_seqS p rl sr hl fun v H1 ρ1 G1 a s1 r1 sr1 hl1 d1 p1 => p1 ρ1 H1 v (Step.refl _ _) r1 d1
theorem ms_retN : MSt X W (.Return none pos) (retS .non) := ps_retN.conv fun σ H Q ⟨ρ, G, ds, rl, sr, hl, p⟩ => p ρ H .non (Step.refl _ _) rl rfl
theorem ms_if {c : Expr} {a b : List Stmt} {t : M Bool} (hc : MT X W c t) (ha : MSs X W a m) (hb : MSs X W b k) : MSt X W (.If c a b pos) (bndS t fun x => if x = true then m else k) := (ps_if hc ha hb).conv fun σ H Q ⟨ρ, G, ds, rl, sr, hl, p⟩ => by
  refine lt_seqS p rl sr hl fun x H1 ρ1 G1 s1 r1 sr1 hl1 p1 => ?_
  cases x with
  | true => rw [if_pos rfl] at p1 ⊢; exact ⟨ρ1, G1, ds, r1, sr1, hl1, p1⟩
  | false => rw [if_neg Bool.false_ne_true] at p1 ⊢; exact ⟨ρ1, G1, ds, r1, sr1, hl1, p1⟩
theorem ms_set {i : Nat} {x : Str} {pos' : Pos} (hN : X.N.Nodup) (hi : X.N[i]? = some x) (hx : Loc X.env.scope x) (he : ME X W e me) (hs : swapsWith e (some (.Name x pos')) pos.line X.env = pure false := by rfl) (hf : X.fn x = true ∨ X.env.scope.names.lookup x = some .local := by first | exact .inl rfl | exact .inr rfl | assumption) (hfx : ∀ p ∈ W.fx, p.1 ≠ i := by intro p hp; first | cases hp | (cases hp; decide)) :
    MSt X W (.Assign [.Name x pos'] e pos) (bndS me (setS i)) := (ps_set hN hi hx he hs hf).conv fun σ H Q ⟨ρ, G, ds, rl, sr, hl, p⟩ =>
  le_seqS p rl sr hl fun v H1 ρ1 G1 a s1 r1 sr1 hl1 d1 p1 => p1 ρ1 H1 _ (Step.refl _ _) r1 (sr1.set (Nat.le_of_eq hl1.len) i d1) (hl1.set hfx) (by simp)
/-- name op= value -/
def rIp (K : PySem.W.Frag) (f : D → D → Gs → Option D) : TIp := rO K f
theorem ms_aug {i : Nat} {x : Str} {op : Operator} {pos' : Pos} {f : D → D → Gs → Option D} (hN : X.N.Nodup) (hi : X.N[i]? = some x) (hx : Loc X.env.scope x) (he : ME X W e me) (ho : PIp X op (rO X.K f)) (hf : X.fn x = true ∨ X.env.scope.names.lookup x = some .local := by first | exact .inl rfl | exact .inr rfl | assumption) (hfx : ∀ p ∈ W.fx, p.1 ≠ i := by intro p hp; first | cases hp | (cases hp; decide)) :
    MSt X W (.AugAssign (.Name x pos') op e pos) (bndS (rd i) fun a => bndS me fun b => bndS (lo (f a b)) (setS i)) := (ps_aug hN hi hx he ho hf).conv fun σ H Q ⟨ρ, G, ds, rl, sr, hl, p⟩ => by
  unfold bndS rd at p
  cases q : ds[i]? with
  | none => simp only [q] at p; exact p.elim
  | some o =>
    cases o with
    | none => simp only [q] at p; exact p.elim
    | some a =>
      simp only [q] at p
      obtain ⟨v, e1, e2⟩ := sr i a q
      refine ⟨v, e1, ?_⟩
      refine le_seqS (k := fun b => bndS (lo (f a b)) (setS i)) p rl sr hl fun w H1 ρ1 G1 b s1 r1 sr1 hl1 d1 p1 => ?_
      unfold bndS lo at p1
      cases q2 : f a b G1 with
      | none => simp only [q2] at p1; exact p1.elim
      | some d =>
        simp only [q2] at p1
        exact ⟨ρ1, G1, a, b, d, r1, e2.step s1, d1, q2, fun ρ2 H2 u s2 r2 d2 => p1 ρ2 H2 _ s2 r2 ((sr1.step s2).set (Nat.le_of_eq hl1.len) i d2) ((hl1.step s2).set hfx) (by simp)⟩
theorem ipSub : PIp X .Sub (rO X.K subD) := by
  intro pins s σ H x y v u Q I rx ry ⟨ρ, G, a, b, d, rl, ha, hb, e, q⟩
  unfold subD i2 at e
  split at e
  · cases e
    obtain rfl : x = _ := ha
    obtain rfl : y = _ := hb
    exact ip_sub _ _ _ _ _ _ _ _ _ I rx ry ⟨_, _, rfl, rfl, q ρ H _ (Step.refl _ _) rl rfl⟩
  · cases e
def addI := i2 fun i j => some (.int (i + j))
theorem ipAdd : PIp X .Add (rO X.K addI) := by
  intro pins s σ H x y v u Q I rx ry ⟨ρ, G, a, b, d, rl, ha, hb, e, q⟩
  unfold addI i2 at e
  split at e
  · cases e
    obtain rfl : x = _ := ha
    obtain rfl : y = _ := hb
    exact ip_add _ _ _ _ _ _ _ _ _ I rx ry ⟨_, _, rfl, rfl, q ρ H _ (Step.refl _ _) rl rfl⟩
  · cases e

/-! ### targets that are names -/
inductive Tg where
  | nm (i : Nat)
  | tp (is : List Nat)
def gNs : List Nat → TGs
  | [] => gNil
  | i :: r => gCons (gName i) (gNs r)
def gTg (K : PySem.W.Frag) : Tg → TG
  | .nm i => gName i
  | .tp is => gTup K is.length (gNs is)
/-- the names set -/
def setAll {α : Type} : List Nat → List α → List (Option α) → List (Option α)
  | i :: is, d :: ds, l => setAll is ds (l.set i (some d))
  | _, _, l => l
def tgS : Tg → D → MS
  | .nm i, d => setS i d
  | .tp is, .tup ds => fun l G => if ds.length = is.length then .nx (setAll is ds l) G else .stuck
  | .tp _, _ => fun _ _ => .stuck
theorem setAll_length {α : Type} : ∀ (is : List Nat) (ds : List α) (l : List (Option α)), (setAll is ds l).length = l.length
  | [], _, _ => by simp [setAll]
  | _ :: _, [], _ => by simp [setAll]
  | i :: is, d :: ds, l => by simp [setAll, setAll_length is ds]
theorem gNs_of {is : List Nat} : ∀ {xs : List V} {σ : St} {H : Hp} {Q : St → Hp → Prop}, xs.length = is.length → Q (setAll is xs σ) H → gNs is xs σ H Q := by
  induction is with
  | nil =>
    intro xs σ H Q h q
    have : xs = [] := List.length_eq_zero_iff.mp h
    subst this
    exact ⟨rfl, by simpa [setAll] using q⟩
  | cons i is ih =>
    intro xs σ H Q h q
    cases xs with
    | nil => cases h
    | cons x xs => exact ⟨x, xs, rfl, ih (by simpa using h) (by simpa [setAll] using q)⟩
theorem SRel.setAll {K : PySem.W.Frag} {ρ : Rho} {H : Hp} : ∀ {is : List Nat} {ds : List D} {xs : List V} {l : Sl} {σ : St}, l.length ≤ σ.length → DRels K ρ H ds xs → SRel K ρ H l σ → SRel K ρ H (M3.setAll is ds l) (M3.setAll is xs σ)
  | [], _, _, _, _, _, _, sr => by simpa [M3.setAll] using sr
  | i :: is, [], _, _, _, _, r, sr => by cases r; simpa [M3.setAll] using sr
  | i :: is, d :: ds, _, l, σ, hl, r, sr => by
    obtain ⟨v, us, rfl, r1, r2⟩ := r
    exact SRel.setAll (is := is) (by simpa using hl) r2 (sr.set hl i r1)
theorem tgS_or (t : Tg) (d : D) (ds : Sl) (G : Gs) : (∃ ds1, tgS t d ds G = .nx ds1 G) ∨ tgS t d ds G = .stuck := by
  cases t with
  | nm i => exact .inl ⟨_, rfl⟩
  | tp is =>
    cases d with
    | tup es =>
      by_cases h : es.length = is.length
      · exact .inl ⟨_, by simp only [tgS]; rw [if_pos h]⟩
      · exact .inr (by simp only [tgS]; rw [if_neg h])
    | _ => exact .inr rfl
/-- what a target's reading gives: the new slots told -/
def tgI : Tg → List Nat
  | .nm i => [i]
  | .tp is => is
theorem setAll_ne {α : Type} {j : Nat} : ∀ (is : List Nat) (xs : List α) (l : List (Option α)), (∀ i ∈ is, j ≠ i) → (setAll is xs l)[j]? = l[j]?
  | [], _, _, _ => by simp [setAll]
  | _ :: _, [], _, _ => by simp [setAll]
  | i :: is, x :: xs, l, h => by
    simp only [setAll]
    rw [setAll_ne is xs _ fun k hk => h k (List.mem_cons_of_mem _ hk), List.getElem?_set_ne (Ne.symm (h i List.mem_cons_self))]
theorem Lk.setAll {ρ : Rho} {H : Hp} {ds : Sl} {σ : St} {is : List Nat} {es : List D} {xs : List V} (hf : ∀ p ∈ W.fx, ∀ i ∈ is, p.1 ≠ i) (h : Lk W ρ H ds σ) : Lk W ρ H (M3.setAll is es ds) (M3.setAll is xs σ) :=
  ⟨by rw [setAll_length, setAll_length]; exact h.len, fun p hp => by rw [setAll_ne is xs σ (hf p hp)]; exact h.fx p hp, h.iv⟩
theorem gTg_of {K : PySem.W.Frag} {t : Tg} {ρ : Rho} {G : Gs} {H : Hp} {d : D} {v : V} {ds ds1 : Sl} {G1 : Gs} {σ : St} {Q : St → Hp → Prop} (h : tgS t d ds G = .nx ds1 G1) (rl : Rl K ρ G H) (sr : SRel K ρ H ds σ) (hl : Lk W ρ H ds σ) (hfx : ∀ p ∈ W.fx, ∀ i ∈ tgI t, p.1 ≠ i) (r : DRel K ρ H d v)
    (q : ∀ is xs, tgI t = is → SRel K ρ H ds1 (setAll is xs σ) → Lk W ρ H ds1 (setAll is xs σ) → Q (setAll is xs σ) H) : gTg K t v σ H Q := by
  cases t with
  | nm i =>
    simp only [tgS, setS] at h
    injection h with h1 h2
    subst h1 h2
    have l1 := hl.setAll (is := [i]) (es := [d]) (xs := [v]) hfx
    exact q [i] [v] rfl (by simpa [setAll] using sr.set (Nat.le_of_eq hl.len) i r) (by simpa [setAll] using l1)
  | tp is =>
    cases d with
    | tup es =>
      simp only [tgS] at h
      split at h
      · rename_i hn
        injection h with h1 h2
        subst h1 h2
        obtain ⟨a, xs, rfl, e1, e2⟩ := r
        refine ⟨a, xs, rfl, e1.sq, by rw [← e2.length]; exact hn, gNs_of (by rw [← e2.length]; exact hn) ?_⟩
        exact q is xs rfl (SRel.setAll (Nat.le_of_eq hl.len) e2 sr) (hl.setAll hfx)
      · cases h
    | _ => cases h
/-- target = value -/
theorem ms_asg {tg : Expr} {t : Tg} (he : ME X W e me) (hg : PG X tg (gTg X.K t)) (hs : swapsWithSole [tg] e pos.line X.env = pure false := by rfl) (hw : swappedStores [tg] e X.env = pure none := by rfl)
    (h1 : (assignEach [tg] X.env).map (·.2) = [assign tg X.env] := by rfl) (hfx : ∀ p ∈ W.fx, ∀ i ∈ tgI t, p.1 ≠ i := by intro p hp; first | cases hp | (cases hp; decide)) : MSt X W (.Assign [tg] e pos) (bndS me (tgS t)) := (ps_asg he hg hs hw h1).conv fun σ H Q ⟨ρ, G, ds, rl, sr, hl, p⟩ => by
  refine le_seqS p rl sr hl fun v H1 ρ1 G1 a s1 r1 sr1 hl1 d1 p1 => ?_
  rcases tgS_or t a ds G1 with ⟨ds1, q⟩ | q
  · rw [q] at p1
    exact gTg_of q r1 sr1 hl1 hfx d1 fun is xs _ sr2 hl2 => p1 ρ1 H1 _ (Step.refl _ _) r1 sr2 hl2 (by rw [setAll_length])
  · rw [q] at p1
    exact p1.elim

/-! ### what is walked -/
inductive Src where
  | seq (d : D)
  | rng (lo : Int) (n : Nat)
  | enm (d : D)
  | zpp (d e : D)
  | str (z : Str)
def enumD : Nat → List D → List D
  | _, [] => []
  | n, d :: ds => .tup [.int n, d] :: enumD (n + 1) ds
def zipD : List D → List D → List D
  | a :: as, b :: bs => .tup [a, b] :: zipD as bs
  | _, _ => []
def items (G : Gs) : Src → Option (List D)
  | .seq d => seqD G d
  | .rng a n => some ((List.range n).map fun (i : Nat) => D.int (a + (i : Int)))
  | .enm d => (seqD G d).map (enumD 0)
  | .zpp d e => match seqD G d, seqD G e with
    | some a, some b => some (zipD a b)
    | _, _ => none
  | .str z => if z.length ≤ sizeLine then some (z.cps.toList.map fun c => .str ⟨#[c]⟩) else none
/-- the walk J does what the source s says, now and later -/
def SrcRel (K : PySem.W.Frag) (ρ : Rho) (H : Hp) (s : Src) (J : It) : Prop := ∀ ρ' G' H', Grow ρ H ρ' H' → Rl K ρ' G' H' → ∀ its, items G' s = some its → ∀ i : Nat,
  (∀ d, its[i]? = some d → J.go i H' ∧ ∀ x H2, J.yld i H' x H2 → Step ρ' H' ρ' H2 ∧ Rl K ρ' G' H2 ∧ DRel K ρ' H2 d x) ∧ (its.length ≤ i → J.stop i H')
def LI (K : PySem.W.Frag) (W : Wq) (m : M Src) : TI := fun σ H R => ∃ ρ G ds, Rl K ρ G H ∧ SRel K ρ H ds σ ∧ Lk W ρ H ds σ ∧ Pst K W (SrcRel K) σ ρ H (m ds G) R
def MI (X : Cx) (W : Wq) (tg e : Expr) (m : M Src) : Prop := PI X tg e (LI X.K W m)
theorem _root_.L2.PI.conv {X : Cx} {tg e : Expr} {t t' : TI} (h : PI X tg e t) (c : ∀ σ H Q, t' σ H Q → t σ H Q) : PI X tg e t' := ⟨fun pins s σ H Q I q => h.run pins s σ H Q I (c _ _ _ q)⟩
/-- a list or a tuple, as it comes -/
def iSq (K : PySem.W.Frag) (tl : TE) : TI := fun σ H R => tl σ H fun x H1 => ∃ a, x = .ref a ∧ (((∃ xs, SqL K H1 a xs) ∧ R (Itl K a) H1) ∨ ((∃ xs, SqT K H1 a xs) ∧ R (Itt K a) H1))
theorem pi_sq {tg l : Expr} {tl : TE} (hl : PE X l tl) : PI X tg l (iSq X.K tl) := by
  refine ⟨fun pins s σ H R I h => ?_⟩
  refine thn (hl.run pins s σ H _ I h) fun v s1 ⟨x, H1, I1, r1, q1⟩ => ?_
  obtain ⟨a, e, q⟩ := q1
  subst e
  cases r1
  rcases q with ⟨⟨xs, hq⟩, q⟩ | ⟨⟨xs, hq⟩, q⟩
  · obtain ⟨its, rv, p, hz⟩ := I1.list hq
    refine wpAny_pyIter_list p.isList ?_
    refine ⟨s1.heap.objs.size, [s1.heap.objs.size], _, _, H1, rfl, I1.kept (t' := s1.toks) fun b o e => Heap.get?_push_of_some _ e, turn_list a _, ⟨_, Heap.get?_push_size _ rfl, rfl, rfl⟩, fun b hb => ?_, q⟩
    have e : b = s1.heap.objs.size := by simpa using hb
    subst e
    exact I1.fpOk (Nat.le_refl _) (I1.hok.fresh (Nat.le_refl _))
  · obtain ⟨its, rv, p, hz⟩ := I1.tuple hq
    refine wpAny_pyIter_tuple (show s1.heap.IsTuple a its.toArray from p) ?_
    refine ⟨s1.heap.objs.size, [s1.heap.objs.size], _, _, H1, rfl, I1.kept (t' := s1.toks) fun b o e => Heap.get?_push_of_some _ e, turn_tuple a _, ⟨_, Heap.get?_push_size _ rfl, rfl, rfl⟩, fun b hb => ?_, q⟩
    have e : b = s1.heap.objs.size := by simpa using hb
    subst e
    exact I1.fpOk (Nat.le_refl _) (I1.hok.fresh (Nat.le_refl _))
def toSrc (d : D) : Gs → Option Src := fun G => match seqD G d with
  | some _ => some (.seq d)
  | none => none
theorem src_list {K : PySem.W.Frag} {ρ : Rho} {H : Hp} {d : D} {a : Addr} (r : DRel K ρ H d (.ref a)) (h : ∀ G, seqD G d = lsD G d) : SrcRel K ρ H (.seq d) (Itl K a) := by
  intro ρ' G' H' s rl its e i
  have e' : lsD G' d = some its := by rw [← h]; exact e
  obtain ⟨a', xs, ea, h1, h2⟩ := ls_at rl e' (r.grow s)
  cases ea
  refine ⟨fun d' hd => ?_, fun hi => ⟨xs, h1, by rw [← h2.length]; exact hi⟩⟩
  obtain ⟨v, e1, e2⟩ := h2.get hd
  refine ⟨⟨xs, v, h1, e1⟩, fun x H2 y => ?_⟩
  obtain ⟨rfl, y⟩ := y
  have := y xs h1
  rw [e1] at this
  cases this
  exact ⟨Step.refl _ _, rl, e2⟩
theorem src_tup {K : PySem.W.Frag} {ρ : Rho} {H : Hp} {es : List D} {a : Addr} (r : DRel K ρ H (.tup es) (.ref a)) : SrcRel K ρ H (.seq (.tup es)) (Itt K a) := by
  intro ρ' G' H' s rl its e i
  obtain ⟨a', xs, ea, h1, h2⟩ := r.grow s
  cases ea
  cases e
  refine ⟨fun d' hd => ?_, fun hi => ⟨xs, h1.sq, by rw [← h2.length]; exact hi⟩⟩
  obtain ⟨v, e1, e2⟩ := h2.get hd
  refine ⟨⟨xs, v, h1.sq, e1⟩, fun x H2 y => ?_⟩
  obtain ⟨rfl, y⟩ := y
  have := y xs h1.sq
  rw [e1] at this
  cases this
  exact ⟨Step.refl _ _, rl, e2⟩
theorem mi_seq {tg : Expr} (h : ME X W e me) : MI X W tg e (bnd me fun d => lo (toSrc d)) := (pi_sq h).conv fun σ H Q ⟨ρ, G, ds, rl, sr, hl, p⟩ => by
  refine le_seq p rl sr hl fun v H1 ρ1 G1 a s1 r1 sr1 hl1 d1 p1 => ?_
  obtain ⟨d', e, q⟩ := lo_inv p1
  unfold toSrc at e
  split at e
  · cases e
    rename_i its e1
    have fin : ∀ J, SrcRel X.K ρ1 H1 (.seq a) J → Q J H1 := fun J hj => q ρ1 H1 J (Step.refl _ _) r1 hj
    cases a with
    | tup es =>
      obtain ⟨p, xs, rfl, h1, h2⟩ := id d1
      exact ⟨p, rfl, .inr ⟨⟨xs, h1.sq⟩, fin _ (src_tup d1)⟩⟩
    | tl es =>
      obtain ⟨p, xs, rfl, h1, h2⟩ := id d1
      exact ⟨p, rfl, .inl ⟨⟨xs, h1.sq⟩, fin _ (src_list d1 fun _ => rfl)⟩⟩
    | fz es =>
      obtain ⟨p, xs, rfl, h1, h2⟩ := id d1
      exact ⟨p, rfl, .inl ⟨⟨xs, h1.sq⟩, fin _ (src_list d1 fun _ => rfl)⟩⟩
    | obj i =>
      obtain ⟨p, xs, rfl, h1, h2⟩ := ls_at r1 (show lsD G1 (.obj i) = some its from e1) d1
      exact ⟨p, rfl, .inl ⟨⟨xs, h1⟩, fin _ (src_list d1 fun _ => rfl)⟩⟩
    | _ => cases e1
  · cases e
def toRng1 (ds : List D) : Gs → Option Src := fun _ => match ds with
  | [.int j] => if -(2 ^ 62) ≤ j ∧ j < 2 ^ 62 then some (.rng 0 j.toNat) else none
  | _ => none
def toRng2 (ds : List D) : Gs → Option Src := fun _ => match ds with
  | [.int i, .int j] => if -(2 ^ 62) ≤ i ∧ i < 2 ^ 62 ∧ -(2 ^ 62) ≤ j ∧ j < 2 ^ 62 then some (.rng i (j - i).toNat) else none
  | _ => none
theorem src_rng {K : PySem.W.Frag} {ρ : Rho} {H : Hp} {a : Int} {n : Nat} : SrcRel K ρ H (.rng a n) (Itr a n) := by
  intro ρ' G' H' s rl its e i
  cases e
  refine ⟨fun d' hd => ?_, fun hi => (show n ≤ i by simpa using hi)⟩
  simp only [List.getElem?_map] at hd
  by_cases hi : i < n
  · rw [List.getElem?_range hi] at hd
    cases hd
    refine ⟨hi, fun x H2 y => ?_⟩
    obtain ⟨rfl, rfl⟩ := y
    exact ⟨Step.refl _ _, rl, rfl⟩
  · rw [List.getElem?_eq_none (by simpa using hi)] at hd
    cases hd
theorem mi_rng1 {tg a : Expr} {p : Pos} {m : M (List D)} (hg : Gl X "range") (hm : X.mg "range" = none) (ha : MA X W [a] m) (hs : starEach [a] X.env = [(false, eval a X.env)] := by rfl) : MI X W tg (.Call (.Name "range" p) [a] [] pos) (bnd m fun ds => lo (toRng1 ds)) := (pi_range1 hg hm ha hs).conv fun σ H Q ⟨ρ, G, ds, rl, sr, hl, p⟩ => by
  refine la_seq p rl sr hl fun v H1 ρ1 G1 a s1 r1 sr1 hl1 d1 p1 => ?_
  obtain ⟨d', e, q⟩ := lo_inv p1
  unfold toRng1 at e
  split at e
  · split at e
    · cases e
      rename_i j hj
      obtain ⟨v1, r', rfl, e1, e2⟩ := d1
      cases e1
      cases e2
      exact ⟨j, rfl, hj.1, hj.2, q ρ1 H1 _ (Step.refl _ _) r1 src_rng⟩
    · cases e
  · cases e
theorem mi_rng2 {tg a b : Expr} {p : Pos} {m : M (List D)} (hg : Gl X "range") (hm : X.mg "range" = none) (ha : MA X W [a, b] m) (hs : starEach [a, b] X.env = [(false, eval a X.env), (false, eval b X.env)] := by rfl) (hs2 : starEach [b] X.env = [(false, eval b X.env)] := by rfl) :
    MI X W tg (.Call (.Name "range" p) [a, b] [] pos) (bnd m fun ds => lo (toRng2 ds)) := (pi_range2 hg hm ha hs hs2).conv fun σ H Q ⟨ρ, G, ds, rl, sr, hl, p⟩ => by
  refine la_seq p rl sr hl fun v H1 ρ1 G1 a s1 r1 sr1 hl1 d1 p1 => ?_
  obtain ⟨d', e, q⟩ := lo_inv p1
  unfold toRng2 at e
  split at e
  · split at e
    · cases e
      rename_i i j hj
      obtain ⟨v1, r', rfl, e1, v2, r2, rfl, e3, e2⟩ := d1
      cases e1
      cases e3
      cases e2
      exact ⟨i, j, rfl, hj, q ρ1 H1 _ (Step.refl _ _) r1 src_rng⟩
    · cases e
  · cases e

/-! ### for, while -/
/-- the loop: the items that are left -/
def loopS (s : Src) (t : Tg) (b : MS) (its : List D) : List D → MS
  | [] => fun ds G => match items G s with
    | some l => if decDs l its = true then .nx ds G else .stuck
    | none => .stuck
  | x :: r => fun ds G => match items G s with
    | some l => if decDs l its = true then (match tgS t x ds G with
      | .nx ds1 G1 => (match b ds1 G1 with
        | .nx ds2 G2 => loopS s t b its r ds2 G2
        | .ct ds2 G2 => loopS s t b its r ds2 G2
        | .bk ds2 G2 => .nx ds2 G2
        | z => z)
      | _ => .stuck) else .stuck
    | none => .stuck
def forS (t : Tg) (b : MS) (s : Src) : MS := fun ds G => match items G s with
  | some its => loopS s t b its its ds G
  | none => .stuck
/-- behind a body: on to the next turn, or out -/
theorem body_ends {K : PySem.W.Frag} {ρ : Rho} {H : Hp} {n : Nat} {r : RS} {again : Sl → Gs → RS} {E : Ends} {N : St → Hp → Prop} (p : PstS K W ρ H n (match r with
    | .nx ds2 G2 => again ds2 G2
    | .ct ds2 G2 => again ds2 G2
    | .bk ds2 G2 => .nx ds2 G2
    | z => z) E) (hN : ∀ ρ' H' σ' ds2 G2, Step ρ H ρ' H' → Rl K ρ' G2 H' → SRel K ρ' H' ds2 σ' → Lk W ρ' H' ds2 σ' → σ'.length = n → PstS K W ρ' H' n (again ds2 G2) E → N σ' H') :
    PstS K W ρ H n r { E with nx := N, ct := N, bk := E.nx } := by
  cases r with
  | nx ds1 G1 => exact fun ρ1 H1 σ1 s1 r1 sr1 hl1 hn1 => hN ρ1 H1 σ1 ds1 G1 s1 r1 sr1 hl1 hn1 (p.step s1)
  | ct ds1 G1 => exact fun ρ1 H1 σ1 s1 r1 sr1 hl1 hn1 => hN ρ1 H1 σ1 ds1 G1 s1 r1 sr1 hl1 hn1 (p.step s1)
  | bk ds1 G1 => exact p
  | rt d G1 => exact p
  | exc e ds G1 => exact p
  | stuck => exact p
theorem ms_for {tg iter : Expr} {body : List Stmt} {t : Tg} {mi : M Src} {b : MS} (hp : PassesOwn (model X.prog X.w) X.A X.env X.xe) (hc : X.calm = true) (hi : MI X W tg iter mi) (hg : PG X tg (gTg X.K t)) (hb : MSs X W body b)
    (hs : ∀ x, foldedSetIterable iter X.env x = pure x := by intro _; rfl) (hfx : ∀ p ∈ W.fx, ∀ i ∈ tgI t, p.1 ≠ i := by intro p hp; first | cases hp | (cases hp; decide)) : MSt X W (.For tg iter body [] pos) (bndS mi (forS t b)) := (ps_for hp hc hi hg hb hs).conv fun σ H Q ⟨ρ, G, ds, rl, sr, hl, p⟩ => by
  refine ⟨ρ, G, ds, rl, sr, hl, ?_⟩
  unfold bndS at p
  revert p
  cases mi ds G with
  | exc e G1 => exact fun p ρ1 H1 c dd s1 r1 x1 => p ρ1 H1 σ c dd s1 r1 (sr.step s1) (hl.step s1) rfl x1
  | stuck => exact fun p => p
  | ok s G1 =>
    intro p ρ1 H1 J s1 r1 sj
    replace p := p.step s1
    simp only [forS] at p
    cases q : items G1 s with
    | none => simp only [q] at p; exact p.elim
    | some its =>
      simp only [q] at p
      refine ⟨fun i m σ' H' => m = its.length - i ∧ i ≤ its.length ∧ σ'.length = σ.length ∧ ∃ ρ' G' ds', Step ρ1 H1 ρ' H' ∧ Rl X.K ρ' G' H' ∧ SRel X.K ρ' H' ds' σ' ∧ Lk W ρ' H' ds' σ' ∧ PstS X.K W ρ' H' σ.length (loopS s t b its (its.drop i) ds' G') Q, ⟨_, rfl, Nat.zero_le _, rfl, ρ1, G1, ds, Step.refl _ _, r1, sr.step s1, hl.step s1, p⟩, ?_⟩
      rintro i m σ' H' ⟨rfl, hi', hn, ρ', G', ds', s', r', sr', hl', p'⟩
      by_cases hlt : i < its.length
      · rw [List.drop_eq_getElem_cons hlt] at p'
        simp only [loopS] at p'
        cases q2 : items G' s with
        | none => simp only [q2] at p'; exact p'.elim
        | some l =>
          simp only [q2] at p'
          split at p'
          · rename_i e
            have e2 := decDs_eq e
            subst e2
            obtain ⟨go, yl⟩ := (sj ρ' G' H' s'.g r' l q2 i).1 l[i] (by simp [hlt])
            refine .inr ⟨go, fun σ2 H2 => ∃ m', m' < l.length - i ∧ (m' = l.length - (i + 1) ∧ i + 1 ≤ l.length ∧ σ2.length = σ.length ∧ ∃ ρ' G' ds', Step ρ1 H1 ρ' H2 ∧ Rl X.K ρ' G' H2 ∧ SRel X.K ρ' H2 ds' σ2 ∧ Lk W ρ' H2 ds' σ2 ∧ PstS X.K W ρ' H2 σ.length (loopS s t b l (l.drop (i + 1)) ds' G') Q), fun σ2 H2 z => z, fun x H2 y => ?_⟩
            obtain ⟨s2, r2, d2⟩ := yl x H2 y
            rcases tgS_or t l[i] ds' G' with ⟨ds1, q3⟩ | q3
            · rw [q3] at p'
              refine gTg_of q3 r2 (sr'.step s2) (hl'.step s2) hfx d2 fun is xs _ sr3 hl3 => ?_
              refine ⟨ρ', G', ds1, r2, sr3, hl3, ?_⟩
              rw [setAll_length, hn]
              refine body_ends (p'.step s2) fun ρ4 H4 σ4 ds4 G4 s4 r4 sr4 hl4 hn4 p4 => ?_
              exact ⟨_, by omega, rfl, by omega, hn4, ρ4, G4, ds4, (s'.trans s2).trans s4, r4, sr4, hl4, p4⟩
            · rw [q3] at p'
              exact p'.elim
          · exact p'.elim
      · have e : i = its.length := by omega
        subst e
        rw [List.drop_length] at p'
        simp only [loopS] at p'
        cases q2 : items G' s with
        | none => simp only [q2] at p'; exact p'.elim
        | some l =>
          simp only [q2] at p'
          split at p'
          · rename_i e
            have e2 := decDs_eq e
            subst e2
            exact .inl ⟨(sj ρ' G' H' s'.g r' l q2 l.length).2 (Nat.le_refl _), p' ρ' H' σ' (Step.refl _ _) r' sr' hl' hn⟩
          · exact p'.elim
/-- while, with so many turns at the most -/
def whileS (c : M Bool) (b : MS) : Nat → MS
  | 0 => fun _ _ => .stuck
  | n + 1 => bndS c fun k => if k = true then fun ds G => (match b ds G with
    | .nx ds2 G2 => whileS c b n ds2 G2
    | .ct ds2 G2 => whileS c b n ds2 G2
    | .bk ds2 G2 => .nx ds2 G2
    | z => z) else nxtS
theorem ms_while {c : Expr} {body : List Stmt} {t : M Bool} {b : MS} (n : Nat) (hp : PassesOwn (model X.prog X.w) X.A X.env X.xe) (hc : MT X W c t) (hb : MSs X W body b) : MSt X W (.While c body [] pos) (whileS t b n) := (ps_while hp hc hb).conv fun σ H Q ⟨ρ, G, ds, rl, sr, hl, p⟩ => by
  refine ⟨fun m σ' H' => σ'.length = σ.length ∧ ∃ ρ' G' ds', Rl X.K ρ' G' H' ∧ SRel X.K ρ' H' ds' σ' ∧ Lk W ρ' H' ds' σ' ∧ PstS X.K W ρ' H' σ.length (whileS t b m ds' G') Q, ⟨n, rfl, ρ, G, ds, rl, sr, hl, p⟩, ?_⟩
  rintro m σ' H' ⟨hn, ρ', G', ds', r', sr', hl', p'⟩
  cases m with
  | zero => exact p'.elim
  | succ m =>
    unfold whileS at p'
    rw [← hn] at p'
    refine lt_seqS p' r' sr' hl' fun k H1 ρ1 G1 s1 r1 sr1 hl1 p1 => ?_
    cases k with
    | true =>
      rw [if_pos rfl] at p1 ⊢
      refine ⟨fun σ2 H2 => σ2.length = σ.length ∧ ∃ ρ' G' ds', Rl X.K ρ' G' H2 ∧ SRel X.K ρ' H2 ds' σ2 ∧ Lk W ρ' H2 ds' σ2 ∧ PstS X.K W ρ' H2 σ.length (whileS t b m ds' G') Q, fun σ2 H2 z => ⟨m, Nat.lt_succ_self _, z⟩, ρ1, G1, ds', r1, sr1, hl1, ?_⟩
      refine body_ends p1 fun ρ4 H4 σ4 ds4 G4 s4 r4 sr4 hl4 hn4 p4 => ?_
      exact ⟨hn4.trans hn, ρ4, G4, ds4, r4, sr4, hl4, by rw [← hn]; exact p4⟩
    | false =>
      rw [if_neg Bool.false_ne_true] at p1 ⊢
      exact p1 ρ1 H1 σ' (Step.refl _ _) r1 sr1 hl1 rfl
end
end M3
end L2

set_option Elab.async false
set_option linter.all false
set_option maxRecDepth 100000
set_option maxHeartbeats 2000000
/-! M3f: comprehensions. -/
namespace L2
namespace M3
open PySem PySem.Spec PyProof.Rows

/-! ### hiding the list that a comprehension makes -/
def Rho.hide (ρ : Rho) (p : Addr) : Rho := ⟨ρ.os, p :: ρ.hd⟩
section
variable {K : PySem.W.Frag} {W : Wq} {ρ ρ' : Rho} {H H' : Hp} {G : Gs}
/-- a new list, hidden: the outer words hold of the inner state -/
theorem wk_in (rl : Rl K ρ G H) {p : Addr} {o : HO} (h : H p = none) : Grow ρ H (ρ.hide p) (upd H p o) :=
  ⟨⟨[], by simp [Rho.hide]⟩, fun a u e n => by
    have ne := ne_of_none e h
    refine ⟨by rw [upd_ne ne]; exact e, n.1, ?_⟩
    show ¬ a ∈ p :: ρ.hd
    simp only [List.mem_cons, not_or]
    exact ⟨ne, n.2⟩⟩
theorem Rl.hideN (rl : Rl K ρ G H) {p : Addr} {o : HO} (h : H p = none) : Rl K (ρ.hide p) G (upd H p o) := by
  have hp := rl.new h
  refine ⟨rl.nd, rl.len, fun a ha => ?_, fun a ha => ?_, fun i u a h1 h2 => ?_⟩
  · rcases List.mem_cons.mp (show a ∈ p :: ρ.hd from ha) with rfl | ha
    · exact hp.1
    · exact rl.dj a ha
  · rcases List.mem_cons.mp (show a ∈ p :: ρ.hd from ha) with rfl | ha
    · exact ⟨o, upd_same⟩
    · obtain ⟨u, e⟩ := rl.hs a ha
      exact ⟨u, by rw [upd_ne (ne_of_none e h)]; exact e⟩
  · exact (rl.at_ i u a h1 h2).grow (wk_in rl h) (upd_ne fun z => hp.1 (z ▸ List.mem_of_getElem? h2))
/-- the hidden list is rewritten -/
theorem Rl.hwrite (rl : Rl K ρ G H) {p : Addr} {o : HO} (hp : p ∈ ρ.hd) : Grow ρ H ρ (upd H p o) ∧ Rl K ρ G (upd H p o) := by
  have w : Grow ρ H ρ (upd H p o) := ⟨⟨[], by simp⟩, fun a u e n => ⟨by rw [upd_ne fun z => n.2 (by rw [z]; exact hp)]; exact e, n⟩⟩
  refine ⟨w, rl.nd, rl.len, rl.dj, fun a ha => ?_, fun i u a h1 h2 => ?_⟩
  · by_cases z : a = p
    · exact ⟨o, by rw [z]; exact upd_same⟩
    · obtain ⟨u, e⟩ := rl.hs a ha
      exact ⟨u, by rw [upd_ne z]; exact e⟩
  · exact (rl.at_ i u a h1 h2).grow w (upd_ne fun z => rl.dj p hp (z ▸ List.mem_of_getElem? h2))
/-- shown at last -/
theorem wk_out {ρ2 : Rho} {p : Addr} (e : ρ'.hd = p :: ρ2.hd) (e2 : ρ'.os = ρ2.os) : Grow ρ' H ρ2 H :=
  ⟨⟨[], by simp [e2]⟩, fun a o h n => ⟨h, by rw [← e2]; exact n.1, fun z => n.2 (by rw [e]; exact List.mem_cons_of_mem _ z)⟩⟩
theorem wk_adopt {p : Addr} {hd : List Addr} (e : ρ'.hd = p :: hd) : Grow ρ' H ⟨ρ'.os ++ [p], hd⟩ H :=
  ⟨⟨[p], rfl⟩, fun a o h n => ⟨h, by
    refine ⟨?_, fun z => n.2 (by rw [e]; exact List.mem_cons_of_mem _ z)⟩
    show ¬ a ∈ ρ'.os ++ [p]
    simp only [List.mem_append, List.mem_singleton, not_or]
    exact ⟨n.1, fun z => n.2 (by rw [e, z]; exact List.mem_cons_self)⟩⟩⟩
theorem Rl.adopt (rl : Rl K ρ' G H) {p : Addr} {hd : List Addr} {m : MO} (e : ρ'.hd = p :: hd) (hp : ¬ p ∈ hd) (hm : MRel K ⟨ρ'.os ++ [p], hd⟩ H p m) : Rl K ⟨ρ'.os ++ [p], hd⟩ (G ++ [m]) H := by
  have hno : ¬ p ∈ ρ'.os := rl.dj p (by rw [e]; exact List.mem_cons_self)
  refine ⟨?_, ?_, fun b hb => ?_, fun b hb => rl.hs b (by rw [e]; exact List.mem_cons_of_mem _ hb), fun j u b h1 h2 => ?_⟩
  · show (ρ'.os ++ [p]).Nodup
    rw [List.nodup_append]
    exact ⟨rl.nd, by simp, fun a ha b hb e => hno (by simp at hb; rw [← hb, ← e]; exact ha)⟩
  · show _ = (ρ'.os ++ [p]).length
    simp [rl.len]
  · show ¬ b ∈ ρ'.os ++ [p]
    simp only [List.mem_append, List.mem_singleton, not_or]
    exact ⟨rl.dj b (by rw [e]; exact List.mem_cons_of_mem _ hb), fun z => hp (z ▸ hb)⟩
  · have h2' : (ρ'.os ++ [p])[j]? = some b := h2
    by_cases el : j < ρ'.os.length
    · rw [List.getElem?_append_left el] at h2'
      rw [List.getElem?_append_left (by rw [rl.len]; exact el)] at h1
      exact (rl.at_ j u b h1 h2').grow (wk_adopt e) rfl
    · have e2 : j = ρ'.os.length := by
        have := (List.getElem?_eq_some_iff.mp h2').1
        simp at this
        omega
      subst e2
      rw [List.getElem?_append_right (Nat.le_refl _)] at h2'
      rw [List.getElem?_append_right (by rw [rl.len]; exact Nat.le_refl _), rl.len] at h1
      simp at h1 h2'
      subst h1 h2'
      exact hm
theorem Rl.show_ {ρ2 : Rho} {p : Addr} (rl : Rl K ρ' G H) (e : ρ'.hd = p :: ρ2.hd) (e2 : ρ'.os = ρ2.os) : Rl K ρ2 G H :=
  ⟨by rw [← e2]; exact rl.nd, by rw [← e2]; exact rl.len, fun a ha => by rw [← e2]; exact rl.dj a (by rw [e]; exact List.mem_cons_of_mem _ ha), fun a ha => rl.hs a (by rw [e]; exact List.mem_cons_of_mem _ ha),
    fun i u a h1 h2 => (rl.at_ i u a h1 (by rw [e2]; exact h2)).grow (wk_out e e2) rfl⟩
end

section
variable {ρ ρ1 ρ' ρ4 : Rho} {H1 H' H4 : Hp} {D : Addr}
theorem step_outer {o : HO} (h : Step ρ1 H1 ⟨ρ'.os, ρ1.hd⟩ H') (s : Step ρ' H' ρ4 H4) (hh : ρ'.hd = D :: ρ1.hd) (hD : H1 D = none) (hs : ∀ a ∈ ρ1.hd, ∃ o, H1 a = some o) : Step ρ1 H1 ⟨ρ4.os, ρ1.hd⟩ (upd H4 D o) := by
  obtain ⟨t, et⟩ := h.ext
  obtain ⟨u, eu⟩ := s.ext
  refine ⟨⟨t ++ u, by rw [← List.append_assoc, ← et]; exact eu⟩, rfl, fun a ob e n => ?_, fun a ha => ?_⟩
  · have ne := ne_of_none e hD
    obtain ⟨k1, k2⟩ := h.keep a ob e n
    have n2 : ρ'.no a := ⟨k2.1, by
      rw [hh]
      simp only [List.mem_cons, not_or]
      exact ⟨ne, k2.2⟩⟩
    obtain ⟨k3, k4⟩ := s.keep a ob k1 n2
    exact ⟨by rw [upd_ne ne]; exact k3, k4.1, n.2⟩
  · obtain ⟨ob, e⟩ := hs a ha
    rw [upd_ne (ne_of_none e hD)]
    exact (s.kh a (by rw [hh]; exact List.mem_cons_of_mem _ ha)).trans (h.kh a ha)
theorem step_inner {o : HO} (s : Step ρ' H' ρ4 H4) (hm : D ∈ ρ'.hd) : Step ρ' (upd H' D o) ρ4 (upd H4 D o) :=
  ⟨s.ext, s.hid, fun a ob e n => by
    have ne : a ≠ D := fun z => n.2 (by rw [z]; exact hm)
    rw [upd_ne ne] at e
    obtain ⟨k1, k2⟩ := s.keep a ob e n
    exact ⟨by rw [upd_ne ne]; exact k1, k2⟩, fun a ha => by
    by_cases z : a = D
    · rw [z, upd_same, upd_same]
    · rw [upd_ne z, upd_ne z]
      exact s.kh a ha⟩
end

/-! ### the code -/
def wipeD {α : Type} (σ : List (Option α)) : List Nat → List (Option α)
  | [] => σ
  | v :: vs => (wipeD σ vs).set v none
theorem wipe_eq (σ : St) : ∀ vs : List Nat, wipe σ vs = wipeD σ vs
  | [] => rfl
  | v :: vs => by unfold wipe wipeD; rw [wipe_eq σ vs]
theorem wipeD_length {α : Type} (σ : List (Option α)) : ∀ vs : List Nat, (wipeD σ vs).length = σ.length
  | [] => rfl
  | v :: vs => by unfold wipeD; rw [List.length_set, wipeD_length σ vs]
theorem wipeD_get {α : Type} (σ : List (Option α)) (j : Nat) : ∀ vs : List Nat, (wipeD σ vs)[j]? = if j ∈ vs then (σ[j]?).map (fun _ => none) else σ[j]?
  | [] => by simp [wipeD]
  | v :: vs => by
    unfold wipeD
    rw [List.getElem?_set]
    by_cases h : v = j
    · subst h
      simp only [if_true, List.mem_cons, true_or]
      rw [wipeD_length]
      by_cases hl : v < σ.length
      · simp [hl]
      · simp [hl]
    · rw [if_neg h, wipeD_get σ j vs]
      have : (j ∈ v :: vs) ↔ j ∈ vs := by
        simp only [List.mem_cons]
        exact ⟨fun z => z.resolve_left (fun e => h e.symm), .inr⟩
      simp only [this]
theorem wipeD_setAll {α : Type} {vs : List Nat} : ∀ (is : List Nat) (xs : List α) (σ : List (Option α)), (∀ i ∈ is, i ∈ vs) → wipeD (setAll is xs σ) vs = wipeD σ vs
  | [], _, _, _ => by simp [setAll]
  | _ :: _, [], _, _ => by simp [setAll]
  | i :: is, x :: xs, σ, h => by
    simp only [setAll]
    rw [wipeD_setAll is xs _ fun j hj => h j (List.mem_cons_of_mem _ hj)]
    apply List.ext_getElem?
    intro j
    rw [wipeD_get, wipeD_get]
    by_cases hj : j ∈ vs
    · rw [if_pos hj, if_pos hj]
      by_cases e : i = j
      · subst e
        by_cases hl : i < σ.length
        · simp [hl]
        · simp [hl]
      · rw [List.getElem?_set_ne e]
    · rw [if_neg hj, if_neg hj]
      have : i ≠ j := fun e => hj (e ▸ h i List.mem_cons_self)
      rw [List.getElem?_set_ne this]
theorem wipeD_idem {α : Type} (σ : List (Option α)) (vs : List Nat) : wipeD (wipeD σ vs) vs = wipeD σ vs := by
  apply List.ext_getElem?
  intro j
  rw [wipeD_get, wipeD_get]
  by_cases hj : j ∈ vs
  · rw [if_pos hj, if_pos hj]
    cases σ[j]? <;> rfl
  · rw [if_neg hj, if_neg hj]
theorem SRel.wipe {K : PySem.W.Frag} {ρ : Rho} {H : Hp} {ds : Sl} {σ : St} (h : SRel K ρ H ds σ) (vs : List Nat) : SRel K ρ H (wipeD ds vs) (L2.wipe σ vs) := fun i d e => by
  rw [wipe_eq]
  rw [wipeD_get] at e
  by_cases hj : i ∈ vs
  · rw [if_pos hj] at e
    cases q : ds[i]? with
    | none => rw [q] at e; cases e
    | some o => rw [q] at e; cases e
  · rw [if_neg hj] at e
    obtain ⟨v, e1, e2⟩ := h i d e
    exact ⟨v, by rw [wipeD_get, if_neg hj]; exact e1, e2⟩
/-- the items of a comprehension's turns that are left; ds: the slots, the block's own wiped -/
def compL (s : Src) (t : Tg) (c : M Bool) (e : M D) (its : List D) : List D → M (List D)
  | [] => fun ds G => match items G s with
    | some l => if decDs l its = true then .ok [] G else .stuck
    | none => .stuck
  | x :: r => fun ds G => match items G s with
    | some l => if decDs l its = true then (match tgS t x ds G with
      | .nx ds1 G1 => (match c ds1 G1 with
        | .ok true G2 => (match e ds1 G2 with
          | .ok y G3 => (match compL s t c e its r ds G3 with
            | .ok ys G4 => .ok (y :: ys) G4
            | _ => .stuck)
          | _ => .stuck)
        | .ok false G2 => compL s t c e its r ds G2
        | _ => .stuck)
      | _ => .stuck) else .stuck
    | none => .stuck
def compD (ob : Bool) (t : Tg) (c : M Bool) (e : M D) (vs : List Nat) (s : Src) : M D := fun ds G => match items G s with
  | some its => (match compL s t c e its its (wipeD ds vs) G with
    | .ok ys G1 => if ys.length ≤ sizeLine then (if ob = true then .ok (.obj G1.length) (G1 ++ [.lst ys]) else .ok (.tl ys) G1) else .stuck
    | _ => .stuck)
  | none => .stuck
def yes : M Bool := ret true
/-- nothing is raised in a block -/
def W0 : Wq := ⟨fun _ _ _ _ => False, [], fun _ _ => True, fun _ _ _ _ _ _ => trivial⟩
theorem compL_ok {s : Src} {t : Tg} {c : M Bool} {e : M D} {its : List D} : ∀ {r : List D} {ds : Sl} {G : Gs}, (∃ ys G1, compL s t c e its r ds G = .ok ys G1) ∨ compL s t c e its r ds G = .stuck := by
  intro r
  induction r with
  | nil =>
    intro ds G
    simp only [compL]
    cases items G s with
    | none => exact .inr rfl
    | some l =>
      simp only
      split
      · exact .inl ⟨_, _, rfl⟩
      · exact .inr rfl
  | cons x r ih =>
    intro ds G
    simp only [compL]
    cases items G s with
    | none => exact .inr rfl
    | some l =>
      simp only
      split
      · cases tgS t x ds G with
        | nx ds1 G1 =>
          simp only
          cases c ds1 G1 with
          | ok k G2 =>
            cases k with
            | true =>
              simp only
              cases e ds1 G2 with
              | ok y G3 =>
                simp only
                rcases ih (ds := ds) (G := G3) with ⟨ys, G4, q⟩ | q
                · rw [q]; exact .inl ⟨_, _, rfl⟩
                · rw [q]; exact .inr rfl
              | _ => exact .inr rfl
            | false => exact ih
          | _ => exact .inr rfl
        | _ => exact .inr rfl
      · exact .inr rfl
section
variable {X : Cx} {W : Wq} {pos : Pos}
def MTs (X : Cx) (W : Wq) (ifs : List Expr) (c : M Bool) : Prop := PTs X ifs (LT X.K W c)
theorem _root_.L2.PTs.conv {X : Cx} {e : List Expr} {t t' : TT} (h : PTs X e t) (c : ∀ σ H Q, t' σ H Q → t σ H Q) : PTs X e t' := ⟨fun pins s σ H Q I q => h.run pins s σ H Q I (c _ _ _ q)⟩
theorem mts_nil : MTs X W [] yes := pts_nil.conv fun σ H Q ⟨ρ, G, ds, rl, sr, hl, p⟩ => p ρ H true (Step.refl _ _) rl rfl
theorem mts_one {c : Expr} {t : M Bool} (h : MT X W c t) : MTs X W [c] t := pts_one h
/-- a test, an element that let nothing out -/
theorem pst0 {α β : Type} {Rel : Rho → Hp → α → β → Prop} {K : PySem.W.Frag} {σ : St} {ρ : Rho} {H : Hp} {r : R α} {Q : β → Hp → Prop} {a : α} {G : Gs} (e : r = .ok a G) (q : ∀ ρ' H' v, Step ρ H ρ' H' → Rl K ρ' G H' → Rel ρ' H' a v → Q v H') : Pst K W0 Rel σ ρ H r Q := by
  subst e
  exact q
theorem comp_conv {ob : Bool} {vs : List Nat} {t : Tg} {mi : M Src} {c : M Bool} {e : M D} {σ : St} {H : Hp} {Q : VK} (hv : ∀ i ∈ tgI t, i ∈ vs) (h : LE X.K W (bnd mi (compD ob t c e vs)) σ H Q) :
    tLc (LI X.K W mi) (gTg X.K t) (LT X.K W0 c) (LE X.K W0 e) vs σ H Q := by
  obtain ⟨ρ, G, ds, rl, sr, hl, p⟩ := h
  refine ⟨ρ, G, ds, rl, sr, hl, ?_⟩
  unfold bnd at p
  revert p
  cases mi ds G with
  | exc e G1 => exact fun p => p
  | stuck => exact fun p => p
  | ok s G1 =>
    intro p ρ1 H1 J s1 r1 sj
    replace p := p.step s1
    have sr1 := sr.step s1
    simp only [compD] at p
    cases q : items G1 s with
    | none => simp only [q] at p; exact p.elim
    | some its =>
      simp only [q] at p
      intro D hD
      rcases compL_ok (s := s) (t := t) (c := c) (e := e) (its := its) (r := its) (ds := wipeD ds vs) (G := G1) with ⟨zs, Gz, qz⟩ | qz
      case inr => rw [qz] at p; exact p.elim
      rw [qz] at p
      simp only at p
      split at p
      case isFalse => exact p.elim
      rename_i hzs
      -- the words between the turns
      refine ⟨fun i m H' => m = its.length - i ∧ i ≤ its.length ∧ ∃ ρ' G' acc accV ys, ρ'.hd = D :: ρ1.hd ∧ H' D = some (.lst accV) ∧ Step ρ1 H1 ⟨ρ'.os, ρ1.hd⟩ H' ∧ Rl X.K ρ' G' H' ∧ Step (ρ1.hide D) (upd H1 D (.lst [])) ρ' (upd H' D (.lst [])) ∧
        DRels X.K ρ' H' acc accV ∧ compL s t c e its (its.drop i) (wipeD ds vs) G' = .ok ys Gz ∧ acc ++ ys = zs, ⟨_, rfl, Nat.zero_le _, ρ1.hide D, G1, [], [], zs, rfl, upd_same, step_upd r1 hD, r1.hideN hD, ?_, rfl, qz, rfl⟩, ?_⟩
      · rw [upd_upd]; exact Step.refl _ _
      rintro i m H' ⟨rfl, hi', ρ', G', acc, accV, ys, hhd, hD', st1, r', st2, hacc, qy, hys⟩
      have sw : SRel X.K ρ' H' (wipeD ds vs) (wipe σ vs) := by
        have a1 : SRel X.K (ρ1.hide D) (upd H1 D (.lst [])) (wipeD ds vs) (wipe σ vs) := (sr1.grow (wk_in r1 hD)).wipe vs
        have a2 := a1.step st2
        have hm : D ∈ ρ'.hd := by rw [hhd]; exact List.mem_cons_self
        -- from the heap with the list emptied to the heap as it is
        have w : Grow ρ' (upd H' D (.lst [])) ρ' H' := ⟨⟨[], by simp⟩, fun a o ea n => ⟨by
          have ne : a ≠ D := fun z => n.2 (by rw [z]; exact hm)
          rw [upd_ne ne] at ea
          exact ea, n⟩⟩
        exact a2.grow w
      have hm : D ∈ ρ'.hd := by rw [hhd]; exact List.mem_cons_self
      have hwl : Lk W0 ρ' H' (wipeD ds vs) (wipe σ vs) := ⟨by rw [wipeD_length, wipe_eq, wipeD_length]; exact hl.len, fun p hp => (by cases hp), trivial⟩
      have toJ : Grow ρ1 H1 ρ' H' := ⟨st1.ext, fun a o ea n => by
        obtain ⟨k1, k2⟩ := st1.keep a o ea n
        refine ⟨k1, k2.1, ?_⟩
        rw [hhd]
        simp only [List.mem_cons, not_or]
        exact ⟨ne_of_none ea hD, k2.2⟩⟩
      have rout : Rl X.K ⟨ρ'.os, ρ1.hd⟩ G' H' := r'.show_ hhd rfl
      by_cases hlt : i < its.length
      · rw [List.drop_eq_getElem_cons hlt] at qy
        simp only [compL] at qy
        cases q2 : items G' s with
        | none => simp only [q2] at qy; cases qy
        | some l =>
          simp only [q2] at qy
          split at qy
          case isFalse => cases qy
          rename_i eq
          have e2 := decDs_eq eq
          subst e2
          obtain ⟨go, yl⟩ := (sj ρ' G' H' toJ r' l q2 i).1 l[i] (by simp [hlt])
          refine .inr ⟨go, fun H2 => ∃ m', m' < l.length - i ∧ (m' = l.length - (i + 1) ∧ i + 1 ≤ l.length ∧ ∃ ρ' G' acc accV ys, ρ'.hd = D :: ρ1.hd ∧ H2 D = some (.lst accV) ∧ Step ρ1 H1 ⟨ρ'.os, ρ1.hd⟩ H2 ∧ Rl X.K ρ' G' H2 ∧ Step (ρ1.hide D) (upd H1 D (.lst [])) ρ' (upd H2 D (.lst [])) ∧
            DRels X.K ρ' H2 acc accV ∧ compL s t c e l (l.drop (i + 1)) (wipeD ds vs) G' = .ok ys Gz ∧ acc ++ ys = zs), fun H2 z => z, fun x H2 y => ?_⟩
          obtain ⟨s2, r2, d2⟩ := yl x H2 y
          rcases tgS_or t l[i] (wipeD ds vs) G' with ⟨ds1, q3⟩ | q3
          case inr => rw [q3] at qy; cases qy
          rw [q3] at qy
          simp only at qy
          refine gTg_of (W := W0) q3 r2 (sw.step s2) (hwl.step s2) (fun p hp => by cases hp) d2 fun is xs eis sr3 hl3 => ⟨?_, ?_⟩
          · have hsub : ∀ i ∈ is, i ∈ vs := fun i hi => hv i (by
              rw [eis]
              exact hi)
            rw [wipe_eq, wipe_eq, wipeD_setAll _ _ _ hsub, wipeD_idem]
          -- behind the turn, with the list rewritten or as it was
          have fin : ∀ (ρ4 : Rho) (H4 : Hp) (G4 : Gs) (acc2 : List M3.D) (accV2 : List V) (ys2 : List M3.D), Step ρ' H2 ρ4 H4 → Rl X.K ρ4 G4 H4 → DRels X.K ρ4 H4 acc2 accV2 → compL s t c e l (l.drop (i + 1)) (wipeD ds vs) G4 = .ok ys2 Gz → acc2 ++ ys2 = zs →
              ∃ m', m' < l.length - i ∧ (m' = l.length - (i + 1) ∧ i + 1 ≤ l.length ∧ ∃ ρ' G' acc accV ys, ρ'.hd = D :: ρ1.hd ∧ (upd H4 D (.lst accV2)) D = some (.lst accV) ∧ Step ρ1 H1 ⟨ρ'.os, ρ1.hd⟩ (upd H4 D (.lst accV2)) ∧ Rl X.K ρ' G' (upd H4 D (.lst accV2)) ∧
                Step (ρ1.hide D) (upd H1 D (.lst [])) ρ' (upd (upd H4 D (.lst accV2)) D (.lst [])) ∧ DRels X.K ρ' (upd H4 D (.lst accV2)) acc accV ∧ compL s t c e l (l.drop (i + 1)) (wipeD ds vs) G' = .ok ys Gz ∧ acc ++ ys = zs) := fun ρ4 H4 G4 acc2 accV2 ys2 s4 r4 d4 q4 e4 => by
            have ss := s2.trans s4
            have hm4 : D ∈ ρ4.hd := by rw [ss.hid]; exact hm
            obtain ⟨w4, rw4⟩ := r4.hwrite (o := .lst accV2) hm4
            refine ⟨_, by omega, rfl, by omega, ρ4, G4, acc2, accV2, ys2, ss.hid.trans hhd, upd_same, step_outer st1 ss hhd hD r1.hs, rw4, ?_, d4.grow w4, q4, e4⟩
            rw [upd_upd]
            exact st2.trans (step_inner ss hm)
          have keepD : ∀ {ρ4 : Rho} {H4 : Hp}, Step ρ' H2 ρ4 H4 → H4 D = some (.lst accV) := fun {ρ4 H4} s4 => ((s2.trans s4).kh D hm).trans hD'
          have updD : ∀ {H4 : Hp}, H4 D = some (.lst accV) → upd H4 D (.lst accV) = H4 := fun {H4} hh => by
            funext b
            by_cases z : b = D
            · rw [z, upd_same, hh]
            · rw [upd_ne z]
          refine ⟨ρ', G', ds1, r2, sr3, hl3, ?_⟩
          cases q5 : c ds1 G' with
          | exc e5 G5 => rw [q5] at qy; cases qy
          | stuck => rw [q5] at qy; cases qy
          | ok k G2 =>
            rw [q5] at qy
            intro ρ3 H3 b s3 r3 eb
            obtain rfl : k = b := eb
            cases k with
            | false =>
              simp only at qy
              rw [if_neg Bool.false_ne_true]
              have hK := keepD s3
              have z := fin ρ3 H3 G2 acc accV ys s3 r3 (hacc.step (s2.trans s3)) qy hys
              rw [updD hK] at z
              exact z
            | true =>
              simp only at qy
              rw [if_pos rfl]
              refine ⟨ρ3, G2, ds1, r3, sr3.step s3, hl3.step s3, ?_⟩
              cases q6 : e ds1 G2 with
              | exc e5 G5 => rw [q6] at qy; cases qy
              | stuck => rw [q6] at qy; cases qy
              | ok y' G3 =>
                rw [q6] at qy
                simp only at qy
                intro ρ4 H4 v s4 r4 d4
                rcases compL_ok (s := s) (t := t) (c := c) (e := e) (its := l) (r := l.drop (i + 1)) (ds := wipeD ds vs) (G := G3) with ⟨ys2, G6, q7⟩ | q7
                case inr => rw [q7] at qy; cases qy
                rw [q7] at qy
                simp only at qy
                injection qy with e8 e9
                subst e8 e9
                have s5 := s3.trans s4
                refine ⟨accV, keepD s5, ?_, fin ρ4 H4 G3 (acc ++ [y']) (accV ++ [v]) ys2 s5 r4 ((hacc.step (s2.trans s5)).append (drels_one d4)) q7 (by rw [List.append_assoc]; exact hys)⟩
                have l1 := hacc.length
                have l2 : (acc ++ y' :: ys2).length = zs.length := by rw [hys]
                rw [List.length_append, List.length_cons] at l2
                omega
      · have e : i = its.length := by omega
        subst e
        rw [List.drop_length] at qy
        simp only [compL] at qy
        cases q2 : items G' s with
        | none => simp only [q2] at qy; cases qy
        | some l =>
          simp only [q2] at qy
          split at qy
          case isFalse => cases qy
          rename_i eq
          have e2 := decDs_eq eq
          subst e2
          cases qy
          rw [List.append_nil] at hys
          subst hys
          refine .inl ⟨(sj _ _ _ toJ r' l q2 l.length).2 (Nat.le_refl _), ?_⟩
          have nD : ¬ D ∈ ρ1.hd := fun z => by
            obtain ⟨o, eo⟩ := r1.hs D z
            rw [hD] at eo
            cases eo
          cases ob with
          | false =>
            rw [if_neg Bool.false_ne_true] at p
            exact p ⟨ρ'.os, ρ1.hd⟩ H' (.ref D) st1 rout ⟨D, accV, rfl, ⟨⟨r'.dj D hm, nD⟩, hD'⟩, hacc.grow (wk_out (ρ2 := ⟨ρ'.os, ρ1.hd⟩) hhd rfl)⟩
          | true =>
            rw [if_pos rfl] at p
            refine p ⟨ρ'.os ++ [D], ρ1.hd⟩ H' (.ref D) ⟨?_, rfl, fun a o ea n => ?_, st1.kh⟩ (r'.adopt hhd nD ⟨accV, hD', hacc.grow (wk_adopt hhd)⟩) ⟨D, ?_, rfl⟩
            · obtain ⟨t, et⟩ := st1.ext
              exact ⟨t ++ [D], by rw [← List.append_assoc, ← et]⟩
            · obtain ⟨k1, k2⟩ := st1.keep a o ea n
              refine ⟨k1, ?_, k2.2⟩
              show ¬ a ∈ ρ'.os ++ [D]
              simp only [List.mem_append, List.mem_singleton, not_or]
              exact ⟨k2.1, ne_of_none ea hD⟩
            · show (ρ'.os ++ [D])[_]? = _
              rw [r'.len]
              simp
theorem me_comp {ob : Bool} {elt tg iter : Expr} {ifs : List Expr} {scope : Scope} {own : List (Str × Nat)} {t : Tg} {mi : M Src} {c : M Bool} {e : M D} (hc : X.calm = true) (hN : X.N.Nodup) (hi : MI X W tg iter mi) (ok : BlkOk X.N X.env.scope scope own)
    (hg : ∀ (s : Shared) (H : Hp) (C : Addr) (cl : List (Str × Addr)) (fp : List Addr), PG (X.blk s H scope (compEnvC scope cl C X.env) fp) tg (gTg X.K t))
    (ht : ∀ (s : Shared) (H : Hp) (C : Addr) (cl : List (Str × Addr)) (fp : List Addr), MTs (X.blk s H scope (compEnvC scope cl C X.env) fp) W0 ifs c)
    (he : ∀ (s : Shared) (H : Hp) (C : Addr) (cl : List (Str × Addr)) (fp : List Addr), ME (X.blk s H scope (compEnvC scope cl C X.env) fp) W0 elt e)
    (hv : ∀ i ∈ tgI t, i ∈ own.map (·.2) := by decide) (hs : ∀ x, foldedSetIterable iter X.env x = pure x := by intro _; rfl) :
    ME X W (.ListComp elt [⟨tg, iter, ifs, 0⟩] scope pos) (bnd mi (compD ob t c e (own.map (·.2)))) := (pe_lc (tt := LT X.K W0 c) (te := LE X.K W0 e) hc hN hi ok hg ht he hs).conv fun σ H Q h => comp_conv hv h
theorem ms_setcomp {ob : Bool} {i : Nat} {y : Str} {py spos : Pos} {elt tg iter : Expr} {ifs : List Expr} {scope : Scope} {own : List (Str × Nat)} {t : Tg} {mi : M Src} {c : M Bool} {e : M D} (hc : X.calm = true) (hN : X.N.Nodup) (hy : X.N[i]? = some y) (hyl : X.env.scope.names.lookup y = some .local)
    (hsw : swapsWith (.ListComp elt [⟨tg, iter, ifs, 0⟩] scope pos) (some (.Name y py)) spos.line X.env = pure true) (hi : MI X W tg iter mi) (ok : BlkOk X.N X.env.scope scope own)
    (hg : ∀ (s : Shared) (H : Hp) (C : Addr) (cl : List (Str × Addr)) (fp : List Addr), PG (X.blk s H scope (compEnvC scope cl C X.env) fp) tg (gTg X.K t))
    (ht : ∀ (s : Shared) (H : Hp) (C : Addr) (cl : List (Str × Addr)) (fp : List Addr), MTs (X.blk s H scope (compEnvC scope cl C X.env) fp) W0 ifs c)
    (he : ∀ (s : Shared) (H : Hp) (C : Addr) (cl : List (Str × Addr)) (fp : List Addr), ME (X.blk s H scope (compEnvC scope cl C X.env) fp) W0 elt e)
    (hv : ∀ i ∈ tgI t, i ∈ own.map (·.2) := by decide) (hs : ∀ x, foldedSetIterable iter X.env x = pure x := by intro _; rfl) (hfx : ∀ p ∈ W.fx, p.1 ≠ i := by intro p hp; first | cases hp | (cases hp; decide)) :
    MSt X W (.Assign [.Name y py] (.ListComp elt [⟨tg, iter, ifs, 0⟩] scope pos) spos) (bndS (bnd mi (compD ob t c e (own.map (·.2)))) (setS i)) := (ps_setLc (tt := LT X.K W0 c) (te := LE X.K W0 e) hc hN hy hyl hsw hi ok hg ht he hs).conv fun σ H Q ⟨ρ, G, ds, rl, sr, hl, p⟩ =>
  comp_conv hv (le_seqS p rl sr hl fun v H1 ρ1 G1 a s1 r1 sr1 hl1 d1 p1 => p1 ρ1 H1 _ (Step.refl _ _) r1 (sr1.set (Nat.le_of_eq hl1.len) i d1) (hl1.set hfx) (by simp))
end
end M3
end L2

set_option Elab.async false
set_option linter.all false
set_option maxRecDepth 100000
set_option maxHeartbeats 2000000
/-! M3g: calls, methods, fields, stores, defs. -/
namespace L2
namespace M3
open PySem PySem.Spec PyProof.Rows

/-! ### a def by its code -/
def startD (N : Nat) (ds : List D) : Sl := ds.map some ++ List.replicate (N - ds.length) none
def runF (N : Nat) (b : MS) : FM := fun ds G => match b (startD N ds) G with
  | .nx _ G1 => .ok .non G1
  | .rt d G1 => .ok d G1
  | .exc e _ G1 => .exc e G1
  | _ => .stuck
/-- what a def's body wants of exceptions -/
def WD (E : XK) : Wq := ⟨fun c dd _ H => E c dd H, [], fun _ _ => True, fun _ _ _ _ _ _ => trivial⟩
theorem srel_start {K : PySem.W.Frag} {ρ : Rho} {H : Hp} {ds : List D} {vs : List V} (N : List Str) (h : DRels K ρ H ds vs) : SRel K ρ H (startD N.length ds) (start N vs) := fun i d e => by
  have hl := h.length
  unfold startD at e
  unfold start
  by_cases hi : i < ds.length
  · rw [List.getElem?_append_left (by simpa using hi), List.getElem?_map] at e
    cases q : ds[i]? with
    | none => rw [q] at e; cases e
    | some d' =>
      rw [q] at e
      cases e
      obtain ⟨v, e1, e2⟩ := h.get q
      refine ⟨v, ?_, e2⟩
      rw [List.getElem?_append_left (by rw [List.length_map, ← hl]; exact hi), List.getElem?_map, e1]
      rfl
  · rw [List.getElem?_append_right (by simpa using hi), List.getElem?_replicate] at e
    split at e <;> cases e
theorem start_len {ds : List D} {vs : List V} (N : List Str) (h : ds.length = vs.length) : (startD N.length ds).length = (start N vs).length := by
  unfold startD start
  simp [h]
section
variable {P : Program} {w : World} {K : PySem.W.Frag} {mg : Str → Option Value} {base : Heap} {x qual : Str} {params : Arguments} {body : List Stmt} {scope : Scope} {f : Addr} {fd : FuncData}
/-- THE RULE of a def -/
theorem fn_okX {N ps : List Str} {k : Nat} {b : MS} (F : FunD K x qual params body scope [] [] f fd) (S : FnScope N ps scope)
    (hbody : ∀ (cdv : Value) (A : Around) (outer : List Env) (s : Shared) (H : Hp) (E : XK), Room k (A.deeper (envOfC qual scope s.heap.objs.size f cdv)) → MSs (cxOf (L2.CX P w) P w K mg base N qual scope f cdv A outer s H E) (WD E) body b) :
    FnOk P w K mg base (L2.CX P w) (k + 1) f fd ps (spM K ps.length (runF N.length b)) := by
  refine F.ok S (fun vs H Q E h => h.1) (fun cdv A outer s H vs Q E hr h => ⟨_, hbody cdv A outer s H E hr, ?_⟩)
  obtain ⟨hn, ρ, G, ds, rl, dr, p⟩ := h
  refine ⟨ρ, G, startD N.length ds, rl, srel_start N dr, ⟨start_len N dr.length, fun p hp => (by cases hp), trivial⟩, ?_⟩
  unfold runF at p
  revert p
  cases b (startD N.length ds) G with
  | nx ds1 G1 => exact fun p ρ1 H1 σ1 s1 r1 _ _ _ => p ρ1 H1 .non s1 r1 rfl
  | rt d G1 => exact fun p => p
  | bk ds1 G1 => exact fun p => p.elim
  | ct ds1 G1 => exact fun p => p.elim
  | exc e ds1 G1 => exact fun p ρ1 H1 σ1 c dd s1 r1 _ _ _ x1 => p ρ1 H1 c dd s1 r1 x1
  | stuck => exact fun p => p
end

/-! ### freezing what a def made -/
mutual
/-- data told without the objects from n on; k: how deep objects are followed -/
def frzD (G : Gs) (n : Nat) (rec : Nat → Option D) : D → Option D
  | .obj i => if i < n then some (.obj i) else rec i
  | .tup ds => (frzDs G n rec ds).map D.tup
  | .tl ds => (frzDs G n rec ds).map D.tl
  | .fz ds => (frzDs G n rec ds).map D.fz
  | .ti C ks ds => (frzDs G n rec ds).map (D.ti C ks)
  | .td ks ds => (frzDs G n rec ds).map (D.td ks)
  | d => some d
def frzDs (G : Gs) (n : Nat) (rec : Nat → Option D) : List D → Option (List D)
  | [] => some []
  | d :: ds => match frzD G n rec d, frzDs G n rec ds with
    | some a, some as => some (a :: as)
    | _, _ => none
end
def recO (G : Gs) (n : Nat) : Nat → Nat → Option D
  | 0, _ => none
  | k + 1, i => match G[i]? with
    | some (.lst ds) => (frzDs G n (recO G n k) ds).map D.tl
    | some (.ins C fs) => (frzDs G n (recO G n k) (fs.map (·.2))).map (D.ti C (fs.map (·.1)))
    | some (.dct kvs) => (frzDs G n (recO G n k) (kvs.map (·.2))).map (D.td (kvs.map (·.1)))
    | none => none
/-- objects below n speak of such alone -/
def below (n : Nat) : Gs → Bool
  | [] => true
  | .lst ds :: r => belowDs n ds && below n r
  | .ins _ fs :: r => belowDs n (fs.map (·.2)) && below n r
  | .dct kvs :: r => belowDs n (kvs.map (·.2)) && below n r
where
  belowD (n : Nat) : D → Bool
    | .obj i => decide (i < n)
    | .tup ds => belowDs n ds
    | .tl ds => belowDs n ds
    | .fz ds => belowDs n ds
    | .ti _ _ ds => belowDs n ds
    | .td _ ds => belowDs n ds
    | _ => true
  belowDs (n : Nat) : List D → Bool
    | [] => true
    | d :: ds => belowD n d && belowDs n ds
section
variable {K : PySem.W.Frag} {ρ : Rho} {G : Gs} {H : Hp} {n : Nat}
def Rho.cut (ρ : Rho) (n : Nat) : Rho := ⟨ρ.os.take n, ρ.hd⟩
theorem no_cut {a : Addr} (h : ρ.no a) : (ρ.cut n).no a := ⟨fun z => h.1 (List.mem_of_mem_take z), h.2⟩
theorem TupN.cut {a xs} (h : TupN K ρ H a xs) : TupN K (ρ.cut n) H a xs := h.imp (fun x => ⟨no_cut x.1, x.2⟩) id
theorem LstF.cut {a xs} (h : LstF K ρ H a xs) : LstF K (ρ.cut n) H a xs := h.imp (fun x => ⟨no_cut x.1, x.2⟩) id
theorem no_obj (rl : Rl K ρ G H) {i : Nat} {a : Addr} (hi : n ≤ i) (h : ρ.os[i]? = some a) : (ρ.cut n).no a := by
  refine ⟨fun z => ?_, fun z => rl.dj a z (List.mem_of_getElem? h)⟩
  obtain ⟨j, hj, e⟩ := List.mem_iff_getElem.mp (show a ∈ ρ.os.take n from z)
  rw [List.getElem_take] at e
  have hj2 : j < min n ρ.os.length := by simpa using hj
  obtain ⟨l2, e2⟩ := List.getElem?_eq_some_iff.mp h
  have := (List.getElem_inj rl.nd).mp (e.trans e2.symm)
  omega
mutual
theorem frzD_rel (rl : Rl K ρ G H) {rec : Nat → Option D} (hr : ∀ i d v, n ≤ i → rec i = some d → DRel K ρ H (.obj i) v → DRel K (ρ.cut n) H d v) : ∀ {d d' : D} {v : V}, frzD G n rec d = some d' → DRel K ρ H d v → DRel K (ρ.cut n) H d' v
  | .obj i, d', v, h, r => by
    simp only [frzD] at h
    split at h
    · rename_i hi
      cases h
      obtain ⟨a, e1, e2⟩ := r
      refine ⟨a, ?_, e2⟩
      show (ρ.os.take n)[i]? = some a
      rw [List.getElem?_take_of_lt hi]
      exact e1
    · exact hr i d' v (by omega) h r
  | .tup ds, d', v, h, r => by
    simp only [frzD] at h
    cases q : frzDs G n rec ds with
    | none => rw [q] at h; cases h
    | some es =>
      rw [q] at h
      cases h
      obtain ⟨a, xs, e1, e2, e3⟩ := r
      exact ⟨a, xs, e1, e2.cut, frzDs_rel rl hr q e3⟩
  | .tl ds, d', v, h, r => by
    simp only [frzD] at h
    cases q : frzDs G n rec ds with
    | none => rw [q] at h; cases h
    | some es =>
      rw [q] at h
      cases h
      obtain ⟨a, xs, e1, e2, e3⟩ := r
      exact ⟨a, xs, e1, ⟨no_cut e2.1, e2.2⟩, frzDs_rel rl hr q e3⟩
  | .fz ds, d', v, h, r => by
    simp only [frzD] at h
    cases q : frzDs G n rec ds with
    | none => rw [q] at h; cases h
    | some es =>
      rw [q] at h
      cases h
      obtain ⟨a, xs, e1, e2, e3⟩ := r
      exact ⟨a, xs, e1, e2.cut, frzDs_rel rl hr q e3⟩
  | .ti C ks ds, d', v, h, r => by
    simp only [frzD] at h
    cases q : frzDs G n rec ds with
    | none => rw [q] at h; cases h
    | some es =>
      rw [q] at h
      cases h
      obtain ⟨a, dx, xs, e1, e2, e3, e4, e5⟩ := r
      exact ⟨a, dx, xs, e1, no_cut e2, e3, e4, frzDs_rel rl hr q e5⟩
  | .td ks ds, d', v, h, r => by
    simp only [frzD] at h
    cases q : frzDs G n rec ds with
    | none => rw [q] at h; cases h
    | some es =>
      rw [q] at h
      cases h
      obtain ⟨a, xs, e1, e2, e3, e4⟩ := r
      exact ⟨a, xs, e1, no_cut e2, e3, frzDs_rel rl hr q e4⟩
  | .non, _, _, h, r => by cases h; exact r
  | .bl _, _, _, h, r => by cases h; exact r
  | .int _, _, _, h, r => by cases h; exact r
  | .str _, _, _, h, r => by cases h; exact r
  | .ty _, _, _, h, r => by cases h; exact r
  | .glo _, _, _, h, r => by cases h; exact r
theorem frzDs_rel (rl : Rl K ρ G H) {rec : Nat → Option D} (hr : ∀ i d v, n ≤ i → rec i = some d → DRel K ρ H (.obj i) v → DRel K (ρ.cut n) H d v) : ∀ {ds es : List D} {vs : List V}, frzDs G n rec ds = some es → DRels K ρ H ds vs → DRels K (ρ.cut n) H es vs
  | [], _, _, h, r => by cases h; exact r
  | d :: ds, es, vs, h, r => by
    obtain ⟨v, us, rfl, r1, r2⟩ := r
    simp only [frzDs] at h
    split at h
    · cases h
      rename_i q1 q2
      exact ⟨v, us, rfl, frzD_rel rl hr q1 r1, frzDs_rel rl hr q2 r2⟩
    · cases h
end
theorem recO_rel (rl : Rl K ρ G H) : ∀ (k i : Nat) (d : D) (v : V), n ≤ i → recO G n k i = some d → DRel K ρ H (.obj i) v → DRel K (ρ.cut n) H d v
  | 0, _, _, _, _, h, _ => by cases h
  | k + 1, i, d, v, hi, h, r => by
    obtain ⟨a, e1, e2⟩ := r
    simp only [recO] at h
    cases q : G[i]? with
    | none => rw [q] at h; cases h
    | some o =>
      rw [q] at h
      have m := rl.at_ i o a q e1
      cases o with
      | lst ds =>
        simp only at h
        cases q2 : frzDs G n (recO G n k) ds with
        | none => rw [q2] at h; cases h
        | some es =>
          rw [q2] at h
          cases h
          obtain ⟨xs, m1, m2⟩ := m
          exact ⟨a, xs, e2, ⟨no_obj rl hi e1, m1⟩, frzDs_rel rl (recO_rel rl k) q2 m2⟩
      | ins C fs =>
        simp only at h
        cases q2 : frzDs G n (recO G n k) (fs.map (·.2)) with
        | none => rw [q2] at h; cases h
        | some es =>
          rw [q2] at h
          cases h
          obtain ⟨dx, xs, m1, m2⟩ := m
          refine ⟨a, dx, xs, e2, no_obj rl hi e1, m1, ?_, frzDs_rel rl (recO_rel rl k) q2 m2⟩
          rw [← m2.length, List.length_map, List.length_map]
      | dct kvs =>
        simp only at h
        cases q2 : frzDs G n (recO G n k) (kvs.map (·.2)) with
        | none => rw [q2] at h; cases h
        | some es =>
          rw [q2] at h
          cases h
          rcases m with ⟨l, m1, m2, m3⟩ | ⟨l, m1, m2, m3⟩
          · exact ⟨a, _, e2, no_obj rl hi e1, .inl ⟨l, m1, m2, rfl⟩, frzDs_rel rl (recO_rel rl k) q2 m3⟩
          · exact ⟨a, _, e2, no_obj rl hi e1, .inr ⟨l, m1, m2, rfl⟩, frzDs_rel rl (recO_rel rl k) q2 m3⟩
mutual
theorem belowD_rel : ∀ {d : D} {v : V}, below.belowD n d = true → DRel K ρ H d v → DRel K (ρ.cut n) H d v
  | .obj i, v, h, r => by
    have hi : i < n := by simpa [below.belowD] using h
    obtain ⟨a, e1, e2⟩ := r
    refine ⟨a, ?_, e2⟩
    show (ρ.os.take n)[i]? = some a
    rw [List.getElem?_take_of_lt hi]
    exact e1
  | .tup ds, v, h, r => by
    obtain ⟨a, xs, e1, e2, e3⟩ := r
    exact ⟨a, xs, e1, e2.cut, belowDs_rel h e3⟩
  | .tl ds, v, h, r => by
    obtain ⟨a, xs, e1, e2, e3⟩ := r
    exact ⟨a, xs, e1, ⟨no_cut e2.1, e2.2⟩, belowDs_rel h e3⟩
  | .fz ds, v, h, r => by
    obtain ⟨a, xs, e1, e2, e3⟩ := r
    exact ⟨a, xs, e1, e2.cut, belowDs_rel h e3⟩
  | .ti C ks ds, v, h, r => by
    obtain ⟨a, dx, xs, e1, e2, e3, e4, e5⟩ := r
    exact ⟨a, dx, xs, e1, no_cut e2, e3, e4, belowDs_rel h e5⟩
  | .td ks ds, v, h, r => by
    obtain ⟨a, xs, e1, e2, e3, e4⟩ := r
    exact ⟨a, xs, e1, no_cut e2, e3, belowDs_rel h e4⟩
  | .non, _, _, r => r
  | .bl _, _, _, r => r
  | .int _, _, _, r => r
  | .str _, _, _, r => r
  | .ty _, _, _, r => r
  | .glo _, _, _, r => r
theorem belowDs_rel : ∀ {ds : List D} {vs : List V}, below.belowDs n ds = true → DRels K ρ H ds vs → DRels K (ρ.cut n) H ds vs
  | [], _, _, r => r
  | d :: ds, vs, h, r => by
    obtain ⟨v, us, rfl, r1, r2⟩ := r
    have h' : below.belowD n d = true ∧ below.belowDs n ds = true := by simpa [below.belowDs] using h
    exact ⟨v, us, rfl, belowD_rel h'.1 r1, belowDs_rel h'.2 r2⟩
end
theorem below_at : ∀ {L : Gs} {i : Nat} {o : MO} {a : Addr}, below n L = true → L[i]? = some o → MRel K ρ H a o → MRel K (ρ.cut n) H a o
  | [], i, o, a, _, e, _ => by simp at e
  | m :: r, 0, o, a, h, e, x => by
    simp at e
    subst e
    cases m with
    | lst ds =>
      have h' : below.belowDs n ds = true ∧ below n r = true := by simpa [below] using h
      obtain ⟨xs, m1, m2⟩ := x
      exact ⟨xs, m1, belowDs_rel h'.1 m2⟩
    | ins C fs =>
      have h' : below.belowDs n (fs.map (·.2)) = true ∧ below n r = true := by simpa [below] using h
      obtain ⟨dx, xs, m1, m2⟩ := x
      exact ⟨dx, xs, m1, belowDs_rel h'.1 m2⟩
    | dct kvs =>
      have h' : below.belowDs n (kvs.map (·.2)) = true ∧ below n r = true := by simpa [below] using h
      rcases x with ⟨l, m1, m2, m3⟩ | ⟨l, m1, m2, m3⟩
      · exact .inl ⟨l, m1, m2, belowDs_rel h'.1 m3⟩
      · exact .inr ⟨l, m1, m2, belowDs_rel h'.1 m3⟩
  | m :: r, i + 1, o, a, h, e, x => by
    have h' : below n r = true := by
      cases m <;> (simp [below] at h; exact h.2)
    exact below_at (L := r) (i := i) h' (by simpa using e) x
theorem rl_cut (rl : Rl K ρ G H) (h : below n (G.take n) = true) (hn : n ≤ ρ.os.length) : Rl K (ρ.cut n) (G.take n) H := by
  refine ⟨rl.nd.sublist (List.take_sublist _ _), ?_, fun a ha z => rl.dj a ha (List.mem_of_mem_take z), rl.hs, fun i o a h1 h2 => ?_⟩
  · show (G.take n).length = (ρ.os.take n).length
    rw [List.length_take, List.length_take, rl.len]
  · have hi : i < n := by
      have := (List.getElem?_eq_some_iff.mp h1).1
      rw [List.length_take] at this
      omega
    refine below_at h h1 (rl.at_ i o a ?_ ?_)
    · rw [List.getElem?_take_of_lt hi] at h1; exact h1
    · have h2' : (ρ.os.take n)[i]? = some a := h2
      rw [List.getElem?_take_of_lt hi] at h2'
      exact h2'
end
/-- a def that leaves none of its own objects -/
def trim (k : Nat) (f : FM) : FM := fun ds G => match f ds G with
  | .ok d G1 => if below G.length (G1.take G.length) = true then (match frzD G1 G.length (recO G1 G.length k) d with
    | some d' => .ok d' (G1.take G.length)
    | none => .stuck) else .stuck
  | .exc e G1 => if below G.length (G1.take G.length) = true then (match e.f with
    | none => .exc ⟨e.c, none⟩ (G1.take G.length)
    | some (x, d) => (match frzD G1 G.length (recO G1 G.length k) d with
      | some d' => .exc ⟨e.c, some (x, d')⟩ (G1.take G.length)
      | none => .stuck)) else .stuck
  | .stuck => .stuck
theorem step_cut {ρ ρ' : Rho} {H H' : Hp} {n : Nat} (s : Step ρ H ρ' H') (hn : n = ρ.os.length) : Step ρ H (ρ'.cut n) H' ∧ ρ'.cut n = ρ := by
  obtain ⟨t, et⟩ := s.ext
  have e : ρ'.cut n = ρ := by
    unfold Rho.cut
    rw [et, hn, List.take_left, s.hid]
  rw [e]
  exact ⟨⟨⟨[], by simp⟩, rfl, fun a o h1 h2 => ⟨(s.keep a o h1 h2).1, h2⟩, s.kh⟩, rfl⟩
theorem trim_sp {K : PySem.W.Frag} {n k : Nat} {f : FM} {vs : List V} {H : Hp} {Q : VK} {E : XK} (h : spM K n (trim k f) vs H Q E) : spM K n f vs H Q E := by
  obtain ⟨hn, ρ, G, ds, rl, dr, p⟩ := h
  refine ⟨hn, ρ, G, ds, rl, dr, ?_⟩
  unfold trim at p
  revert p
  cases f ds G with
  | stuck => exact fun p => p
  | ok d G1 =>
    intro p ρ' H' v s r dd
    simp only at p
    by_cases hb : below G.length (G1.take G.length) = true
    case neg => rw [if_neg hb] at p; exact p.elim
    rw [if_pos hb] at p
    cases q : frzD G1 G.length (recO G1 G.length k) d with
    | none => rw [q] at p; exact p.elim
    | some d' =>
      rw [q] at p
      obtain ⟨s2, e2⟩ := step_cut s rl.len
      exact p _ H' v s2 (rl_cut r hb (by obtain ⟨t, et⟩ := s.ext; rw [et, rl.len]; simp)) (frzD_rel r (fun i d v hi => recO_rel r k i d v hi) q dd)
  | exc e G1 =>
    intro p ρ' H' c dd s r xx
    simp only at p
    by_cases hb : below G.length (G1.take G.length) = true
    case neg => rw [if_neg hb] at p; exact p.elim
    rw [if_pos hb] at p
    obtain ⟨s2, e2⟩ := step_cut s rl.len
    have r2 := rl_cut r hb (by obtain ⟨t, et⟩ := s.ext; rw [et, rl.len]; simp)
    obtain ⟨x1, x2⟩ := xx
    cases q : e.f with
    | none =>
      rw [q] at p x2
      exact p _ H' c dd s2 r2 ⟨x1, x2⟩
    | some xd =>
      obtain ⟨x, d⟩ := xd
      rw [q] at p x2
      obtain ⟨a, v, y1, y2, y3, y4⟩ := x2
      simp only at p
      cases q2 : frzD G1 G.length (recO G1 G.length k) d with
      | none => rw [q2] at p; exact p.elim
      | some d' =>
        rw [q2] at p
        exact p _ H' c dd s2 r2 ⟨x1, a, v, y1, no_cut y2, y3, frzD_rel r (fun i d v hi => recO_rel r k i d v hi) q2 y4⟩
theorem trim_ok {P : Program} {w : World} {K : PySem.W.Frag} {mg : Str → Option Value} {base : Heap} {CX : CXT} {k j n : Nat} {f : Addr} {fd : FuncData} {ps : List Str} {fm : FM} (F : FnOk P w K mg base CX k f fd ps (spM K n fm)) : FnOk P w K mg base CX k f fd ps (spM K n (trim j fm)) :=
  F.imp fun _ _ _ _ h => trim_sp h

/-! ### calls of the text's own -/
def callM (n : Nat) (f : FM) (ds : List D) : M D := fun _ G => if ds.length = n then f ds G else .stuck
section
variable {X : Cx} {W : Wq} {e : Expr} {es : List Expr} {pos p : Pos} {m : M (List D)} {me : M D}
theorem sp_of {K : PySem.W.Frag} {n : Nat} {f : FM} {ds : List D} {vs : List V} {σ : St} {ρ : Rho} {H : Hp} {l : Sl} {G : Gs} {Q : VK} (p : Pst K W (DRel K) σ ρ H (callM n f ds l G) Q) (rl : Rl K ρ G H) (r : DRels K ρ H ds vs) : spM K n f vs H Q (WE W.w σ) := by
  unfold callM at p
  split at p
  · rename_i hn
    refine ⟨by rw [← r.length]; exact hn, ρ, G, ds, rl, r, ?_⟩
    revert p
    unfold Pst
    cases f ds G <;> exact fun p => p
  · exact p.elim
theorem me_call {x : Str} {k n : Nat} {f : Addr} {fd : FuncData} {ps : List Str} {fm : FM} (F : FnOk X.prog X.w X.K X.mg X.base (L2.CX X.prog X.w) k f fd ps (spM X.K n fm)) (hr : Room k X.A) (hg : Gl X x) (hm : X.mg x = some (.ref f)) (hk : PySem.W.keepIn X.K (.ref f) = true) (hb : Binds X.K fd ps []) (tk : Takes X W.w) (ha : MA X W (e :: es) m)
    (hdb : (x == ("__debug__" : Str)) = false := by decide) (he : starEach (e :: es) X.env = (false, eval e X.env) :: starEach es X.env := by rfl) (hpl : (backTo pos (starEach es X.env)).any (·.1) = false := by rfl) : ME X W (.Call (.Name x p) (e :: es) [] pos) (bnd m (callM n fm)) :=
  (pe_callS F hr hg hm hk hb (fun σ => passAt tk σ) ha hdb he hpl).conv fun σ H Q ⟨ρ, G, ds, rl, sr, hl, p⟩ => la_seq p rl sr hl fun xs H1 ρ1 G1 c s1 r1 sr1 hl1 d1 p1 => sp_of p1 r1 d1
theorem pe_callS0 {CX : CXT} {x : Str} {k : Nat} {f : Addr} {fd : FuncData} {ps : List Str} {sp : Sp} {E : St → XK} (F : FnOk X.prog X.w X.K X.mg X.base CX k f fd ps sp) (hr : Room k X.A) (hg : Gl X x) (hm : X.mg x = some (.ref f)) (hk : PySem.W.keepIn X.K (.ref f) = true) (hb : Binds X.K fd ps []) (hx : ∀ σ, PassesAt CX X σ (E σ))
    (hdb : (x == ("__debug__" : Str)) = false := by decide) : PE X (.Call (.Name x p) [] [] pos) (tCallS sp E tNil) := by
  refine ⟨fun pins s σ H Q I h => ?_⟩
  refine wpAny_Call_Name_kw (ld_glob I hg hm ?_ hdb)
  exact PySem.W.callWith_K0 I.kIn hk (run_fnS (us := []) F hr hb (hx σ) I .nil h)
theorem me_call0 {x : Str} {k n : Nat} {f : Addr} {fd : FuncData} {ps : List Str} {fm : FM} (F : FnOk X.prog X.w X.K X.mg X.base (L2.CX X.prog X.w) k f fd ps (spM X.K n fm)) (hr : Room k X.A) (hg : Gl X x) (hm : X.mg x = some (.ref f)) (hk : PySem.W.keepIn X.K (.ref f) = true) (hb : Binds X.K fd ps []) (tk : Takes X W.w)
    (hdb : (x == ("__debug__" : Str)) = false := by decide) : ME X W (.Call (.Name x p) [] [] pos) (callM n fm []) :=
  (pe_callS0 F hr hg hm hk hb (fun σ => passAt tk σ) hdb).conv fun σ H Q ⟨ρ, G, ds, rl, sr, hl, p⟩ => sp_of p rl rfl

/-! ### methods of built-in types -/
/-- a value of that built-in type, whose methods are asked -/
def tyOk (T : String) (x : D) (G : Gs) : Bool := match x with
  | .str _ => decide (T = "str")
  | x => match lstD G x with
    | some _ => decide (T = "list")
    | none => false
def chk {α : Type} (c : Gs → Bool) (m : M α) : M α := fun ds G => if c G = true then m ds G else .stuck
/-- an answer and the objects behind it -/
def lof (f : Gs → Option (D × Gs)) : M D := fun _ G => match f G with
  | some (d, G1) => .ok d G1
  | none => .stuck
theorem lof_inv {K : PySem.W.Frag} {σ : St} {ρ H} {f : Gs → Option (D × Gs)} {ds : Sl} {G} {Q : VK} (p : Pst K W (DRel K) σ ρ H (lof f ds G) Q) :
    ∃ d G1, f G = some (d, G1) ∧ ∀ ρ' H' v, Step ρ H ρ' H' → Rl K ρ' G1 H' → DRel K ρ' H' d v → Q v H' := by
  unfold lof at p
  revert p
  cases f G with
  | none => exact False.elim
  | some d => exact fun p => ⟨d.1, d.2, rfl, p⟩
def rMt (K : PySem.W.Frag) (f : D → List D → Gs → Option (D × Gs)) : V → List V → Hp → VK → Prop := fun x xs H Q => ∃ ρ G a as d G1, Rl K ρ G H ∧ DRel K ρ H a x ∧ DRels K ρ H as xs ∧ f a as G = some (d, G1) ∧
  ∀ ρ' H' v, Step ρ H ρ' H' → Rl K ρ' G1 H' → DRel K ρ' H' d v → Q v H'
theorem tyOk_at {K : PySem.W.Frag} {ρ : Rho} {G : Gs} {H : Hp} {T : String} {d : D} {v : V} (rl : Rl K ρ G H) (h : tyOk T d G = true) (r : DRel K ρ H d v) : tyV K T v H := by
  unfold tyOk at h
  split at h
  · obtain rfl : v = _ := r
    have e : T = "str" := of_decide_eq_true h
    exact e
  · split at h
    · rename_i ds e
      obtain ⟨a, xs, rfl, h1, h2⟩ := lst_at rl e r
      exact .inl ⟨of_decide_eq_true h, xs, .of h1⟩
    · cases h
theorem chk_inv {K : PySem.W.Frag} {α β : Type} {Rel : Rho → Hp → α → β → Prop} {σ : St} {ρ : Rho} {H : Hp} {c : Gs → Bool} {m : M α} {ds : Sl} {G : Gs} {Q : β → Hp → Prop} (p : Pst K W Rel σ ρ H (chk c m ds G) Q) : c G = true ∧ Pst K W Rel σ ρ H (m ds G) Q := by
  unfold chk at p
  split at p
  · exact ⟨by assumption, p⟩
  · exact p.elim
variable {o : Expr} {mo : M D} {name : Str} {apos cpos : Pos} {T id : String} {f : D → List D → Gs → Option (D × Gs)}
theorem me_bm (pa : PlainAttrs T) (slot : Slot T name id) (hty : typeOf (.builtin id) = pure (.type "method_descriptor")) (hm : MtR X id (rMt X.K f)) (ho : ME X W o mo) (ha : MA X W (e :: es) m)
    (hbase : attributeBase o name X.env (eval o X.env) = eval o X.env := by rfl)
    (hfew : ((backTo cpos (starEach (e :: es) X.env)).all (fun x => !x.1) && (backToKw cpos (keywordEach [] X.env)).all (fun x => x.1.isSome)
      && decide ((e :: es).length + ([] : List Keyword).length + (if ([] : List Keyword).isEmpty then 0 else 1) < 30)) = true := by rfl)
    (hline : (apos.endLine == cpos.line) = true := by rfl) (hs : starEach (e :: es) X.env = (false, eval e X.env) :: starEach es X.env := by rfl) (hplain : (backTo cpos (starEach es X.env)).any (·.1) = false := by rfl) :
    ME X W (.Call (.Attribute o name apos) (e :: es) [] cpos) (bnd mo fun x => chk (tyOk T x) (bnd m fun ds => lof (f x ds))) := (pe_bm pa slot hty hm ho ha hbase hfew hline hs hplain).conv fun σ H Q ⟨ρ, G, ds, rl, sr, hl, p⟩ => by
  refine le_seq p rl sr hl fun x H1 ρ1 G1 c s1 r1 sr1 hl1 d1 p1 => ?_
  obtain ⟨hc, p1⟩ := chk_inv p1
  refine ⟨tyOk_at r1 hc d1, la_seq p1 r1 sr1 hl1 fun xs H2 ρ2 G2 as s2 r2 sr2 hl2 d2 p2 => ?_⟩
  obtain ⟨d', G', e, q⟩ := lof_inv p2
  exact ⟨ρ2, G2, c, as, d', G', r2, d1.step s2, d2, e, q⟩
theorem me_bm0 (pa : PlainAttrs T) (slot : Slot T name id) (hty : typeOf (.builtin id) = pure (.type "method_descriptor")) (hm : MtR X id (rMt X.K f)) (ho : ME X W o mo)
    (hbase : attributeBase o name X.env (eval o X.env) = eval o X.env := by rfl) (hline : (apos.endLine == cpos.line) = true := by rfl) :
    ME X W (.Call (.Attribute o name apos) [] [] cpos) (bnd mo fun x => chk (tyOk T x) (lof (f x []))) := (pe_bm0 pa slot hty hm ho hbase hline).conv fun σ H Q ⟨ρ, G, ds, rl, sr, hl, p⟩ => by
  refine le_seq p rl sr hl fun x H1 ρ1 G1 c s1 r1 sr1 hl1 d1 p1 => ?_
  obtain ⟨hc, p1⟩ := chk_inv p1
  obtain ⟨d', G', e, q⟩ := lof_inv p1
  exact ⟨tyOk_at r1 hc d1, ρ1, G1, c, [], d', G', r1, d1, rfl, e, q⟩
/-- the list that is changed -/
def objL (G : Gs) (x : D) : Option (Nat × List D) := match x with
  | .obj i => (match G[i]? with
    | some (.lst ds) => some (i, ds)
    | _ => none)
  | _ => none
theorem objL_at {K : PySem.W.Frag} {ρ : Rho} {G : Gs} {H : Hp} {d : D} {v : V} {i : Nat} {ds : List D} (rl : Rl K ρ G H) (h : objL G d = some (i, ds)) (r : DRel K ρ H d v) :
    ∃ a xs, v = .ref a ∧ H a = some (.lst xs) ∧ DRels K ρ H ds xs ∧ ρ.os[i]? = some a ∧ a ∈ ρ.os ∧ ∀ ds' xs', DRels K ρ H ds' xs' → Rl K ρ (G.set i (.lst ds')) (upd H a (.lst xs')) := by
  unfold objL at h
  split at h
  · rename_i j
    cases q : G[j]? with
    | none => rw [q] at h; cases h
    | some ob =>
      rw [q] at h
      cases ob with
      | lst es =>
        cases h
        obtain ⟨a, h1, rfl⟩ := r
        obtain ⟨xs, h2, h3⟩ := rl.at_ _ _ a q h1
        have hm := List.mem_of_getElem? h1
        refine ⟨a, xs, rfl, h2, h3, h1, hm, fun ds' xs' h4 => rl.write h1 ⟨xs', upd_same, h4.step (step_write rl hm)⟩⟩
      | _ => cases h
  · cases h
def appendF : D → List D → Gs → Option (D × Gs) := fun x ds G => match objL G x, ds with
  | some (i, es), [d] => if es.length < sizeLine then some (.non, G.set i (.lst (es ++ [d]))) else none
  | _, _ => none
theorem mAppend : MtR X "list.append" (rMt X.K appendF) := by
  intro pins s σ H x xs v us Q I rx rs ⟨ρ, G, a, as, d, G1, rl, ha, hs, e, q⟩
  unfold appendF at e
  split at e
  · split at e
    · cases e
      rename_i i es d e1 hz
      obtain ⟨p, ys, rfl, h1, h2, h3, h4, h5⟩ := objL_at rl e1 ha
      obtain ⟨v1, r1, rfl, d1, e2⟩ := hs
      cases e2
      exact mt_append _ _ _ _ _ _ _ _ _ I rx rs ⟨p, ys, v1, rfl, rfl, h1, by rw [← h2.length]; exact hz, q ρ _ _ (step_write rl h4) (h5 _ _ (h2.append (drels_one d1))) rfl⟩
    · cases e
  · cases e
def extendF : D → List D → Gs → Option (D × Gs) := fun x ds G => match objL G x, ds with
  | some (i, es), [d] => (match lstD G d with
    | some fs => if es.length + fs.length ≤ sizeLine then some (.non, G.set i (.lst (es ++ fs))) else none
    | none => none)
  | _, _ => none
theorem mExtend : MtR X "list.extend" (rMt X.K extendF) := by
  intro pins s σ H x xs v us Q I rx rs ⟨ρ, G, a, as, d, G1, rl, ha, hs, e, q⟩
  unfold extendF at e
  split at e
  · split at e
    · split at e
      · cases e
        rename_i i es d e1 _ fs e3 hz
        obtain ⟨p, ys, rfl, h1, h2, h3, h4, h5⟩ := objL_at rl e1 ha
        obtain ⟨v1, r1, rfl, d1, e2⟩ := hs
        cases e2
        obtain ⟨b, zs, rfl, k1, k2⟩ := lst_at rl e3 d1
        exact mt_extend _ _ _ _ _ _ _ _ _ I rx rs ⟨p, b, ys, zs, rfl, rfl, h1, k1, by rw [← h2.length, ← k2.length]; exact hz, q ρ _ _ (step_write rl h4) (h5 _ _ (h2.append k2)) rfl⟩
      · cases e
    · cases e
  · cases e
theorem DRels.dropLast {K : PySem.W.Frag} {ρ : Rho} {H : Hp} {ds : List D} {xs : List V} (h : DRels K ρ H ds xs) : DRels K ρ H ds.dropLast xs.dropLast := by
  rw [List.dropLast_eq_take, List.dropLast_eq_take, h.length]
  exact h.take _
theorem DRels.eraseIdx {K : PySem.W.Frag} {ρ : Rho} {H : Hp} {ds : List D} {xs : List V} (h : DRels K ρ H ds xs) (k : Nat) : DRels K ρ H (ds.eraseIdx k) (xs.eraseIdx k) := by
  rw [List.eraseIdx_eq_take_drop_succ, List.eraseIdx_eq_take_drop_succ]
  exact (h.take _).append (h.drop _)
/-- l.pop(), l.pop(k) -/
def popG (i : Nat) (es : List D) (G : Gs) : List D → Option (D × Gs)
  | [] => (es[es.length - 1]?).map fun d => (d, G.set i (.lst es.dropLast))
  | [.int k] => if -(2 ^ 63) ≤ k ∧ k < 2 ^ 63 then (ixN es.length k).bind fun j => (es[j]?).map fun d => (d, G.set i (.lst (es.eraseIdx j))) else none
  | _ => none
def popF : D → List D → Gs → Option (D × Gs) := fun x ds G => (objL G x).bind fun p => popG p.1 p.2 G ds
theorem mPop : MtR X "list.pop" (rMt X.K popF) := by
  intro pins s σ H x xs v us Q I rx rs ⟨ρ, G, a, as, d, G1, rl, ha, hs, e, q⟩
  unfold popF at e
  cases e1 : objL G a with
  | none => rw [e1] at e; cases e
  | some p =>
    obtain ⟨i, es⟩ := p
    rw [e1, Option.bind_some] at e
    obtain ⟨p, ys, rfl, h1, h2, h3, h4, h5⟩ := objL_at rl e1 ha
    simp only at e
    unfold popG at e
    split at e
    · cases e3 : es[es.length - 1]? with
      | none => rw [e3] at e; cases e
      | some d' =>
        rw [e3] at e
        cases e
        cases hs
        obtain ⟨w, e4, e5⟩ := h2.get e3
        rw [h2.length] at e4
        exact mt_pop _ _ _ _ _ _ _ _ _ I rx rs ⟨p, ys, w, rfl, rfl, h1, e4, q ρ _ _ (step_write rl h4) (h5 _ _ h2.dropLast) (e5.step (step_write rl h4))⟩
    · rename_i k
      split at e
      · rename_i hk
        cases e3 : ixN es.length k with
        | none => rw [e3] at e; cases e
        | some j =>
          rw [e3, Option.bind_some] at e
          cases e4 : es[j]? with
          | none => rw [e4] at e; cases e
          | some d' =>
            rw [e4] at e
            cases e
            obtain ⟨v1, r1, rfl, d1, e2⟩ := hs
            cases e2
            cases d1
            obtain ⟨w, e5, e6⟩ := h2.get e4
            obtain ⟨k1, _, _, _⟩ := ixN_seq e3
            exact mt_popAt _ _ _ _ _ _ _ _ _ I rx rs ⟨p, ys, k, j, w, rfl, rfl, h1, hk.1, hk.2, by rw [← h2.length]; exact k1, e5, q ρ _ _ (step_write rl h4) (h5 _ _ (h2.eraseIdx j)) (e6.step (step_write rl h4))⟩
      · cases e
    · cases e

/-! ### o[i] = v -/
def setIx (o i v : D) : MS := fun ds G => match objL G o, i with
  | some (j, es), .int k => (match ixN es.length k with
    | some n => .nx ds (G.set j (.lst (es.set n v)))
    | none => .stuck)
  | _, _ => .stuck
theorem ms_setix {i : Expr} {tpos : Pos} {mi : M D} (he : ME X W e me) (ho : ME X W o mo) (hi : ME X W i mi)
    (ha : ∀ v, assign (.Subscript o i tpos) X.env v = (do
      let ov ← holding [v] (eval o X.env)
      let iv ← holding [v, ov] (eval i X.env)
      standAt tpos
      holding [v, ov, iv] (setItem ov iv v)
      release [v, ov, iv] []) := by intro _; rfl)
    (hs : swapsWithSole [.Subscript o i tpos] e pos.line X.env = pure false := by rfl) (hw : swappedStores [.Subscript o i tpos] e X.env = pure none := by rfl)
    (h1 : (assignEach [.Subscript o i tpos] X.env).map (·.2) = [assign (.Subscript o i tpos) X.env] := by rfl) :
    MSt X W (.Assign [.Subscript o i tpos] e pos) (bndS me fun v => bndS mo fun x => bndS mi fun y => setIx x y v) := (ps_asg he (pg_sub ho hi set_list ha) hs hw h1).conv fun σ H Q ⟨ρ, G, ds, rl, sr, hl, p⟩ => by
  refine le_seqS p rl sr hl fun v H1 ρ1 G1 a s1 r1 sr1 hl1 d1 p1 => ?_
  refine le_seqS p1 r1 sr1 hl1 fun x H2 ρ2 G2 b s2 r2 sr2 hl2 d2 p2 => ?_
  refine le_seqS p2 r2 sr2 hl2 fun y H3 ρ3 G3 c s3 r3 sr3 hl3 d3 p3 => ?_
  unfold setIx at p3
  split at p3
  · split at p3
    · rename_i j es k e1 _ n e3
      obtain ⟨q, ys, rfl, h1, h2, h3, h4, h5⟩ := objL_at r3 e1 (d2.step s3)
      obtain rfl : y = _ := d3
      have st := step_write (o := .lst (ys.set n v)) r3 h4
      exact ⟨q, ys, k, n, rfl, rfl, h1, by rw [← h2.length]; exact e3, p3 ρ3 _ σ st (h5 _ _ (h2.set n ((d1.step s2).step s3))) (sr3.step st) (hl3.step st) rfl⟩
    · exact p3.elim
  · exact p3.elim
end
end M3
end L2

set_option Elab.async false
set_option linter.all false
set_option maxRecDepth 100000
set_option maxHeartbeats 2000000
/-! M3h: own errors whose __init__ is super().__init__('m'); self.f = f. -/
namespace PySem
namespace SupX
open PySem.W PySem.Calls PyProof.Rows PySem.HandSPX
def iA (fld : Str) (p1 p2 : Pos) : Arguments := { posonlyargs := [], args := [{ arg := "self", annotation := none, pos := p1 }, { arg := fld, annotation := none, pos := p2 }], vararg := none, kwonlyargs := [], kw_defaults := [], kwarg := none, defaults := [] }
def iB (fld msg : Str) (q1 q2 q3 q4 q5 q6 r1 r2 r3 r4 : Pos) : List Stmt := [.Expr (.Call (.Attribute (.Call (.Name "super" q1) [] [] q2) "__init__" q3) [.Constant (.str msg) 0 q4] [] q5) q6, .Assign [.Attribute (.Name "self" r1) fld r2] (.Name fld r3) r4]
def iS (fld : Str) : Scope := { kind := .function, names := [(PySem.Str.ofString "self", .local), (fld, .local), (PySem.Str.ofString "__class__", .free), (PySem.Str.ofString "super", .globalImplicit)], isGenerator := false, isCoroutine := false, more := [] }
/-- what the written part says of the class at C and of its __init__, at fI -/
structure SupTxt (P : Program) (K : Frag) (mg : Str → Option Value) (C fI : Addr) (fld : Str) : Prop where
  cls : ∃ nm q N bs bm sn sub ab col dd k0 k1 k2 k3 k5, K.lookup C = some (excClassObj nm q C N bs bm true sn sub ab col dd k0 k1 k2 k3 k5 "ValueError.__new__") ∧ refsVE bm = true
  sa : findIn K (.ref C) "__setattr__" = some (some (.builtin "object.__setattr__"))
  ga : findIn K (.ref C) "__getattribute__" = some (some (.builtin "BaseException.__getattribute__"))
  gg : findIn K (.ref C) "__getattr__" = some none
  noN : findIn K (.ref C) fld = some none
  iC : findIn K (.ref C) "__init__" = some (some (.ref fI))
  tC : typeIn K (.ref fI) = some (.type "function")
  kC : keepIn K (.ref C) = true
  exC : subIn K (.ref C) (.type "BaseException") = some true
  tyC : typeIn K (.ref C) = some (.type "type")
  hdC : hasDictIn K C = true
  sup : ks_superIn K C C "__init__" = some (some (.builtin "ValueError.__init__"))
  veC : subIn K (.ref C) (.type "ValueError") = some true
  mroC : mroIn K C (.ref C) = some true
  op : nsIn K cStatics "thirdparty.any" = some none
  noS : mg "super" = none
  top : (P.main.scope.names.lookup ("super" : Str)).isSome = false
  f1 : fld ≠ "self"
  f2 : fld ≠ "super"
  f3 : fld ≠ "__class__"
  f4 : (fld == ("__debug__" : Str)) = false
  bd : ∀ (qual msg : Str) (doc pm : Value) (an : Option Addr) (cda : Addr) (ct : Value) (cc : Addr) (p1 p2 q1 q2 q3 q4 q5 q6 r1 r2 r3 r4 : Pos) (x v : Value), bindArgs (ksFn "__init__" qual (iA fld p1 p2) (iB fld msg q1 q2 q3 q4 q5 q6 r1 r2 r3 r4) (iS fld) .none .none doc pm an (.ref cda) ct cc) ⟨[x, v], []⟩ = pure [(("self" : Str), x), (fld, v)]
  fn : ∃ (oc : Value) (od : Option Addr) (doc pm : Value) (an : Option Addr) (cda : Addr) (ct : Value) (osl : Array (Option Value)) (cc : Addr) (qual msg : Str) (p1 p2 q1 q2 q3 q4 q5 q6 r1 r2 r3 r4 : Pos),
    K.lookup fI = some ⟨oc, od, .func (ksFn "__init__" qual (iA fld p1 p2) (iB fld msg q1 q2 q3 q4 q5 q6 r1 r2 r3 r4) (iS fld) .none .none doc pm an (.ref cda) ct cc), osl⟩ ∧ codeIn K (.ref cda) qual = true ∧ (q3.endLine == q5.line) = true ∧
    (∃ (ccl : Value) (cdd : Option Addr) (vs : Array Value) (ccs : Array (Option Value)) (file : Str) (tf : Tok), K.lookup cda = some ⟨ccl, cdd, .fields vs, ccs⟩ ∧ vs[2]? = some (.str file tf) ∧ ((P.main.file : Str) == file) = true) ∧
    ∃ (cl : Value) (cld : Option Addr) (csl : Array (Option Value)), K.lookup cc = some ⟨cl, cld, .cell (some (.ref C)), csl⟩
theorem mcall {prog : Program} {w : World} {A : Around} {c : Code} {E : Value → Shared → Prop} {s : Shared} {env : Env} {o : Expr} {name : Str} {apos pos : Pos} {args : List Expr} {Q : Value → Shared → Prop}
    (hform : methodCallForm (args.length + ([] : List Keyword).length) (backTo pos (starEach args env)) (backToKw pos (keywordEach [] env)) = true) (hline : (apos.endLine == pos.line) = true)
    (h : _root_.PySem.wpAt (model prog w) A c (attributeBase o name env (eval o env)) (fun ov s₁ => ∀ pl, wpAny (model prog w) A (getMethod ov name pl) (fun fx s₂ => wpAny (model prog w) A (callWith pos fx.1 fx.2 (backTo pos (starEach args env)) []) Q E s₂) E s₁) E s) :
    _root_.PySem.wpAt (model prog w) A c (eval (.Call (.Attribute o name apos) args [] pos) env) Q E s := by
  have hpos : methodCallPos true o env apos pos = pure pos := by unfold methodCallPos; simp [hline]
  rw [arm_eval_Call]
  refine wpAt_bind (ks_wpAt_mono h (fun ov s₁ h₁ => wpAt_of_wpAny (wpAny_bind (wpAny_standAt ?_))) fun _ _ x => x)
  unfold methodCall
  rw [hform]
  refine wpAny_bind (wpAny_holding (wpAny_mono (h₁ _) (fun fx s₂ h₂ => ?_) fun _ _ x => x))
  exact wpAny_bind (wpAny_of_eq hpos h₂)
theorem kept_but {K : Frag} {h h' : Heap} {x : Addr} (X : K.In h) (hx : K.lookup x = none) (k : ∀ b o, b ≠ x → h.get? b = some o → h'.get? b = some o) : K.In h' := fun a o e =>
  k a o (fun z => by rw [z, hx] at e; cases e) (X a o e)
theorem one_size (v : Value) : [v].length ≤ sizeLine := by
  rw [sizeLine_eq]
  exact (by decide : 1 ≤ 16777216)
/-- what __init__ leaves of a fresh exception at x -/
structure InitEnd (h h' : Heap) (x C dx t1 : Addr) (fld : Str) (v : Value) : Prop where
  keep : ∀ b o, b ≠ x → h.get? b = some o → h'.get? b = some o
  obj : h'.get? x = some { cls := .ref C, dict := some dx, data := .fields #[.ref t1, .none, .none, .none, .bool false, .none] }
  dbig : h.objs.size ≤ dx
  dne : dx ≠ x
  ns : h'.Ns1 dx (fun y => if y = fld then some v else none)
/-- a made error -/
structure OwnMade (h h' : Heap) (e C d : Addr) (fld : Str) (v : Value) : Prop where
  keep : ∀ b o, h.get? b = some o → h'.get? b = some o
  new : h.objs.size ≤ e
  obj : ∃ oe vs, h'.get? e = some oe ∧ oe.cls = .ref C ∧ oe.dict = some d ∧ oe.data = .fields vs ∧ vs[1]? = some .none
  dbig : h.objs.size ≤ d
  dne : d ≠ e
  ns : h'.Ns1 d (fun y => if y = fld then some v else none)
section
variable {prog : Program} {w : World} {A : Around} {E : Value → Shared → Prop} {R : Result → Shared → Prop} {s : Shared} {K : Frag} {mg mb : Str → Option Value} {C fI : Addr} {fld : Str}
theorem sup_init (T : SupTxt prog K mg C fI fld) {x t0 : Addr} {v : Value} (X : K.In s.heap) (hG : s.heap.Ns mainGlobals mg) (hB : s.heap.Ns builtinsNs mb) (hb : mb "super" = some (.type "super")) (hlim : s.heap.NoLimit) (hx : s.heap.get? x = some (excO C t0)) (hnx : K.lookup x = none) (hroom : A.depth < recursionLimit)
    (hq : ∀ h' tk dx t1, InitEnd s.heap h' x C dx t1 fld v → R (.ok (.ret .none)) { s with heap := h', toks := tk }) :
    codeAny (model prog w) A (.call (.ref fI) ⟨[.ref x, v], []⟩) R s := by
  obtain ⟨oc, od, doc, pm, an, cda, ct, osl, cc, qual, msg, p1, p2, q1, q2, q3, q4, q5, q6, r1, r2, r3, r4, ho, hcd, hline, ⟨ccl, cdd, vs, ccs, file, tf, hco, hvs, hfile⟩, cl, cld, csl, hcell⟩ := T.fn
  obtain ⟨nm, q, N, bs, bm, sn, sub, ab, col, dd, k0, k1, k2, k3, k5, hC, hbm⟩ := T.cls
  have hcl : clsIn K C = some { name := nm, bases := bs, mro := .ref C :: bm, ns := N, qualname := q, hasDict := true, slotNames := sn, subclasses := sub, abstract := ab, collection := col, hasDel := false } := by unfold clsIn; rw [hC] <;> rfl
  have l1 : List.lookup ("self" : Str) (iS fld).names = some NameKind.local := by simp [iS, List.lookup]
  have l2 : List.lookup fld (iS fld).names = some NameKind.local := by
    have e : (fld == ("self" : Str)) = false := by simpa using T.f1
    have e' : (fld == PySem.Str.ofString "self") = false := e
    simp [iS, List.lookup, e']
  have l3 : List.lookup ("__class__" : Str) (iS fld).names = some NameKind.free := by
    have e : (("__class__" : Str) == fld) = false := by simpa using Ne.symm T.f3
    have e' : (PySem.Str.ofString "__class__" == fld) = false := e
    show List.lookup ("__class__" : Str) [(PySem.Str.ofString "self", NameKind.local), (fld, NameKind.local), (PySem.Str.ofString "__class__", NameKind.free), (PySem.Str.ofString "super", NameKind.globalImplicit)] = _
    rw [List.lookup_cons, show (("__class__" : Str) == PySem.Str.ofString "self") = false by decide]
    dsimp only
    rw [List.lookup_cons, e]
    rfl
  have l4 : List.lookup ("super" : Str) (iS fld).names = some NameKind.globalImplicit := by
    have e : (("super" : Str) == fld) = false := by simpa using Ne.symm T.f2
    show List.lookup ("super" : Str) [(PySem.Str.ofString "self", NameKind.local), (fld, NameKind.local), (PySem.Str.ofString "__class__", NameKind.free), (PySem.Str.ofString "super", NameKind.globalImplicit)] = _
    rw [List.lookup_cons, show (("super" : Str) == PySem.Str.ofString "self") = false by decide]
    dsimp only
    rw [List.lookup_cons, e]
    rfl
  refine ks_codeAny_call_defAt (fd := ksFn "__init__" qual (iA fld p1 p2) (iB fld msg q1 q2 q3 q4 q5 q6 r1 r2 r3 r4) (iS fld) .none .none doc pm an (.ref cda) ct cc) (body := iB fld msg q1 q2 q3 q4 q5 q6 r1 r2 r3 r4) (binds := [("self", .ref x), (fld, v)]) hroom (X _ _ ho) rfl hlim (codeRec_of X hcd) rfl ?_ ?_ ?_ (fun h₁ hn k => ?_) rfl rfl rfl
  · exact BindsTo.of_eq (T.bd _ _ _ _ _ _ _ _ _ _ _ _ _ _ _ _ _ _ _ _ _ _)
  · intro y hy
    simp only [iS, List.mem_cons, List.not_mem_nil, or_false] at hy
    rcases hy with rfl | rfl | rfl | rfl <;> (intro z; cases z)
  · intro y hy
    simp only [List.mem_cons, List.not_mem_nil, or_false] at hy
    rcases hy with rfl | rfl
    · exact l1
    · exact l2
  · have X₁ : K.In h₁ := X.keeps k
    have hx₁ := k _ _ hx
    have hns : h₁.Ns s.heap.objs.size (fun y => List.lookup y [(fld, v), ("self", .ref x)]) := hn
    have lx : List.lookup ("self" : Str) [(fld, v), ("self", Value.ref x)] = some (.ref x) := by
      have e : (("self" : Str) == fld) = false := by simpa using Ne.symm T.f1
      rw [List.lookup_cons, e]
      rfl
    have lv : List.lookup fld [(fld, v), ("self", Value.ref x)] = some v := by simp [List.lookup]
    show _root_.PySem.wpAt (model prog w) (A.deeper (ksEnv qual (iS fld) s.heap.objs.size fI (.ref cda) cc)) (.func (iB fld msg q1 q2 q3 q4 q5 q6 r1 r2 r3 r4) (ksEnv qual (iS fld) s.heap.objs.size fI (.ref cda) cc)) _ _ _ _
    refine ks_wpAt_execs_cons (ks_wpAt_Expr_any (mcall rfl hline (ks_wpAt_super_base (f := fI) (cc := cda) (ar := { arg := "self", annotation := none, pos := p1 }) l4 l3 (by decide) rfl (X₁ _ _ ho) rfl rfl rfl (X₁ _ _ hco) rfl hvs hfile T.top ?_)) rfl rfl)
    have keepC : h₁.get? C = some (excClassObj nm q C N bs bm true sn sub ab col dd k0 k1 k2 k3 k5 "ValueError.__new__") := X₁ _ _ hC
    refine ks_loadName_global rfl l4 (loadGlobal_builtin (env := ksEnv qual (iS fld) s.heap.objs.size fI (.ref cda) cc) (hG.keeps k) T.noS (hB.keeps k) hb ⟨rfl, ?_⟩)
    refine wpAny_loadName_free rfl l3 rfl ⟨_, X₁ _ _ hcell, rfl⟩ ?_
    refine wpAny_loadName_local rfl l1 hns lx ?_
    obtain ⟨hp0, g, d, tk0, os⟩ := s
    refine ks_wpAny_isType_cls keepC rfl ⟨rfl, ?_⟩
    have I : InstAt h₁ x (excO C t0) C none := ⟨hx₁, rfl, rfl, trivial⟩
    have hxC : x ≠ C := ks_ne X₁ I hcl
    refine ks_wpAny_call_super keepC rfl hx₁ rfl (fun c e => by cases e) (looks_mroIn X₁ T.mroC) (fun h2 e2 kk2 => ?_)
    have X2 : K.In h2 := X₁.keeps kk2
    have I2 : InstAt h2 x (excO C t0) C none := ⟨kk2 _ _ hx₁, rfl, rfl, trivial⟩
    have hm := T.sup
    unfold ks_superIn at hm
    rw [hcl] at hm
    intro pl
    refine kxs_getMethod kxs_ValueError e2 (looks_opaque X2 T.op) (l₀ := .ref C :: bm) (fun A Q E s k q => wpAny_bind ((looks_clsIn X2 hcl) A _ E s k (wpAny_pure q))) rfl X2 hm (I2.type.andThen (looks_subIn X2 T.veC)) hxC (by decide) ?_
    have hu : (h2.push (kxs_mw "ValueError.__init__" x)).get? h2.objs.size = some (kxs_mw "ValueError.__init__" x) := Heap.get?_push_size h2 rfl
    have kk3 : ∀ b o, h2.get? b = some o → (h2.push (kxs_mw "ValueError.__init__" x)).get? b = some o := fun b o e => Heap.get?_push_of_some _ e
    refine kxs_callWith (i := "ValueError.__init__") (x := x) rfl (evalArgs_plain ?_)
    show wpAny _ _ (spliced ((false, eval (.Constant (.str msg) 0 q4) _) :: [])) _ _ _
    refine Calls.spliced_cons (Calls.Constant_str ?_)
    refine Calls.spliced_nil ⟨hu, ?_⟩
    refine wpAny_call (codeAny_of_tree ?_)
    show wpAny _ _ (callAny (.ref h2.objs.size) ⟨[.str msg _], []⟩) _ _ _
    simp only [callAny]
    refine wpAny_bind (wpAny_load hu ?_)
    simp only [kxs_mw, show (Value.type "method-wrapper" == Value.type "method" || Value.type "method-wrapper" == Value.type "builtin_function_or_method" || Value.type "method-wrapper" == Value.type "method-wrapper") = true by decide, if_true]
    refine KFB.if_so (by decide) ?_
    have hC3 := kk3 _ _ (kk2 _ _ keepC)
    have hx3 := kk3 _ _ (kk2 _ _ hx₁)
    refine wpAny_bind (check_bound_init F.excBase_ValueError.toExcCallFacts hC3 hx3 rfl ?_)
    refine wpAny_bind (wpAny_pure (wpAny_pure ?_))
    refine ⟨plainId_quiet F.excBase_ValueError.init.plain _, codeAny_builtin F.excBase_ValueError.initEntry ?_⟩
    refine exc_init_tree (cls := .ref C) (t0 := t0) (dv := none) (c2 := .none) (c3 := .none) (b4 := .bool false) hx3 (one_size _) fun h4 k4 e4 t4 => ?_
    have k5 : ∀ b o, b ≠ x → hp0.get? b = some o → h4.get? b = some o := fun b o hb e => k4 b o hb (kk3 _ _ (kk2 _ _ (k _ _ e)))
    have X4 : K.In h4 := kept_but X hnx k5
    have hns4 : h4.Ns hp0.objs.size (fun y => List.lookup y [(fld, v), ("self", .ref x)]) := by
      obtain ⟨oL, es, ep, hL, r⟩ := hns
      exact ⟨oL, es, ep, k4 _ _ (Nat.ne_of_gt (Heap.lt_size hx)) (kk3 _ _ (kk2 _ _ hL)), r⟩
    have hLlt : hp0.objs.size < h4.objs.size := hns4.lt
    show _root_.PySem.wpAt (model prog w) (A.deeper (ksEnv qual (iS fld) hp0.objs.size fI (.ref cda) cc)) _ (execs [.Assign [.Attribute (.Name "self" r1) fld r2] (.Name fld r3) r4] (ksEnv qual (iS fld) hp0.objs.size fI (.ref cda) cc)) _ _ ⟨h4, g, d, _, os⟩
    refine wpAt_of_wpAny (wpAny_execs_cons (plainObj_wpAny_Assign_Attribute ?_))
    refine wpAny_Name (wpAny_loadName_local rfl l2 hns4 lv ?_) T.f4
    refine wpAny_Name (wpAny_loadName_local rfl l1 hns4 lx ?_) (by decide)
    refine set_plain X4 (ox := excO C (h2.push (kxs_mw "ValueError.__init__" x)).objs.size) (od := none) ⟨e4, rfl, rfl, trivial⟩ T.sa ?_
    refine exc_osa X4 e4 hcl (show refsVE (.ref C :: bm) = true from hbm) rfl T.noN (fun h₃ tk₃ dx k₃ dn dne hx₃ hn₃ => ?_)
    show wpAny _ _ (execs _ _) _ _ _
    exact wpAny_execs_nil (hq h₃ tk₃ dx _ ⟨fun b o hb e => k₃ b o hb (k5 b o hb e), hx₃, Nat.le_of_lt (Nat.lt_of_lt_of_le hLlt dn), dne, hn₃⟩)
theorem sup_made (T : SupTxt prog K mg C fI fld) {v : Value} (X : K.In s.heap) (hG : s.heap.Ns mainGlobals mg) (hB : s.heap.Ns builtinsNs mb) (hb : mb "super" = some (.type "super")) (hlim : s.heap.NoLimit) (hroom : A.depth + 1 < recursionLimit)
    (hq : ∀ h' tk e d, OwnMade s.heap h' e C d fld v → R (.ok (.ret (.ref e))) { s with heap := h', toks := tk }) :
    codeAny (model prog w) A (.call (.ref C) ⟨[v], []⟩) R s := by
  obtain ⟨nm, q, N, bs, bm, sn, sub, ab, col, dd, k0, k1, k2, k3, k5, hC, hbm⟩ := T.cls
  obtain ⟨hp, g, dr, tk, os⟩ := s
  have k : ∀ b o, hp.get? b = some o → ((hp.push (kdv_tup [v])).push (excO C hp.objs.size)).get? b = some o := fun b o e => Heap.get?_push_of_some _ (Heap.get?_push_of_some _ e)
  have hget : ((hp.push (kdv_tup [v])).push (excO C hp.objs.size)).get? (hp.objs.size + 1) = some (excO C hp.objs.size) := by heap_get
  have hnx : K.lookup (hp.objs.size + 1) = none := by
    cases e : K.lookup (hp.objs.size + 1) with
    | none => rfl
    | some o =>
      have z : hp.get? (hp.objs.size + 1) = some o := X _ _ e
      exact absurd (Nat.lt_of_succ_lt (Heap.lt_size z)) (Nat.lt_irrefl _)
  refine call_own F.excBase_ValueError (fun X => refsVE_contains X bm hbm) (X _ _ hC) (looks_findIn X T.iC) (fun self => bind_fn X self T.tC) (one_size v) ?_
  refine sup_init (s := ⟨(hp.push (kdv_tup [v])).push (excO C hp.objs.size), g, dr, tk, os⟩) T (X.keeps k) (hG.keeps k) (hB.keeps k) hb (hlim.keeps k) hget hnx ?_ fun h' tk' dx t1 ⟨k', hx, dn, dne, hns⟩ => ?_
  · show A.depth + 1 < recursionLimit
    exact hroom
  · have old : ∀ b o, hp.get? b = some o → h'.get? b = some o := fun b o e => k' b o (Nat.ne_of_lt (Nat.lt_succ_of_lt (Heap.lt_size e))) (k b o e)
    have z : hp.objs.size + 1 + 1 ≤ dx := by
      first
        | (simpa only [Heap.size_push] using dn)
        | exact dn
        | (have q := dn; rw [Heap.size_push, Heap.size_push] at q; exact q)
    exact ⟨rfl, hq h' tk' (hp.objs.size + 1) dx ⟨old, Nat.le_succ _, ⟨_, _, hx, rfl, rfl, rfl, rfl⟩, Nat.le_trans (Nat.le_trans (Nat.le_succ _) (Nat.le_succ _)) z, dne, hns⟩⟩
end
theorem bd_index : ∀ (qual msg : Str) (doc pm : Value) (an : Option Addr) (cda : Addr) (ct : Value) (cc : Addr) (p1 p2 q1 q2 q3 q4 q5 q6 r1 r2 r3 r4 : Pos) (x v : Value), bindArgs (ksFn "__init__" qual (iA "index" p1 p2) (iB "index" msg q1 q2 q3 q4 q5 q6 r1 r2 r3 r4) (iS "index") .none .none doc pm an (.ref cda) ct cc) ⟨[x, v], []⟩ = pure [(("self" : Str), x), (("index" : Str), v)] := by
  intros; first | rfl | with_unfolding_all rfl
theorem bd_part : ∀ (qual msg : Str) (doc pm : Value) (an : Option Addr) (cda : Addr) (ct : Value) (cc : Addr) (p1 p2 q1 q2 q3 q4 q5 q6 r1 r2 r3 r4 : Pos) (x v : Value), bindArgs (ksFn "__init__" qual (iA "part" p1 p2) (iB "part" msg q1 q2 q3 q4 q5 q6 r1 r2 r3 r4) (iS "part") .none .none doc pm an (.ref cda) ct cc) ⟨[x, v], []⟩ = pure [(("self" : Str), x), (("part" : Str), v)] := by
  intros; first | rfl | with_unfolding_all rfl
theorem bd_most : ∀ (qual msg : Str) (doc pm : Value) (an : Option Addr) (cda : Addr) (ct : Value) (cc : Addr) (p1 p2 q1 q2 q3 q4 q5 q6 r1 r2 r3 r4 : Pos) (x v : Value), bindArgs (ksFn "__init__" qual (iA "most" p1 p2) (iB "most" msg q1 q2 q3 q4 q5 q6 r1 r2 r3 r4) (iS "most") .none .none doc pm an (.ref cda) ct cc) ⟨[x, v], []⟩ = pure [(("self" : Str), x), (("most" : Str), v)] := by
  intros; first | rfl | with_unfolding_all rfl
theorem bd_line : ∀ (qual msg : Str) (doc pm : Value) (an : Option Addr) (cda : Addr) (ct : Value) (cc : Addr) (p1 p2 q1 q2 q3 q4 q5 q6 r1 r2 r3 r4 : Pos) (x v : Value), bindArgs (ksFn "__init__" qual (iA "line" p1 p2) (iB "line" msg q1 q2 q3 q4 q5 q6 r1 r2 r3 r4) (iS "line") .none .none doc pm an (.ref cda) ct cc) ⟨[x, v], []⟩ = pure [(("self" : Str), x), (("line" : Str), v)] := by
  intros; first | rfl | with_unfolding_all rfl
end SupX
end PySem

set_option Elab.async false
set_option linter.all false
set_option maxRecDepth 100000
set_option maxHeartbeats 2000000
/-! M3i: raise, try. -/
namespace L2
namespace M3
open PySem PySem.Spec PyProof.Rows

/-! ### raise -/
section
variable {X : Cx} {C fI : Addr} {fld : Str}
def tMkS (C : Addr) (fld : Str) (ta : TA) : St → Hp → XK → Prop := fun σ H Q => ta σ H fun vs H1 => ∃ v, vs = [v] ∧ ∀ d, H1 d = none → Q (.ref C) (some d) (upd H1 d (.xd [(fld, v)]))
theorem relO_one {v : V} {v' : Value} (r : RelV v v') (g f : Str) : RelO (List.lookup f [(g, v)]) (if f = g then some v' else none) := by
  by_cases hw : f = g
  · subst hw
    rw [if_pos rfl]
    have q : List.lookup f [(f, v)] = some v := by simp [List.lookup]
    rw [q]
    exact r
  · rw [if_neg hw]
    have qw : (f == g) = false := by simpa using hw
    have q2 : List.lookup f [(g, v)] = none := by simp [List.lookup, qw]
    rw [q2]
    trivial
theorem pmk_sup {a : Expr} {ta : TA} {x : Str} {p pos : Pos} {k : Nat} (T : PySem.SupX.SupTxt X.prog X.K X.mg C fI fld) (gC : X.mg x = some (.ref C)) (hr : Room k X.A) (ha : PA X [a] ta) (hg : Gl X x)
    (hdb : (x == ("__debug__" : Str)) = false := by decide)
    (he : starEach (a :: []) X.env = (false, eval a X.env) :: starEach [] X.env := by rfl) (hpl : (backTo pos (starEach [] X.env)).any (·.1) = false := by rfl) :
    PMk X (.Call (.Name x p) [a] [] pos) (tMkS C fld ta) := by
  intro pins s σ H Q I h
  refine wpAny_Call_Name_kw (ld_glob I hg gC ?_ hdb)
  refine PySem.W.callWith_K (h₀ := X.base) I.ok.mod.kin T.kC (thn (ha.run pos pins s σ H _ I h) fun us s1 hh => ?_) he hpl
  obtain ⟨vs, H1, I1, r1, v, ev, q1⟩ := hh
  subst ev
  refine ⟨I1.kIn, ?_⟩
  cases r1 with
  | cons rv rn =>
    rename_i v' us'
    cases rn
    show wpAny _ _ (call (.ref C) [v']) _ _ _
    have hlim := I1.nolimit
    have hG := I1.mod.glob.keeps I1.bk
    obtain ⟨mb, hB0, hb0⟩ := I1.mod.blt
    have hB := hB0.keeps I1.bk
    have hb : mb "super" = some (.type "super") := (hb0 "super" (by decide)).trans (by decide +kernel)
    obtain ⟨hp, g, dr, tk, os⟩ := s1
    refine wpAny_call (PySem.SupX.sup_made T I1.kIn hG hB hb hlim (by have := hr.dp; omega) fun h' tk' e d M => ?_)
    show MkP X pins σ Q (.ref e) ⟨h', g, dr, tk', os⟩
    obtain ⟨oe, fv, hoe, hc, hd, hdat, h1⟩ := M.obj
    have hns := M.ns
    obtain ⟨G', g1, g2⟩ := restrict h' fun b => decide (b ≠ e)
    have gk : ∀ b, b ≠ e → G'.get? b = h'.get? b := fun b hb => g1 b (decide_eq_true hb)
    have ge : G'.get? e = none := g2 e (by simp)
    have old : ∀ b o, hp.get? b = some o → G'.get? b = some o := fun b o q => (gk b (Nat.ne_of_lt (Nat.lt_of_lt_of_le (Heap.lt_size q) M.new))).trans (M.keep b o q)
    have ob : ObjOk X.prog X.w (upd H1 d (.xd [(fld, v)])) G' d (.xd [(fld, v)]) :=
      ⟨_, hns.at (fun o q => (gk d M.dne).trans q), fun f => relO_one rv fld f⟩
    have J : Inv X pins σ (upd H1 d (.xd [(fld, v)])) ⟨G', g, dr, tk', os⟩ := I1.laid (t' := tk') old M.dbig ob
    refine ⟨e, oe, fv, ⟨G', g, dr, tk', os⟩, _, .ref C, some d, rfl, J, fun b o q => ?_, ge, hoe, ⟨hc, hd⟩, hdat, h1, ?_, rfl, I1.bare, raises_own T.exC T.tyC, q1 d (I1.hok.fresh M.dbig)⟩
    · by_cases hb : b = e
      · have q' : G'.get? b = some o := q
        rw [hb, ge] at q'; cases q'
      · exact (gk b hb).symm.trans q
    · rw [upd_ne (Ne.symm M.dne)]
      exact I1.hok.fresh M.new
/-- X() -/
theorem pmk_own0 {bmB : List Value} {B newId initId : String} {x : Str} {p pos : Pos} (F : ExcBaseFacts B newId initId bmB) (q : PySem.W.excIn X.K C bmB newId = true) (gC : X.mg x = some (.ref C)) (kC : PySem.W.keepIn X.K (.ref C) = true) (r : Raises X (.ref C)) (hg : Gl X x)
    (hdb : (x == ("__debug__" : Str)) = false := by decide) : PMk X (.Call (.Name x p) [] [] pos) (fun _ H Q => Q (.ref C) none H) := by
  intro pins s σ H Q I h
  refine wpAny_Call_Name_kw (ld_glob I hg gC ?_ hdb)
  refine PySem.W.callWith_K0 I.kIn kC ?_
  obtain ⟨bm, N, nm, qn, bs, hdct, sn, sub, ab, col, dd, k0, k1, k2, k3, k5, mN, hC, hN, hni, T⟩ := exc_obj I.kIn q
  obtain ⟨hp, g, dr, tk, os⟩ := s
  refine wpAny_call_exc_subT F T hC hN hni (fun h' e hm => ?_) (by show 0 ≤ sizeLine; omega)
  exact mk_of I hm r h (I.hok.gone hm.new)
variable {W : Wq}
def rzS (c fld : Str) (m : M (List D)) : MS := fun ds G => match m ds G with
  | .ok [d] G1 => .exc ⟨c, some (fld, d)⟩ ds G1
  | .exc e G1 => .exc e ds G1
  | _ => .stuck
def rzS0 (c : Str) : MS := fun ds G => .exc ⟨c, none⟩ ds G
theorem ms_raise1 {a : Expr} {m : M (List D)} {x : Str} {p pos pos2 : Pos} {k : Nat} (hc : X.calm = true) (tk : Takes X W.w) (T : PySem.SupX.SupTxt X.prog X.K X.mg (He.ga X.K x) fI fld) (gC : X.mg x = some (.ref (He.ga X.K x))) (hr : Room k X.A) (hg : Gl X x) (ha : MA X W [a] m)
    (hdb : (x == ("__debug__" : Str)) = false := by decide)
    (he : starEach (a :: []) X.env = (false, eval a X.env) :: starEach [] X.env := by rfl) (hpl : (backTo pos (starEach [] X.env)).any (·.1) = false := by rfl) :
    MSt X W (.Raise (some (.Call (.Name x p) [a] [] pos)) none pos2) (rzS x fld m) := (ps_raise hc tk (pmk_sup T gC hr ha hg hdb he hpl)).conv fun σ H Q ⟨ρ, G, ds, rl, sr, hl, p⟩ => by
  refine ⟨ρ, G, ds, rl, sr, hl, ?_⟩
  unfold rzS at p
  cases q : m ds G with
  | exc e G1 => rw [q] at p; exact fun ρ1 H1 c dd s1 r1 x1 => p ρ1 H1 σ c dd s1 r1 (sr.step s1) (hl.step s1) rfl x1
  | stuck => rw [q] at p; exact p
  | ok ls G1 =>
    rw [q] at p
    intro ρ1 H1 vs s1 r1 d1
    cases ls with
    | nil => exact p.elim
    | cons d ls =>
      cases ls with
      | cons d2 ls => exact p.elim
      | nil =>
        obtain ⟨v, r', rfl, d2, e2⟩ := d1
        cases e2
        refine ⟨v, rfl, fun dd hd => ?_⟩
        have st := step_upd (o := .xd [(fld, v)]) r1 hd
        exact p ρ1 _ σ _ _ (s1.trans st) (r1.updN hd) (sr.step (s1.trans st)) (hl.step (s1.trans st)) rfl ⟨rfl, dd, v, rfl, r1.new hd, upd_same, d2.step st⟩
theorem ms_raise0 {bmB : List Value} {B newId initId : String} {x : Str} {p pos pos2 : Pos} (hc : X.calm = true) (tk : Takes X W.w) (F : ExcBaseFacts B newId initId bmB) (q : PySem.W.excIn X.K (He.ga X.K x) bmB newId = true) (gC : X.mg x = some (.ref (He.ga X.K x))) (kC : PySem.W.keepIn X.K (.ref (He.ga X.K x)) = true) (r : Raises X (.ref (He.ga X.K x))) (hg : Gl X x)
    (hdb : (x == ("__debug__" : Str)) = false := by decide) : MSt X W (.Raise (some (.Call (.Name x p) [] [] pos)) none pos2) (rzS0 x) := (ps_raise hc tk (pmk_own0 F q gC kC r hg hdb)).conv fun σ H Q ⟨ρ, G, ds, rl, sr, hl, p⟩ =>
  p ρ H σ _ _ (Step.refl _ _) rl sr hl rfl ⟨rfl, rfl⟩
end

/-! ### try: B, except C as n: S -/
def endT (i : Nat) : RS → RS
  | .nx ds G => .nx (ds.set i none) G
  | .bk ds G => .bk (ds.set i none) G
  | .ct ds G => .ct (ds.set i none) G
  | .rt d G => .rt d G
  | _ => .stuck
def tryS (kx : Str → Option Bool) (i : Nat) (B : MS) (S : Exc → MS) : MS := fun ds G => match B ds G with
  | .exc e ds1 G1 => (match kx e.c with
    | some true => if i < ds1.length then endT i (S e (ds1.set i none) G1) else .stuck
    | some false => .exc e ds1 G1
    | none => .stuck)
  | r => r
def Ws (K : PySem.W.Frag) (i : Nat) (a : Addr) (cls : Value) (d : Option Addr) (e : Exc) : Wq := ⟨fun _ _ _ _ => False, [(i, .ref a)], fun ρ H => XRel K ρ H e cls d, fun _ _ _ _ s h => h.step s⟩
theorem SRel.drop {K : PySem.W.Frag} {ρ : Rho} {H : Hp} {ds : Sl} {σ : St} {o : Option V} (i : Nat) (h : SRel K ρ H ds σ) : SRel K ρ H (ds.set i none) (σ.set i o) := fun j d e => by
  by_cases q : j = i
  · subst q
    by_cases hl : j < ds.length
    · rw [List.getElem?_set_self hl] at e; cases e
    · rw [List.getElem?_eq_none (by simpa using hl)] at e; cases e
  · rw [List.getElem?_set_ne (Ne.symm q)] at e ⊢
    exact h j d e
section
variable {X : Cx} {W : Wq} {x n : Str} {c : Value} {i : Nat} {body suite : List Stmt} {b₀ : Stmt} {np pos pos' : Pos} {mB : MS} {mS : Exc → MS}
theorem ms_try_as {kx : Str → Option Bool} (hW : W.fx = []) (hv : ∀ ρ H, W.iv ρ H) (hs : X.stack = X.env :: X.outer) (hf : X.env.frame = some X.env.locals) (hN : X.N.Nodup) (hi : X.N[i]? = some n) (hln : X.env.kindOf n = some .local) (hc : Names X x c) (tk : Takes X W.w)
    (hk : ∀ C b, kx C = some b → PySem.W.exmOne X.K (.ref (He.ga X.K C)) c = some b)
    (hb : ∀ (w : WX) (pn : List (Addr × Obj)) (xe : Value → Shared → Prop), Takes (X.tr pn xe) w → PassesOwn (model X.prog X.w) X.A X.env xe → MSs (X.tr pn xe) { W with w := w } body mB)
    (hsu : ∀ (a : Addr) (oe : Obj) (cls : Value) (d : Option Addr) (pn : List (Addr × Obj)) (e : Exc), Zc cls d oe → (∃ vs, oe.data = .fields vs) → cls = .ref (He.ga X.K e.c) → kx e.c = some true → MSs (X.suite a ((a, oe) :: pn)) (Ws X.K i a cls d e) (b₀ :: suite) (mS e)) :
    MSt X W (.Try body [.ExceptHandler (some (.Name x np)) (some n) (b₀ :: suite) pos'] [] [] pos) (tryS kx i mB mS) := by
  refine (ps_try_as (tb := fun w => LS X.K { W with w := w } mB) (ts := fun a cls d E σ H => ∃ e : Exc, cls = .ref (He.ga X.K e.c) ∧ kx e.c = some true ∧ LS X.K (Ws X.K i a cls d e) (mS e) E σ H) (Wout := W.w) hs hf hN hi hln hc tk (fun w pn xe t o => hb w pn xe t o)
    (fun a oe cls d pn hz hd => ⟨fun pins s σ H E I h => ?_⟩)).conv fun σ H E ⟨ρ, G, ds, rl, sr, hl, p⟩ => ?_
  · obtain ⟨e, hcl, hke, h⟩ := h
    exact (hsu a oe cls d pn e hz hd hcl hke).run pins s σ H E I h
  · refine ⟨ρ, G, ds, rl, sr, ⟨hl.len, hl.fx, hl.iv⟩, ?_⟩
    unfold tryS at p
    have lk : ∀ {w : WX} {ρ H ds σ}, Lk { W with w := w } ρ H ds σ → Lk W ρ H ds σ := fun h => ⟨h.len, h.fx, h.iv⟩
    cases q : mB ds G with
    | nx ds1 G1 => rw [q] at p; exact fun ρ1 H1 σ1 s1 r1 sr1 hl1 hn1 => p ρ1 H1 σ1 s1 r1 sr1 (lk hl1) hn1
    | bk ds1 G1 => rw [q] at p; exact fun ρ1 H1 σ1 s1 r1 sr1 hl1 hn1 => p ρ1 H1 σ1 s1 r1 sr1 (lk hl1) hn1
    | ct ds1 G1 => rw [q] at p; exact fun ρ1 H1 σ1 s1 r1 sr1 hl1 hn1 => p ρ1 H1 σ1 s1 r1 sr1 (lk hl1) hn1
    | rt d G1 => rw [q] at p; exact p
    | stuck => rw [q] at p; exact p
    | exc e ds1 G1 =>
      rw [q] at p
      intro ρ1 H1 σ1 cls dd s1 r1 sr1 hl1 hn1 x1
      simp only at p
      cases hb1 : kx e.c with
      | none => rw [hb1] at p; exact p.elim
      | some b =>
        rw [hb1] at p
        refine ⟨b, by rw [x1.1]; exact hk _ _ hb1, fun eb a ha => ?_, fun eb => ?_⟩
        · subst eb
          simp only at p
          by_cases hi2 : i < ds1.length
          case neg => rw [if_neg hi2] at p; exact p.elim
          rw [if_pos hi2] at p
          have hls : i < σ1.length := by rw [← hl1.len]; exact hi2
          refine ⟨e, x1.1, hb1, ρ1, G1, ds1.set i none, r1, sr1.drop i, ⟨by simp [hl1.len], fun p hp => ?_, x1⟩, ?_⟩
          · cases hp with
            | head => exact List.getElem?_set_self hls
            | tail _ z => cases z
          · replace p := p.step s1
            have hw : ∀ {ρ H ds σ}, ds.length = σ.length → Lk W ρ H ds σ := fun h => ⟨h, by rw [hW]; exact fun p hp => (by cases hp), hv _ _⟩
            cases q2 : mS e (ds1.set i none) G1 with
            | nx ds2 G2 => rw [q2] at p; exact fun ρ2 H2 σ2 s2 r2 sr2 hl2 hn2 => p ρ2 H2 _ s2 r2 (sr2.drop i) (hw (by simp [hl2.len])) (by simpa [hn1] using hn2)
            | bk ds2 G2 => rw [q2] at p; exact fun ρ2 H2 σ2 s2 r2 sr2 hl2 hn2 => p ρ2 H2 _ s2 r2 (sr2.drop i) (hw (by simp [hl2.len])) (by simpa [hn1] using hn2)
            | ct ds2 G2 => rw [q2] at p; exact fun ρ2 H2 σ2 s2 r2 sr2 hl2 hn2 => p ρ2 H2 _ s2 r2 (sr2.drop i) (hw (by simp [hl2.len])) (by simpa [hn1] using hn2)
            | rt d G2 => rw [q2] at p; exact p
            | exc e2 ds2 G2 => rw [q2] at p; exact p.elim
            | stuck => rw [q2] at p; exact p.elim
        · subst eb
          exact p ρ1 H1 σ1 cls dd s1 r1 sr1 (lk hl1) hn1 x1
end
end M3
end L2

set_option Elab.async false
set_option linter.all false
set_option maxRecDepth 100000
set_option maxHeartbeats 2000000
/-! M3j: caught errors, own classes, globals. -/
namespace L2
namespace M3
open PySem PySem.Spec PyProof.Rows

/-- what is known of the program's classes, more -/
structure CF (K : PySem.W.Frag) extends PF K where
  hnf : ∀ C f, T.nf C f = true → NoAttr K (He.ga K C) f
  hec : ∀ C, T.ec C = true → ExcC K (He.ga K C)
  hxf : ∀ C f, T.xf C f = true → XfC K (He.ga K C) ∧ PySem.W.findIn K (.ref (He.ga K C)) f = some none

/-! ### the error that a suite holds -/
def rIsS (K : PySem.W.Frag) (D a : Addr) (d : Option Addr) : List V → Hp → VK → Prop := fun xs H Q => ∃ (c : V) (cv : Value) (b : Bool), xs = [.ref a, c] ∧ (∀ u, RelV c u → u = cv) ∧ PySem.W.kitOne K (.ref D) cv = some b ∧ (∀ dd, d = some dd → ∃ fs, H dd = some (.xd fs)) ∧ Q (.bl b) H
theorem kitx_exc {K : PySem.W.Frag} {x D : Addr} {ox : Obj} (C : ExcC K D) : PySem.W.KitX K (.ref x) (.ref D) (fun h => ∃ od, PySem.W.InstAt h x ox D od) where
  ty := fun _ _ _ ⟨_, I⟩ => I.type
  it := fun _ _ X _ => by
    obtain ⟨cdD, hcD, _⟩ := PySem.W.any_some (show (PySem.W.clsIn K D).any (fun cd => cd.hasDict) = true from C.hd)
    unfold PySem.W.clsIn at hcD
    split at hcD
    · rename_i c' d' cd' sl' ho
      intro A' Q' E' s' k q
      unfold isType loadHead
      exact wpAny_bind (wpAny_loadPart (k _ _ (X _ _ ho)) (wpAny_pure q))
    · cases hcD
  ne := fun h tp dd its n sl X htp => by
    obtain ⟨cdD, hcD, _⟩ := PySem.W.any_some C.hd
    refine Bool.eq_false_iff.mpr fun q => ?_
    have e : D = tp := Value.ref.inj (beq_iff_eq.mp q)
    subst e
    unfold PySem.W.clsIn at hcD
    split at hcD
    · rename_i c' d' cd' sl' ho
      have z := (X _ _ ho).symm.trans htp
      cases z
    · cases hcD
  ca := fun X I k => by
    obtain ⟨od, I⟩ := I
    exact PySem.W.kx_classE X I C.hg C.hk C.hs (PySem.W.findObj_dataE (by obtain ⟨cd, hc, _⟩ := PySem.W.any_some C.hd; rw [hc]; rfl) C.ha C.hn C.ht) C.hm k
theorem call_isS {X : Cx} {a D : Addr} {d : Option Addr} {oe : Obj} {pn : List (Addr × Obj)} (C : ExcC X.K D) (hz : Zc (.ref D) d oe) (hf : ∃ vs, oe.data = .fields vs) : CallR (X.suite a ((a, oe) :: pn)) (.builtin "isinstance") (rIsS X.K D a d) := by
  intro pins s σ H xs us Q I r h
  obtain ⟨c, cv, b, rfl, hcv, e, hdd, q⟩ := h
  cases r with
  | cons rx rr =>
    cases rr with
    | cons rt rr =>
      cases rr
      cases rx
      have ec := hcv _ rt
      subst ec
      obtain ⟨hget, _⟩ := I.pin (a, oe) (List.mem_append.mpr (.inl List.mem_cons_self))
      obtain ⟨vs, hv⟩ := hf
      have J : ∃ od, PySem.W.InstAt s.heap a oe D od := by
        obtain ⟨oc, od, oda, osl⟩ := oe
        obtain ⟨h1, h2⟩ := hz
        dsimp only at h1 h2 hv
        subst h1 h2 hv
        cases od with
        | none => exact ⟨none, hget, rfl, rfl, trivial⟩
        | some dd =>
          obtain ⟨fs, e2⟩ := hdd dd rfl
          obtain ⟨o, e3⟩ := objOk_get (I.hok dd _ e2)
          exact ⟨some o, hget, rfl, rfl, e3⟩
      exact PySem.W.kia_one (kitx_exc C) I.kIn J e (fun z => nomatch z) fun tk => ⟨.bl b, H, I.kept (t' := tk) fun _ _ z => z, rfl, q⟩
section
variable {X : Cx} {i : Nat} {a : Addr} {oe : Obj} {cls : Value} {d : Option Addr} {pn : List (Addr × Obj)} {e : Exc} {n : Str} {p q pos : Pos}
/-- isinstance(e, C), e the exception that the suite holds -/
def isE (T : TF) (c : Str) (x : D) : Gs → Option D := fun _ => match clsD x with
  | some u => if T.ec c = true then (T.kt (.inr c) u).map D.bl else none
  | none => none
theorem me_isE (F : CF X.K) {c : Expr} {mc : M D} (hz : Zc cls d oe) (hd : ∃ vs, oe.data = .fields vs) (hcl : cls = .ref (He.ga X.K e.c)) (hec : F.T.ec e.c = true) (hN : X.N[i]? = some n) (hl : Vis X.env.scope n) (hg : Gl X "isinstance") (hm : X.mg "isinstance" = none) (hc : ME (X.suite a ((a, oe) :: pn)) (Ws X.K i a cls d e) c mc)
    (hn : (n == ("__debug__" : Str)) = false := by decide) (hn2 : (n == ("__classdict__" : Str)) = false := by decide)
    (he : starEach [.Name n q, c] X.env = (false, eval (.Name n q) X.env) :: starEach [c] X.env := by rfl) (he2 : starEach [c] X.env = (false, eval c X.env) :: starEach [] X.env := by rfl) (hpl : (backTo pos (starEach [c] X.env)).any (·.1) = false := by rfl) :
    ME (X.suite a ((a, oe) :: pn)) (Ws X.K i a cls d e) (.Call (.Name "isinstance" p) [.Name n q, c] [] pos) (bnd mc fun x => lo (isE F.T e.c x)) := by
  have hcls : CallR (X.suite a ((a, oe) :: pn)) (.builtin "isinstance") (rIsS X.K (He.ga X.K e.c) a d) := call_isS (F.hec _ hec) (by rw [← hcl]; exact hz) hd
  refine (pe_callB hcls hg hm (by decide +kernel) (pa_cons (pv (X := X.suite a ((a, oe) :: pn)) i hN hl hn hn2) (pa_cons hc pa_nil he2) he) (by decide) (by decide) he hpl).conv fun σ H Q ⟨ρ, G, ds, rl, sr, hl, p⟩ => ?_
  refine ⟨.ref a, hl.fx (i, .ref a) List.mem_cons_self, ?_⟩
  refine le_seq p rl sr hl fun v H1 ρ1 G1 x s1 r1 sr1 hl1 d1 p1 => ?_
  obtain ⟨d', e1, q1⟩ := lo_inv p1
  unfold isE at e1
  cases q2 : clsD x with
  | none => rw [q2] at e1; cases e1
  | some u =>
    rw [q2] at e1
    simp only [hec, if_true] at e1
    cases q3 : F.T.kt (.inr e.c) u with
    | none => rw [q3] at e1; cases e1
    | some b =>
      rw [q3] at e1
      cases e1
      refine ⟨v, cv X.K u, b, rfl, fun w hw => ?_, F.hkt _ _ _ q3, fun dd hdd => ?_, q1 ρ1 H1 _ (Step.refl _ _) r1 rfl⟩
      · exact (clsV_at q2 d1).eq hw
      · obtain ⟨_, x2⟩ := hl1.iv
        cases q4 : e.f with
        | none => rw [q4] at x2; rw [x2] at hdd; cases hdd
        | some xd =>
          rw [q4] at x2
          obtain ⟨b2, v2, y1, y2, y3, y4⟩ := x2
          rw [y1] at hdd
          cases hdd
          exact ⟨_, y3⟩
/-- e.f, e the exception that the suite holds -/
def xfE (T : TF) (e : Exc) (f : Str) : Gs → Option D := fun _ => if T.xf e.c f = true then (match e.f with
    | some (g, v) => if g = f then some v else none
    | none => none) else none
theorem me_xfE (F : CF X.K) {f : Str} (hz : Zc cls d oe) (hd : ∃ vs, oe.data = .fields vs) (hcl : cls = .ref (He.ga X.K e.c)) (hN : X.N[i]? = some n) (hl : Vis X.env.scope n)
    (hn : (n == ("__debug__" : Str)) = false := by decide) (hn2 : (n == ("__classdict__" : Str)) = false := by decide) (hb : attributeBase (.Name n q) f X.env (eval (.Name n q) X.env) = eval (.Name n q) X.env := by rfl) :
    ME (X.suite a ((a, oe) :: pn)) (Ws X.K i a cls d e) (.Attribute (.Name n q) f pos) (lo (xfE F.T e f)) := by
  by_cases hx : F.T.xf e.c f = true
  · obtain ⟨h1, h2⟩ := F.hxf _ _ hx
    refine (pe_xf h1 h2 hz hd (pv (X := X.suite a ((a, oe) :: pn)) i hN hl hn hn2) hb).conv fun σ H Q ⟨ρ, G, ds, rl, sr, hl, p⟩ => ?_
    obtain ⟨d', e1, q1⟩ := lo_inv p
    unfold xfE at e1
    rw [if_pos hx] at e1
    obtain ⟨_, x2⟩ := hl.iv
    refine ⟨.ref a, hl.fx (i, .ref a) List.mem_cons_self, rfl, hcl, ?_⟩
    cases q4 : e.f with
    | none => rw [q4] at e1; cases e1
    | some xd =>
      obtain ⟨g, v⟩ := xd
      rw [q4] at e1 x2
      obtain ⟨b2, v2, y1, y2, y3, y4⟩ := x2
      simp only at e1
      by_cases hg : g = f
      case neg => rw [if_neg hg] at e1; cases e1
      rw [if_pos hg] at e1
      cases e1
      subst hg
      exact ⟨b2, [(g, v2)], v2, y1, y3, by simp [List.lookup], q1 ρ H v2 (Step.refl _ _) rl y4⟩
  · refine ⟨fun pins s σ H Q I ⟨ρ, G, ds, rl, sr, hl, p⟩ => ?_⟩
    obtain ⟨d', e1, q1⟩ := lo_inv p
    unfold xfE at e1
    rw [if_neg hx] at e1
    cases e1
end

/-! ### instances -/
section
variable {X : Cx} {W : Wq} {e o : Expr} {me mo : M D} {f : Str} {pos pos' : Pos}
theorem zip_lookup {K : PySem.W.Frag} {ρ : Rho} {H : Hp} {f : Str} {d : D} : ∀ {ks : List Str} {ds : List D} {xs : List V}, (ks.zip ds).lookup f = some d → DRels K ρ H ds xs → ∃ v, (ks.zip xs).lookup f = some v ∧ DRel K ρ H d v
  | [], _, _, h, _ => by cases h
  | _ :: _, [], _, h, _ => by cases h
  | k :: ks, d' :: ds, xs, h, r => by
    obtain ⟨v, us, rfl, r1, r2⟩ := r
    simp only [List.zip_cons_cons, List.lookup] at h ⊢
    cases q : f == k with
    | true => rw [q] at h; cases h; exact ⟨v, rfl, r1⟩
    | false => rw [q] at h; exact zip_lookup h r2
theorem lookup_zip {α : Type} {f : Str} : ∀ fs : List (Str × α), fs.lookup f = ((fs.map (·.1)).zip (fs.map (·.2))).lookup f
  | [] => rfl
  | (k, x) :: r => by
    simp only [List.map_cons, List.zip_cons_cons, List.lookup]
    rw [lookup_zip r]
/-- the fields of an instance -/
def insD (G : Gs) : D → Option (Str × List (Str × D))
  | .ti C ks ds => if ks.length = ds.length then some (C, ks.zip ds) else none
  | .obj i => (match G[i]? with
    | some (.ins C fs) => some (C, fs)
    | _ => none)
  | _ => none
theorem ins_at {K : PySem.W.Frag} {ρ : Rho} {G : Gs} {H : Hp} (rl : Rl K ρ G H) {d : D} {v : V} {C : Str} {fs : List (Str × D)} (h : insD G d = some (C, fs)) (r : DRel K ρ H d v) :
    ∃ a dx xs, v = .ref a ∧ H a = some (.ins (He.ga K C) dx ((fs.map (·.1)).zip xs)) ∧ DRels K ρ H (fs.map (·.2)) xs := by
  unfold insD at h
  split at h
  · rename_i C' ks ds
    split at h
    · rename_i hk
      cases h
      obtain ⟨a, dx, xs, e1, e2, e3, e4, e5⟩ := r
      have k1 : (ks.zip ds).map (·.1) = ks := by rw [← List.unzip_fst, List.unzip_zip hk]
      have k2 : (ks.zip ds).map (·.2) = ds := by rw [← List.unzip_snd, List.unzip_zip hk]
      exact ⟨a, dx, xs, e1, by rw [k1]; exact e3, by rw [k2]; exact e5⟩
    · cases h
  · rename_i i
    obtain ⟨a, e1, e2⟩ := r
    cases q : G[i]? with
    | none => rw [q] at h; cases h
    | some ob =>
      rw [q] at h
      cases ob with
      | ins C' fs' =>
        cases h
        obtain ⟨dx, xs, m1, m2⟩ := rl.at_ _ _ _ q e1
        exact ⟨a, dx, xs, e2, m1, m2⟩
      | _ => cases h
  · cases h
def fldD (T : TF) (f : Str) (x : D) : Gs → Option D := fun G => match insD G x with
  | some (C, fs) => if T.ic C = true then if T.nf C f = true then fs.lookup f else none else none
  | none => none
theorem me_fld (F : CF X.K) (he : ME X W e me) (hb : attributeBase e f X.env (eval e X.env) = eval e X.env := by rfl) : ME X W (.Attribute e f pos) (bnd me fun x => lo (fldD F.T f x)) := (pe_fld he hb).conv fun σ H Q ⟨ρ, G, ds, rl, sr, hl, p⟩ => by
  refine le_seq p rl sr hl fun v H1 ρ1 G1 x s1 r1 sr1 hl1 d1 p1 => ?_
  obtain ⟨d', e1, q1⟩ := lo_inv p1
  unfold fldD at e1
  cases q : insD G1 x with
  | none => rw [q] at e1; cases e1
  | some cf =>
    obtain ⟨C, fs⟩ := cf
    rw [q] at e1
    simp only at e1
    by_cases h1 : F.T.ic C = true
    case neg => rw [if_neg h1] at e1; cases e1
    by_cases h2 : F.T.nf C f = true
    case neg => rw [if_pos h1, if_neg h2] at e1; cases e1
    rw [if_pos h1, if_pos h2, lookup_zip] at e1
    obtain ⟨a, dx, xs, rfl, i1, i2⟩ := ins_at r1 q d1
    obtain ⟨v, l1, l2⟩ := zip_lookup e1 i2
    exact ⟨a, _, dx, _, v, rfl, i1, (F.hic C h1).cl, F.hnf C f h2, l1, q1 ρ1 H1 v (Step.refl _ _) r1 l2⟩
/-- o.f = e -/
def putD (f : Str) (d : D) : List (Str × D) → List (Str × D)
  | [] => [(f, d)]
  | (g, x) :: r => if g = f then (g, d) :: r else (g, x) :: putD f d r
theorem putD_rel {K : PySem.W.Frag} {ρ : Rho} {H : Hp} {f : Str} {d : D} {v : V} (hd : DRel K ρ H d v) : ∀ {fs : List (Str × D)} {xs : List V}, DRels K ρ H (fs.map (·.2)) xs → ∃ ys, putF f v ((fs.map (·.1)).zip xs) = ((putD f d fs).map (·.1)).zip ys ∧ DRels K ρ H ((putD f d fs).map (·.2)) ys
  | [], xs, h => by
    cases h
    exact ⟨[v], rfl, drels_one hd⟩
  | (g, x) :: r, xs, h => by
    obtain ⟨u, us, rfl, r1, r2⟩ := h
    simp only [List.map_cons, List.zip_cons_cons, putF, putD]
    by_cases hg : g = f
    · rw [if_pos hg, if_pos hg]
      exact ⟨v :: us, by simp, drels_cons hd r2⟩
    · rw [if_neg hg, if_neg hg]
      obtain ⟨ys, e1, e2⟩ := putD_rel hd r2
      exact ⟨u :: ys, by simp [e1], drels_cons r1 e2⟩
def setFld (T : TF) (f : Str) (y x : D) : MS := fun ds G => match x with
  | .obj i => (match G[i]? with
    | some (.ins C fs) => if T.ic C = true ∧ T.nf C f = true ∧ fs.length < 1000 then .nx ds (G.set i (.ins C (putD f y fs))) else .stuck
    | _ => .stuck)
  | _ => .stuck
theorem ms_setfld (F : CF X.K) (he : ME X W e me) (ho : ME X W o mo) (hs : swapsWith e (some (.Attribute o f pos')) pos.line X.env = pure false := by rfl) :
    MSt X W (.Assign [.Attribute o f pos'] e pos) (bndS me fun y => bndS mo fun x => setFld F.T f y x) := (ps_fld ho he hs).conv fun σ H Q ⟨ρ, G, ds, rl, sr, hl, p⟩ => by
  refine le_seqS p rl sr hl fun v H1 ρ1 G1 y s1 r1 sr1 hl1 d1 p1 => ?_
  refine le_seqS p1 r1 sr1 hl1 fun u H2 ρ2 G2 x s2 r2 sr2 hl2 d2 p2 => ?_
  unfold setFld at p2
  split at p2
  · rename_i i
    split at p2
    · rename_i C fs q
      split at p2
      · rename_i hc
        obtain ⟨a, e1, rfl⟩ := d2
        obtain ⟨dx, xs, m1, m2⟩ := r2.at_ _ _ _ q e1
        have hm := List.mem_of_getElem? e1
        obtain ⟨ys, k1, k2⟩ := putD_rel (f := f) (d1.step s2) m2
        have st := step_write (o := .ins (He.ga X.K C) dx (putF f v ((fs.map (·.1)).zip xs))) r2 hm
        refine ⟨a, _, dx, _, rfl, m1, (F.hic C hc.1).cl, F.hnf C f hc.2.1, ?_, ?_⟩
        · rw [List.length_zip, List.length_map]; omega
        · exact p2 ρ2 _ σ st (r2.write e1 ⟨dx, ys, by rw [upd_same, k1], k2.step st⟩) (sr2.step st) (hl2.step st) rfl
      · exact p2.elim
    · exact p2.elim
  · exact p2.elim
end
end M3
end L2

set_option Elab.async false
set_option linter.all false
set_option maxRecDepth 100000
set_option maxHeartbeats 2000000
/-! M3k: methods, making instances, globals. -/
namespace L2
namespace M3
open PySem PySem.Spec PyProof.Rows

section
variable {X : Cx} {W : Wq} {CX : CXT} {k : Nat} {m x : Str} {o e : Expr} {es : List Expr} {apos pos p : Pos} {ta : TE} {t : TA} {E : St → XK} {pl : Sem Bool}
/-- o.m(e, ..), by the class that o has -/
def tMV (X : Cx) (CX : CXT) (k : Nat) (m : Str) (E : St → XK) (ta : TE) (t : TA) : TE := fun σ H Q => ta σ H fun x H1 => ∃ a C dx fs g fd ps sp, x = .ref a ∧ H1 a = some (.ins C dx fs) ∧ Cls X.K C ∧ Meth X.K C m g ∧ FnOk X.prog X.w X.K X.mg X.base CX k g fd ps sp ∧ Binds X.K fd ps [] ∧
  fs.lookup m = none ∧ t σ H1 fun vs H2 => sp (x :: vs) H2 Q (E σ)
theorem pe_methV (he : PE X o ta) (hr : Room k X.A) (hx : ∀ σ, PassesAt CX X σ (E σ)) (ha : PA X (e :: es) t)
    (hst : starEach (e :: es) X.env = (false, eval e X.env) :: starEach es X.env := by rfl) (hpl : (backTo pos (starEach es X.env)).any (·.1) = false := by rfl)
    (ht : eval (.Call (.Attribute o m apos) (e :: es) [] pos) X.env = (do
      let ov ← eval o X.env
      standAt apos.atName
      let (f, first) ← holding [ov] (getMethod ov m pl)
      callWith pos f first (backTo pos (starEach (e :: es) X.env)) (backToKw pos (keywordEach [] X.env))) := by rfl) :
    PE X (.Call (.Attribute o m apos) (e :: es) [] pos) (tMV X CX k m E ta t) := by
  refine ⟨fun pins s σ H Q I h => ?_⟩
  refine PySem.W.methodCall_KW (pl := pl) (thn (he.run pins s σ H _ I h) fun u s1 ⟨x, H1, I1, rx, a, C, dx, fs, g, fd, ps, sp, ex, ea, c, hm, F, hb, l, q⟩ => ?_) ht
  subst ex
  obtain rfl : u = Value.ref a := rx
  refine getmeth_ok I1 ea c hm l ?_
  refine PySem.W.callWith_K (first := [.ref a]) (h₀ := X.base) I.ok.mod.kin hm.kp (thn (ha.run pos pins s1 σ H1 _ I1 q) fun us s2 ⟨vs, H2, I2, r, q2⟩ => ⟨I2.kIn, ?_⟩) hst hpl
  exact run_fnS (us := .ref a :: us) (vs := .ref a :: vs) F hr hb (hx σ) I2 (.cons rfl r) q2
theorem pe_methV0 (he : PE X o ta) (hr : Room k X.A) (hx : ∀ σ, PassesAt CX X σ (E σ)) (h0 : ∀ σ H Q, t σ H Q → Q [] H)
    (ht : eval (.Call (.Attribute o m apos) [] [] pos) X.env = (do
      let ov ← eval o X.env
      standAt apos.atName
      let (f, first) ← holding [ov] (getMethod ov m pl)
      callWith pos f first (backTo pos (starEach [] X.env)) (backToKw pos (keywordEach [] X.env))) := by rfl) :
    PE X (.Call (.Attribute o m apos) [] [] pos) (tMV X CX k m E ta t) := by
  refine ⟨fun pins s σ H Q I h => ?_⟩
  refine PySem.W.methodCall_KW (pl := pl) (thn (he.run pins s σ H _ I h) fun u s1 ⟨x, H1, I1, rx, a, C, dx, fs, g, fd, ps, sp, ex, ea, c, hm, F, hb, l, q⟩ => ?_) ht
  subst ex
  obtain rfl : u = Value.ref a := rx
  refine getmeth_ok I1 ea c hm l ?_
  exact PySem.W.callWith_K0 (first := [.ref a]) I1.kIn hm.kp (run_fnS (us := [.ref a]) (vs := [.ref a]) F hr hb (hx σ) I1 (.cons rfl .nil) (h0 _ _ _ q))
/-- the classes whose method is known -/
structure AltOk (X : Cx) (k : Nat) (m : Str) (C : Str) (n : Nat) (fm : FM) : Prop where
  c : Cls X.K (He.ga X.K C)
  g : ∃ g fd ps, Meth X.K (He.ga X.K C) m g ∧ FnOk X.prog X.w X.K X.mg X.base (L2.CX X.prog X.w) k g fd ps (spM X.K n fm) ∧ Binds X.K fd ps []
abbrev Alts := List (Str × Nat × FM)
inductive AltsOk (X : Cx) (k : Nat) (m : Str) : Alts → Prop
  | nil : AltsOk X k m []
  | cons {C n fm r} (h : AltOk X k m C n fm) (t : AltsOk X k m r) : AltsOk X k m ((C, n, fm) :: r)
theorem AltsOk.at_ {m : Str} {C : Str} {n : Nat} {fm : FM} : ∀ {l : Alts}, AltsOk X k m l → l.lookup C = some (n, fm) → AltOk X k m C n fm
  | [], _, h => by cases h
  | (D, n', fm') :: r, a, h => by
    cases a with
    | cons h1 t =>
      simp only [List.lookup] at h
      cases q : C == D with
      | true =>
        rw [q] at h
        cases h
        rw [eq_of_beq q]
        exact h1
      | false =>
        rw [q] at h
        exact AltsOk.at_ t h
def methM (m : Str) (alts : Alts) (ma : M (List D)) (x : D) : M D := fun ds G => match insD G x with
  | some (C, fs) => (match alts.lookup C with
    | some (n, fm) => if (fs.lookup m).isNone = true then bnd ma (fun as => callM n fm (x :: as)) ds G else .stuck
    | none => .stuck)
  | none => .stuck
theorem lookup_none {f : Str} : ∀ {fs : List (Str × D)} {xs : List V}, fs.lookup f = none → ((fs.map (·.1)).zip xs).lookup f = none
  | [], _, _ => rfl
  | (g, d) :: r, xs, h => by
    cases xs with
    | nil => rfl
    | cons u us =>
      simp only [List.lookup, List.map_cons, List.zip_cons_cons] at h ⊢
      cases q : f == g with
      | true => rw [q] at h; cases h
      | false => rw [q] at h; exact lookup_none h
theorem meth_conv {mo : M D} {ma : M (List D)} {alts : Alts} (hA : AltsOk X k m alts) {σ : St} {H : Hp} {Q : VK} {ρ : Rho} {G : Gs} {ds : Sl} (rl : Rl X.K ρ G H) (sr : SRel X.K ρ H ds σ) (hl : Lk W ρ H ds σ)
    (p : Pst X.K W (DRel X.K) σ ρ H (bnd mo (methM m alts ma) ds G) Q) : tMV X (L2.CX X.prog X.w) k m (WE W.w) (LE X.K W mo) (LA X.K W ma) σ H Q := by
  refine le_seq p rl sr hl fun v H1 ρ1 G1 x s1 r1 sr1 hl1 d1 p1 => ?_
  unfold methM at p1
  cases q : insD G1 x with
  | none => simp only [q] at p1; exact p1.elim
  | some cf =>
    obtain ⟨C, fs⟩ := cf
    simp only [q] at p1
    cases q2 : alts.lookup C with
    | none => simp only [q2] at p1; exact p1.elim
    | some nf =>
      obtain ⟨n, fm⟩ := nf
      simp only [q2] at p1
      by_cases hn : (fs.lookup m).isNone = true
      case neg => rw [if_neg hn] at p1; exact p1.elim
      rw [if_pos hn] at p1
      obtain ⟨a, dx, xs, rfl, i1, i2⟩ := ins_at r1 q d1
      obtain ⟨c, g, fd, ps, hm, F, hb⟩ := hA.at_ q2
      refine ⟨a, _, dx, _, g, fd, ps, _, rfl, i1, c, hm, F, hb, lookup_none (Option.isNone_iff_eq_none.mp hn), ?_⟩
      exact la_seq p1 r1 sr1 hl1 fun ys H2 ρ2 G2 as s2 r2 sr2 hl2 d2 p2 => sp_of p2 r2 (drels_cons (d1.step s2) d2)
theorem me_meth {mo : M D} {ma : M (List D)} {alts : Alts} (hA : AltsOk X k m alts) (ho : ME X W o mo) (hr : Room k X.A) (tk : Takes X W.w) (ha : MA X W (e :: es) ma)
    (hst : starEach (e :: es) X.env = (false, eval e X.env) :: starEach es X.env := by rfl) (hpl : (backTo pos (starEach es X.env)).any (·.1) = false := by rfl)
    (ht : eval (.Call (.Attribute o m apos) (e :: es) [] pos) X.env = (do
      let ov ← eval o X.env
      standAt apos.atName
      let (f, first) ← holding [ov] (getMethod ov m pl)
      callWith pos f first (backTo pos (starEach (e :: es) X.env)) (backToKw pos (keywordEach [] X.env))) := by rfl) :
    ME X W (.Call (.Attribute o m apos) (e :: es) [] pos) (bnd mo (methM m alts ma)) := (pe_methV ho hr (fun σ => passAt tk σ) ha hst hpl ht).conv fun σ H Q ⟨ρ, G, ds, rl, sr, hl, p⟩ => meth_conv hA rl sr hl p
theorem me_meth0 {mo : M D} {alts : Alts} (hA : AltsOk X k m alts) (ho : ME X W o mo) (hr : Room k X.A) (tk : Takes X W.w)
    (ht : eval (.Call (.Attribute o m apos) [] [] pos) X.env = (do
      let ov ← eval o X.env
      standAt apos.atName
      let (f, first) ← holding [ov] (getMethod ov m pl)
      callWith pos f first (backTo pos (starEach [] X.env)) (backToKw pos (keywordEach [] X.env))) := by rfl) :
    ME X W (.Call (.Attribute o m apos) [] [] pos) (bnd mo (methM m alts (ret []))) := (pe_methV0 ho hr (fun σ => passAt tk σ) (t := LA X.K W (ret [])) (fun σ H Q ⟨ρ, G, ds, rl, sr, hl, p⟩ => p ρ H [] (Step.refl _ _) rl rfl) ht).conv fun σ H Q ⟨ρ, G, ds, rl, sr, hl, p⟩ => meth_conv hA rl sr hl p

/-! ### C(e, ..) -/
variable {C f : Addr} {fd : FuncData} {ps : List Str} {sp : Sp}
theorem run_makeS {pins : List (Addr × Obj)} {σ : St} {H : Hp} {s : Shared} {Q : VK} {us : List Value} {vs : List V} (M : Mk X.K C f) (F : FnOk X.prog X.w X.K X.mg X.base CX k f fd ps sp) (hr : Room (k + 1) X.A) (hb : Binds X.K fd ps [])
    (hx : PassesAt CX X σ (E σ)) (I : Inv X pins σ H s) (r : Vals vs us)
    (h : ∀ x dx, H x = none → H dx = none → dx ≠ x → sp (.ref x :: vs) (upd (upd H dx (.own x)) x (.ins C dx [])) (fun v H2 => v = .non ∧ Q (.ref x) H2) (E σ)) :
    wpAny (model X.prog X.w) X.A (call (.ref C) us) (EP X pins σ Q) X.xe s := by
  have hq := h (s.heap.objs.size + 1) s.heap.objs.size (I.hok.fresh (Nat.le_succ _)) (I.hok.fresh (Nat.le_refl _)) (Nat.ne_of_lt (Nat.lt_succ_self _))
  have I2 := Inv.made (C := C) I
  have r2 : Vals (V.ref (s.heap.objs.size + 1) :: vs) (Value.ref (s.heap.objs.size + 1) :: us) := .cons rfl r
  have hl : (Value.ref (s.heap.objs.size + 1) :: us).length = ps.length := by
    have e := r2.length
    rw [F.len _ _ _ _ hq] at e
    exact e.symm
  have b := hb { s with heap := (s.heap.push PySem.W.emptyDict).push (PySem.W.instObj C s.heap.objs.size) } (Value.ref (s.heap.objs.size + 1) :: us) I2.kIn (by rw [List.append_nil]; exact hl)
  rw [List.append_nil] at b
  refine wpAny_call (make_map (f := f) I.kIn M.makes M.init (beq_iff_eq.mp M.fn) (codeAny_mono (F.run _ X.stack _ _ ⟨Value.ref (s.heap.objs.size + 1) :: us, []⟩ (Value.ref (s.heap.objs.size + 1) :: us) _ _ (E σ) (hr.make C us [])
    (I2.env0.make C us []) b r2 hq) fun r s' hq' => ?_))
  cases r with
  | error e => exact hx pins _ _ e s' I2 hq'
  | ok fl =>
    cases fl with
    | ret u =>
      obtain ⟨v, H', I3, rv, ev, q3⟩ := I2.after hq'
      subst ev
      exact ⟨rv, ⟨V.ref (s.heap.objs.size + 1), H', I3, rfl, q3⟩⟩
    | next => exact False.elim hq'
    | brk => exact False.elim hq'
    | cont => exact False.elim hq'
def tMakeS (C : Addr) (sp : Sp) (E : St → XK) (t : TA) : TE := fun σ H Q => t σ H fun vs H1 => ∀ x dx, H1 x = none → H1 dx = none → dx ≠ x → sp (.ref x :: vs) (upd (upd H1 dx (.own x)) x (.ins C dx [])) (fun v H2 => v = .non ∧ Q (.ref x) H2) (E σ)
theorem pe_makeS (M : Mk X.K C f) (F : FnOk X.prog X.w X.K X.mg X.base CX k f fd ps sp) (hr : Room (k + 1) X.A) (hg : Gl X x) (hm : X.mg x = some (.ref C)) (hb : Binds X.K fd ps []) (hx : ∀ σ, PassesAt CX X σ (E σ))
    (ha : PA X (e :: es) t) (hdb : (x == ("__debug__" : Str)) = false := by decide) (he : starEach (e :: es) X.env = (false, eval e X.env) :: starEach es X.env := by rfl) (hpl : (backTo pos (starEach es X.env)).any (·.1) = false := by rfl) :
    PE X (.Call (.Name x p) (e :: es) [] pos) (tMakeS C sp E t) := by
  refine ⟨fun pins s σ H Q I h => ?_⟩
  refine wpAny_Call_Name_kw (ld_glob I hg hm ?_ hdb)
  refine PySem.W.callWith_K (h₀ := X.base) I.ok.mod.kin M.kp (thn (ha.run pos pins s σ H _ I h) fun us s1 ⟨vs, H1, I1, r, q⟩ => ⟨I1.kIn, ?_⟩) he hpl
  exact run_makeS M F hr hb (hx σ) I1 r q
theorem pe_makeS0 (M : Mk X.K C f) (F : FnOk X.prog X.w X.K X.mg X.base CX k f fd ps sp) (hr : Room (k + 1) X.A) (hg : Gl X x) (hm : X.mg x = some (.ref C)) (hb : Binds X.K fd ps []) (hx : ∀ σ, PassesAt CX X σ (E σ))
    (h0 : ∀ σ H Q, t σ H Q → Q [] H) (hdb : (x == ("__debug__" : Str)) = false := by decide) :
    PE X (.Call (.Name x p) [] [] pos) (tMakeS C sp E t) := by
  refine ⟨fun pins s σ H Q I h => ?_⟩
  refine wpAny_Call_Name_kw (ld_glob I hg hm ?_ hdb)
  exact PySem.W.callWith_K0 I.kIn M.kp (run_makeS (us := []) M F hr hb (hx σ) I .nil (h0 _ _ _ h))
def mkI (C : Str) (n : Nat) (fm : FM) (as : List D) : M D := fun _ G => if as.length + 1 = n then (match fm (.obj G.length :: as) (G ++ [.ins C []]) with
  | .ok .non G1 => .ok (.obj G.length) G1
  | .exc e G1 => .exc e G1
  | _ => .stuck) else .stuck
theorem make_conv {C : Str} {n : Nat} {fm : FM} {ma : M (List D)} {σ : St} {H : Hp} {Q : VK} {ρ : Rho} {G : Gs} {ds : Sl} (rl : Rl X.K ρ G H) (sr : SRel X.K ρ H ds σ) (hl : Lk W ρ H ds σ)
    (p : Pst X.K W (DRel X.K) σ ρ H (bnd ma (mkI C n fm) ds G) Q) : tMakeS (He.ga X.K C) (spM X.K n fm) (WE W.w) (LA X.K W ma) σ H Q := by
  refine la_seq p rl sr hl fun vs H1 ρ1 G1 as s1 r1 sr1 hl1 d1 p1 => ?_
  intro x dx hx hdx hne
  unfold mkI at p1
  by_cases hn : as.length + 1 = n
  case neg => rw [if_neg hn] at p1; exact p1.elim
  rw [if_pos hn] at p1
  have st1 := step_upd (o := .own x) r1 hdx
  have r2 := r1.updN (o := .own x) hdx
  have hx2 : upd H1 dx (.own x) x = none := by rw [upd_ne (Ne.symm hne)]; exact hx
  have st2 := step_alloc (o := .ins (He.ga X.K C) dx []) r2 hx2
  have r3 : Rl X.K (ρ1.more x) (G1 ++ [.ins C []]) (upd (upd H1 dx (.own x)) x (.ins (He.ga X.K C) dx [])) := r2.alloc hx2 ⟨dx, [], upd_same, rfl⟩
  have hob : ∀ {ρ' : Rho} {H' : Hp}, (∃ t, ρ'.os = (ρ1.more x).os ++ t) → DRel X.K ρ' H' (.obj G1.length) (.ref x) := fun {ρ' H'} ⟨t, et⟩ => ⟨x, by
    rw [et]
    show ((ρ1.os ++ [x]) ++ t)[G1.length]? = _
    rw [r1.len]
    simp, rfl⟩
  refine ⟨by rw [List.length_cons, ← d1.length]; exact hn, ρ1.more x, G1 ++ [.ins C []], .obj G1.length :: as, r3, drels_cons (hob ⟨[], by simp⟩) (d1.step (st1.trans st2)), ?_⟩
  cases q : fm (.obj G1.length :: as) (G1 ++ [.ins C []]) with
  | stuck => rw [q] at p1; exact p1
  | exc e G2 => rw [q] at p1; exact fun ρ3 H3 c dd s3 r4 x4 => p1 ρ3 H3 c dd ((st1.trans st2).trans s3) r4 x4
  | ok d G2 =>
    rw [q] at p1
    cases d with
    | non =>
      intro ρ3 H3 v s3 r4 d4
      refine ⟨d4, p1 ρ3 H3 (.ref x) ((st1.trans st2).trans s3) r4 ?_⟩
      exact hob s3.ext
    | _ => exact p1.elim
theorem me_make {n : Nat} {fm : FM} {ma : M (List D)} (M : Mk X.K (He.ga X.K x) f) (F : FnOk X.prog X.w X.K X.mg X.base (L2.CX X.prog X.w) k f fd ps (spM X.K n fm)) (hr : Room (k + 1) X.A) (hg : Gl X x) (hm : X.mg x = some (.ref (He.ga X.K x))) (hb : Binds X.K fd ps []) (tk : Takes X W.w)
    (ha : MA X W (e :: es) ma) (hdb : (x == ("__debug__" : Str)) = false := by decide) (he : starEach (e :: es) X.env = (false, eval e X.env) :: starEach es X.env := by rfl) (hpl : (backTo pos (starEach es X.env)).any (·.1) = false := by rfl) :
    ME X W (.Call (.Name x p) (e :: es) [] pos) (bnd ma (mkI x n fm)) := (pe_makeS M F hr hg hm hb (fun σ => passAt tk σ) ha hdb he hpl).conv fun σ H Q ⟨ρ, G, ds, rl, sr, hl, p⟩ => make_conv rl sr hl p
theorem me_make0 {n : Nat} {fm : FM} (M : Mk X.K (He.ga X.K x) f) (F : FnOk X.prog X.w X.K X.mg X.base (L2.CX X.prog X.w) k f fd ps (spM X.K n fm)) (hr : Room (k + 1) X.A) (hg : Gl X x) (hm : X.mg x = some (.ref (He.ga X.K x))) (hb : Binds X.K fd ps []) (tk : Takes X W.w)
    (hdb : (x == ("__debug__" : Str)) = false := by decide) :
    ME X W (.Call (.Name x p) [] [] pos) (bnd (ret []) (mkI x n fm)) := (pe_makeS0 M F hr hg hm hb (fun σ => passAt tk σ) (t := LA X.K W (ret [])) (fun σ H Q ⟨ρ, G, ds, rl, sr, hl, p⟩ => p ρ H [] (Step.refl _ _) rl rfl) hdb).conv fun σ H Q ⟨ρ, G, ds, rl, sr, hl, p⟩ => make_conv rl sr hl p

/-! ### globals -/
theorem me_glo (hg : Gl X x) (hm : X.mg x = some (.ref (He.ga X.K x))) (hd : (x == ("__debug__" : Str)) = false := by decide) : ME X W (.Name x pos) (ret (.glo x)) := me_c (pe_glob (v := .ref (He.ga X.K x)) hg hm rfl hd) fun _ _ => by simp [DRel]
theorem me_gint {i : Int} (hg : Gl X x) (hm : ∃ t, X.mg x = some (.int i t)) (hd : (x == ("__debug__" : Str)) = false := by decide) : ME X W (.Name x pos) (ret (.int i)) := by
  obtain ⟨t, hm⟩ := hm
  exact me_c (pe_glob (v := .int i) hg hm ⟨t, rfl⟩ hd) fun _ _ => by simp [DRel]
theorem me_gstr {z : Str} (hg : Gl X x) (hm : ∃ t, X.mg x = some (.str z t)) (hd : (x == ("__debug__" : Str)) = false := by decide) : ME X W (.Name x pos) (ret (.str z)) := by
  obtain ⟨t, hm⟩ := hm
  exact me_c (pe_glob (v := .str z) hg hm ⟨t, rfl⟩ hd) fun _ _ => by simp [DRel]
theorem me_gval {d : D} (hg : Gl X x) (hm : X.mg x = some (.ref (He.ga X.K x))) (hD : ∀ ρ H, DRel X.K ρ H d (.ref (He.ga X.K x))) (hd : (x == ("__debug__" : Str)) = false := by decide) : ME X W (.Name x pos) (ret d) := me_c (pe_glob (v := .ref (He.ga X.K x)) hg hm rfl hd) hD
theorem me_bty {T : String} (hg : Gl X x) (hm : X.mg x = none) (hv : bootBuiltins x = some (.type T)) (hn : x ≠ "__name__" := by decide) (hd : (x == ("__debug__" : Str)) = false := by decide) : ME X W (.Name x pos) (ret (.ty T)) := me_c (pe_bltn (v := .ty T) hg hm hv rfl hn hd) fun _ _ => by simp [DRel]
end
/-- a tuple of strings, written in the module -/
def tupSB (K : PySem.W.Frag) (x : Str) (ws : List Str) : Bool := match K.lookup (He.ga K x) with
  | some ⟨.type c, _, .seq its _, _⟩ => decide (c = "tuple") && (decide (its.size ≤ sizeLine) && go ws its.toList)
  | _ => false
where go : List Str → List Value → Bool
  | [], [] => true
  | w :: ws, .str z _ :: vs => decide (w = z) && go ws vs
  | _, _ => false
theorem tupSB_go : ∀ {ws : List Str} {vs : List Value}, tupSB.go ws vs = true → Vals (ws.map V.str) vs
  | [], [], _ => .nil
  | w :: ws, v :: vs, h => by
    cases v with
    | str z t =>
      simp only [tupSB.go, Bool.and_eq_true, decide_eq_true_eq] at h
      obtain ⟨rfl, h2⟩ := h
      exact .cons ⟨t, rfl⟩ (tupSB_go h2)
    | _ => simp [tupSB.go] at h
  | [], _ :: _, h => by simp [tupSB.go] at h
  | _ :: _, [], h => by simp [tupSB.go] at h
theorem drels_strs {K : PySem.W.Frag} {ρ : Rho} {H : Hp} : ∀ ws : List Str, DRels K ρ H (ws.map D.str) (ws.map V.str)
  | [] => rfl
  | w :: ws => drels_cons rfl (drels_strs ws)
theorem tupSB_ok {K : PySem.W.Frag} {x : Str} {ws : List Str} (h : tupSB K x ws = true) : ∀ ρ H, DRel K ρ H (.tup (ws.map D.str)) (.ref (He.ga K x)) := by
  intro ρ H
  unfold tupSB at h
  cases q : K.lookup (He.ga K x) with
  | none => rw [q] at h; cases h
  | some o =>
    obtain ⟨oc, od, dt, osl⟩ := o
    rw [q] at h
    cases oc with
    | type c =>
      cases dt with
      | seq its n =>
        simp only [Bool.and_eq_true, decide_eq_true_eq] at h
        obtain ⟨rfl, h2, h3⟩ := h
        exact ⟨_, ws.map V.str, rfl, .inr ⟨_, its, n, q, rfl, rfl, h2, tupSB_go h3⟩, drels_strs ws⟩
      | _ => cases h
    | _ => cases h
end M3
end L2

set_option Elab.async false
set_option linter.all false
set_option maxRecDepth 100000
set_option maxHeartbeats 2000000
/-! M3l: the head's facts. -/
namespace L2
namespace M3
open PySem PySem.Spec PyProof.Rows

/-- a part of the heap that holds what the names, the statics reach -/
def asE (g : Addr → Option Obj) : Nat → List Addr
  | 0 => [mainGlobals, cStatics]
  | n + 1 => He.growD g (asE g n)
/-- an own error with a field -/
structure SupD where
  C : Str
  fld : Str
  qual : Str
  msg : Str
  params : Arguments
  body : List Stmt
  scope : Scope
abbrev FnS : Type := Option (Str × Str × Arguments × FuncBody × Scope × Addr × List Str × Addr)
def SupD.fI (K : PySem.W.Frag) (d : SupD) : Addr := He.ma K (He.ga K d.C) "__init__"
def fnS (K : PySem.W.Frag) (a : Addr) : FnS := match K.lookup a with
  | some ⟨_, _, .func fd, _⟩ => some (fd.name, fd.qualname, fd.params, fd.body, fd.scope, fd.globals, fd.closure.map (·.1), fd.builtins)
  | _ => none
def SupD.val (d : SupD) : FnS := some ("__init__", d.qual, d.params, .stmts d.body, d.scope, mainGlobals, [("__class__" : Str)], builtinsNs)
def excB (K : PySem.W.Frag) (C : Addr) : Bool := match K.lookup C with
  | some ⟨.type c, _, .cls cd, sl⟩ => (match cd.mro, sl.toList with
    | .ref C' :: bm, [_, _, _, _, some (.builtin n), _] => decide (c = "type") && (C' == C && (n == "ValueError.__new__" && (!cd.hasDel && (cd.hasDict && PySem.HandSPX.refsVE bm))))
    | _, _ => false)
  | _ => false
theorem excB_ok {K : PySem.W.Frag} {C : Addr} (h : excB K C = true) : ∃ nm q N bs bm sn sub ab col dd k0 k1 k2 k3 k5, K.lookup C = some (excClassObj nm q C N bs bm true sn sub ab col dd k0 k1 k2 k3 k5 "ValueError.__new__") ∧ PySem.HandSPX.refsVE bm = true := by
  unfold excB at h
  split at h
  · rename_i c dd cd sl ho
    split at h
    · rename_i C' bm k0 k1 k2 k3 n k5 hm hs
      simp only [Bool.and_eq_true, beq_iff_eq, Bool.not_eq_true', decide_eq_true_eq] at h
      obtain ⟨rfl, rfl, rfl, hdel, hdct, ht⟩ := h
      obtain ⟨nm, bs, mro, ns, qn, hd, sn, sub, ab, col, del⟩ := cd
      dsimp only at hm hdel hdct
      subst hm hdel hdct
      have hsl : sl = #[k0, k1, k2, k3, some (.builtin "ValueError.__new__"), k5] := by
        obtain ⟨l⟩ := sl
        simp only at hs
        rw [hs]
      subst hsl
      exact ⟨nm, qn, ns, bs, bm, sn, sub, ab, col, dd, k0, k1, k2, k3, k5, ho, ht⟩
    · cases h
  · cases h
def codB (P : Program) (K : PySem.W.Frag) (C fI : Addr) (qual : Str) : Bool := match K.lookup fI with
  | some ⟨_, _, .func fd, _⟩ => PySem.W.codeIn K fd.code qual && ((match fd.defaults, fd.kwdefaults with | .none, .none => true | _, _ => false) && ((match fd.code with
    | .ref cda => (match K.lookup cda with
      | some ⟨_, _, .fields vs, _⟩ => (match (vs[2]? : Option Value) with
        | some (.str file _) => (P.main.file : Str) == file
        | _ => false)
      | _ => false)
    | _ => false) && (match fd.closure with
    | [(_, cc)] => (match K.lookup cc with
      | some ⟨_, _, .cell (some (.ref C')), _⟩ => C' == C
      | _ => false)
    | _ => false)))
  | _ => false
def SupD.ok (P : Program) (K : PySem.W.Frag) (d : SupD) : Bool := excB K (He.ga K d.C) && (He.eqO (PySem.W.findIn K (.ref (He.ga K d.C)) "__setattr__") (some (some (.builtin "object.__setattr__"))) && (xfB K (He.ga K d.C) && (He.eqO (PySem.W.findIn K (.ref (He.ga K d.C)) d.fld) (some none) &&
  (He.eqO (PySem.W.findIn K (.ref (He.ga K d.C)) "__init__") (some (some (.ref (d.fI K)))) && (decide (PySem.W.typeIn K (.ref (d.fI K)) = some (.type "function")) && (PySem.W.keepIn K (.ref (He.ga K d.C)) && (decide (PySem.W.typeIn K (.ref (He.ga K d.C)) = some (.type "type")) &&
  (He.eqO (PySem.W.ks_superIn K (He.ga K d.C) (He.ga K d.C) "__init__") (some (some (.builtin "ValueError.__init__"))) && (decide (PySem.W.subIn K (.ref (He.ga K d.C)) (.type "ValueError") = some true) && (decide (PySem.W.mroIn K (He.ga K d.C) (.ref (He.ga K d.C)) = some true) && (He.eqO (PySem.W.nsIn K cStatics "thirdparty.any") (some none) &&
  codB P K (He.ga K d.C) (d.fI K) d.qual)))))))))))
theorem codB_ok {P : Program} {K : PySem.W.Frag} {d : SupD} {C : Addr} {p1 p2 q1 q2 q3 q4 q5 q6 r1 r2 r3 r4 : Pos} (hc : codB P K C (d.fI K) d.qual = true) (e : fnS K (d.fI K) = d.val) (hp : d.params = PySem.SupX.iA d.fld p1 p2) (hb : d.body = PySem.SupX.iB d.fld d.msg q1 q2 q3 q4 q5 q6 r1 r2 r3 r4) (hs : d.scope = PySem.SupX.iS d.fld)
    (hl : (q3.endLine == q5.line) = true) :
    ∃ (oc : Value) (od : Option Addr) (doc pm : Value) (an : Option Addr) (cda : Addr) (ct : Value) (osl : Array (Option Value)) (cc : Addr) (qual msg : Str) (p1 p2 q1 q2 q3 q4 q5 q6 r1 r2 r3 r4 : Pos),
    K.lookup (d.fI K) = some ⟨oc, od, .func (PySem.W.ksFn "__init__" qual (PySem.SupX.iA d.fld p1 p2) (PySem.SupX.iB d.fld msg q1 q2 q3 q4 q5 q6 r1 r2 r3 r4) (PySem.SupX.iS d.fld) .none .none doc pm an (.ref cda) ct cc), osl⟩ ∧ PySem.W.codeIn K (.ref cda) qual = true ∧ (q3.endLine == q5.line) = true ∧
    (∃ (ccl : Value) (cdd : Option Addr) (vs : Array Value) (ccs : Array (Option Value)) (file : Str) (tf : Tok), K.lookup cda = some ⟨ccl, cdd, .fields vs, ccs⟩ ∧ vs[2]? = some (.str file tf) ∧ ((P.main.file : Str) == file) = true) ∧
    ∃ (cl : Value) (cld : Option Addr) (csl : Array (Option Value)), K.lookup cc = some ⟨cl, cld, .cell (some (.ref C)), csl⟩ := by
  unfold fnS at e
  unfold codB at hc
  cases q : K.lookup (d.fI K) with
  | none => rw [q] at hc; cases hc
  | some o =>
    obtain ⟨oc, od, dt, osl⟩ := o
    rw [q] at hc e
    cases dt with
    | func fd =>
      obtain ⟨n1, n2, n3, n4, n5, n6, n7, n8, n9, n10, n11, n12, n13, n14, n15⟩ := fd
      have e2 : (some (n1, n2, n3, n4, n5, n6, n7.map (·.1), n15) : FnS) = some (("__init__" : Str), d.qual, d.params, .stmts d.body, d.scope, mainGlobals, [("__class__" : Str)], builtinsNs) := e
      simp only [Option.some.injEq, Prod.mk.injEq] at e2
      obtain ⟨h1, h2, h3, h4, h5, h6, h7, h8⟩ := e2
      subst h1 h2 h3 h4 h5 h6 h8
      dsimp only at hc
      obtain ⟨c1, hc⟩ := He.ba hc
      obtain ⟨c2, hc⟩ := He.ba hc
      obtain ⟨c3, c4⟩ := He.ba hc
      cases n8 with
      | none =>
        cases n9 with
        | none =>
          cases n13 with
          | ref cda =>
            cases n7 with
            | nil => cases c4
            | cons y r =>
              cases r with
              | cons _ _ => cases c4
              | nil =>
                obtain ⟨y1, cc⟩ := y
                have hy : y1 = ("__class__" : Str) := by simpa using h7
                subst hy
                dsimp only at c3 c4
                cases z2 : K.lookup cda with
                | none => rw [z2] at c3; cases c3
                | some o2 =>
                  obtain ⟨o1, o2, o3, o4⟩ := o2
                  rw [z2] at c3
                  cases o3 with
                  | fields vs =>
                    dsimp only at c3
                    cases q3' : vs[2]? with
                    | none => rw [q3'] at c3; cases c3
                    | some fv =>
                      rw [q3'] at c3
                      cases fv with
                      | str file tf =>
                        cases q4' : K.lookup cc with
                        | none => rw [q4'] at c4; cases c4
                        | some o5 =>
                          obtain ⟨u1, u2, u3, u4⟩ := o5
                          rw [q4'] at c4
                          cases u3 with
                          | cell cv =>
                            cases cv with
                            | none => cases c4
                            | some cvv =>
                              cases cvv with
                              | ref C' =>
                                have hC : C' = C := beq_iff_eq.mp c4
                                subst hC
                                rw [hp, hb, hs]
                                refine ⟨oc, od, n10, n11, n12, cda, n14, osl, cc, d.qual, d.msg, p1, p2, q1, q2, q3, q4, q5, q6, r1, r2, r3, r4, rfl, c1, hl, ⟨o1, o2, vs, o4, file, tf, z2, q3', c3⟩, u1, u2, u4, q4'⟩
                              | _ => cases c4
                          | _ => cases c4
                      | _ => cases c3
                  | _ => cases c3
          | _ => cases c3
        | _ => cases c2
      | _ => cases c2
    | _ => cases hc
structure SupShape (d : SupD) : Prop where
  ex : ∃ (p1 p2 q1 q2 q3 q4 q5 q6 r1 r2 r3 r4 : Pos), d.params = PySem.SupX.iA d.fld p1 p2 ∧ d.body = PySem.SupX.iB d.fld d.msg q1 q2 q3 q4 q5 q6 r1 r2 r3 r4 ∧ d.scope = PySem.SupX.iS d.fld ∧ (q3.endLine == q5.line) = true
  f1 : d.fld ≠ "self"
  f2 : d.fld ≠ "super"
  f3 : d.fld ≠ "__class__"
  f4 : (d.fld == ("__debug__" : Str)) = false
  bd : ∀ (qual msg : Str) (doc pm : Value) (an : Option Addr) (cda : Addr) (ct : Value) (cc : Addr) (p1 p2 q1 q2 q3 q4 q5 q6 r1 r2 r3 r4 : Pos) (x v : Value), bindArgs (PySem.W.ksFn "__init__" qual (PySem.SupX.iA d.fld p1 p2) (PySem.SupX.iB d.fld msg q1 q2 q3 q4 q5 q6 r1 r2 r3 r4) (PySem.SupX.iS d.fld) .none .none doc pm an (.ref cda) ct cc) ⟨[x, v], []⟩ = pure [(("self" : Str), x), (d.fld, v)]
theorem supTxt {P : Program} {K : PySem.W.Frag} {mg : Str → Option Value} {d : SupD} (h : d.ok P K = true) (e : fnS K (d.fI K) = d.val) (S : SupShape d) (noS : mg "super" = none) (top : (P.main.scope.names.lookup ("super" : Str)).isSome = false) : PySem.SupX.SupTxt P K mg (He.ga K d.C) (d.fI K) d.fld := by
  unfold SupD.ok at h
  obtain ⟨a1, h⟩ := He.ba h
  obtain ⟨a2, h⟩ := He.ba h
  obtain ⟨a3, h⟩ := He.ba h
  obtain ⟨a4, h⟩ := He.ba h
  obtain ⟨a5, h⟩ := He.ba h
  obtain ⟨a6, h⟩ := He.ba h
  obtain ⟨a7, h⟩ := He.ba h
  obtain ⟨a8, h⟩ := He.ba h
  obtain ⟨a9, h⟩ := He.ba h
  obtain ⟨a10, h⟩ := He.ba h
  obtain ⟨a11, h⟩ := He.ba h
  obtain ⟨a12, a13⟩ := He.ba h
  obtain ⟨p1, p2, q1, q2, q3, q4, q5, q6, r1, r2, r3, r4, s1, s2, s3, s4⟩ := S.ex
  have x := xfB_ok a3
  exact ⟨excB_ok a1, He.eqO_ok a2, x.ga, x.gg, He.eqO_ok a4, He.eqO_ok a5, of_decide_eq_true a6, a7, x.exC, of_decide_eq_true a8, x.hdC, He.eqO_ok a9, of_decide_eq_true a10, of_decide_eq_true a11, He.eqO_ok a12, noS, top, S.f1, S.f2, S.f3, S.f4, S.bd, codB_ok a13 e s1 s2 s3 s4⟩

/-! ### facts of our own -/
inductive Fb where
  | tup (x : Str) (ws : List Str)
  | insf (C : Str)
  | exc (C : Str)
  | xf (C f : Str)
  | kit (a b : CT) (r : Bool)
  | exm (C : Str) (c : CT) (r : Bool)
def eqV (a b : Option Value) : Bool := decide (a = b)
def Fb.ok (K : PySem.W.Frag) : Fb → Bool
  | .tup x ws => tupSB K x ws
  | .insf C => He.Fa.ok K (.cls C) && (He.eqO (PySem.W.findIn K (.ref (He.ga K C)) "__class__") (some (some (.builtin "object.__class__"))) && (He.eqO (PySem.W.specialIn K (.builtin "object.__class__") "__get__") (some (some (.builtin "getset_descriptor.__get__"))) && (decide (PySem.W.takesIn K (.builtin "object.__class__") = some true) && decide (PySem.W.mroIn K (He.ga K C) (.type "object") = some true))))
  | .exc C => xfB K (He.ga K C) && (He.eqO (PySem.W.findIn K (.ref (He.ga K C)) "__class__") (some (some (.builtin "object.__class__"))) && (He.eqO (PySem.W.specialIn K (.builtin "object.__class__") "__get__") (some (some (.builtin "getset_descriptor.__get__"))) && (decide (PySem.W.takesIn K (.builtin "object.__class__") = some true) && decide (PySem.W.mroIn K (He.ga K C) (.type "object") = some true))))
  | .xf C f => xfB K (He.ga K C) && He.eqO (PySem.W.findIn K (.ref (He.ga K C)) f) (some none)
  | .kit a b r => decide (PySem.W.kitOne K (cv K a) (cv K b) = some r)
  | .exm C c r => decide (PySem.W.exmOne K (.ref (He.ga K C)) (cv K c) = some r)
theorem insf_ok {K : PySem.W.Frag} {C : Str} (h : (Fb.insf C).ok K = true) : InsF K (He.ga K C) := by
  unfold Fb.ok at h
  obtain ⟨a1, h⟩ := He.ba h
  obtain ⟨a2, h⟩ := He.ba h
  obtain ⟨a3, h⟩ := He.ba h
  obtain ⟨a4, a5⟩ := He.ba h
  exact ⟨He.cls_ok a1, He.eqO_ok a2, He.eqO_ok a3, of_decide_eq_true a4, of_decide_eq_true a5⟩
theorem excb_ok {K : PySem.W.Frag} {C : Str} (h : (Fb.exc C).ok K = true) : ExcC K (He.ga K C) := by
  unfold Fb.ok at h
  obtain ⟨a1, h⟩ := He.ba h
  obtain ⟨a2, h⟩ := He.ba h
  obtain ⟨a3, h⟩ := He.ba h
  obtain ⟨a4, a5⟩ := He.ba h
  have x := xfB_ok a1
  exact ⟨x.ga, x.gg, x.exC, x.hdC, He.eqO_ok a2, He.eqO_ok a3, of_decide_eq_true a4, of_decide_eq_true a5⟩
theorem xf_ok {K : PySem.W.Frag} {C f : Str} (h : (Fb.xf C f).ok K = true) : XfC K (He.ga K C) ∧ PySem.W.findIn K (.ref (He.ga K C)) f = some none := by
  unfold Fb.ok at h
  obtain ⟨a1, a2⟩ := He.ba h
  exact ⟨xfB_ok a1, He.eqO_ok a2⟩
/-! ### the class table by lists -/
structure Tab where
  ic : List Str
  nf : List (Str × Str)
  ec : List Str
  xf : List (Str × Str)
  kt : List (CT × CT × Bool)
  em : List (Str × CT × Bool)
def Tab.facts (t : Tab) : List Fb := t.ic.map Fb.insf ++ (t.ec.map Fb.exc ++ (t.xf.map (fun p => Fb.xf p.1 p.2) ++ (t.kt.map (fun p => Fb.kit p.1 p.2.1 p.2.2) ++ t.em.map (fun p => Fb.exm p.1 p.2.1 p.2.2))))
def Tab.ok (K : PySem.W.Frag) (t : Tab) : Bool := t.facts.all (Fb.ok K) && t.nf.all fun p => He.Fa.ok K (.noat p.1 p.2)
def Tab.look {α : Type} (p : α → Bool) (l : List (α × Bool)) : Option Bool := (l.find? fun q => p q.1).map (·.2)
def Tab.ktF (t : Tab) (a b : CT) : Option Bool := match kt0 a b with
  | some r => some r
  | none => (t.kt.find? fun p => decide (p.1 = a) && decide (p.2.1 = b)).map (·.2.2)
def Tab.emF (t : Tab) (c : CT) (C : Str) : Option Bool := (t.em.find? fun p => decide (p.1 = C) && decide (p.2.1 = c)).map (·.2.2)
section
variable {K : PySem.W.Frag} {t : Tab}
theorem Tab.fb (h : t.ok K = true) {f : Fb} (m : f ∈ t.facts) : f.ok K = true := List.all_eq_true.mp (He.ba h).1 f m
theorem Tab.em_ok (h : t.ok K = true) {c : CT} : ∀ C b, t.emF c C = some b → PySem.W.exmOne K (.ref (He.ga K C)) (cv K c) = some b := by
  intro C b e
  unfold Tab.emF at e
  cases q : t.em.find? (fun p => decide (p.1 = C) && decide (p.2.1 = c)) with
  | none => rw [q] at e; cases e
  | some p =>
    rw [q] at e
    cases e
    have hm := List.mem_of_find?_eq_some q
    have hp := List.find?_some q
    simp only [Bool.and_eq_true, decide_eq_true_eq] at hp
    obtain ⟨rfl, rfl⟩ := hp
    have := Tab.fb h (f := .exm p.1 p.2.1 p.2.2) (by unfold Tab.facts; simp only [List.mem_append, List.mem_map]; exact .inr (.inr (.inr (.inr ⟨p, hm, rfl⟩))))
    exact of_decide_eq_true this
def Tab.tf (t : Tab) : TF := ⟨t.ktF, fun C => t.ic.contains C, fun C f => t.nf.contains (C, f), fun C => t.ec.contains C, fun C f => t.xf.contains (C, f)⟩
def Tab.cf (h : t.ok K = true) : CF K where
  T := t.tf
  hkt := fun a b r e => by
    replace e : t.ktF a b = some r := e
    unfold Tab.ktF at e
    cases q0 : kt0 a b with
    | some r' => rw [q0] at e; cases e; exact kt0_ok _ _ _ q0
    | none =>
      rw [q0] at e
      simp only at e
      cases q : t.kt.find? (fun p => decide (p.1 = a) && decide (p.2.1 = b)) with
      | none => rw [q] at e; cases e
      | some p =>
        rw [q] at e
        cases e
        have hm := List.mem_of_find?_eq_some q
        have hp := List.find?_some q
        simp only [Bool.and_eq_true, decide_eq_true_eq] at hp
        obtain ⟨rfl, rfl⟩ := hp
        have := Tab.fb h (f := .kit p.1 p.2.1 p.2.2) (by unfold Tab.facts; simp only [List.mem_append, List.mem_map]; exact .inr (.inr (.inr (.inl ⟨p, hm, rfl⟩))))
        exact of_decide_eq_true this
  hic := fun C e => insf_ok (Tab.fb h (f := .insf C) (by unfold Tab.facts; simp only [List.mem_append, List.mem_map]; exact .inl ⟨C, by simpa [Tab.tf] using e, rfl⟩))
  hnf := fun C f e => He.noat_ok (List.all_eq_true.mp (He.ba h).2 (C, f) (by simpa [Tab.tf] using e))
  hec := fun C e => excb_ok (Tab.fb h (f := .exc C) (by unfold Tab.facts; simp only [List.mem_append, List.mem_map]; exact .inr (.inl ⟨C, by simpa [Tab.tf] using e, rfl⟩)))
  hxf := fun C f e => xf_ok (Tab.fb h (f := .xf C f) (by unfold Tab.facts; simp only [List.mem_append, List.mem_map]; exact .inr (.inr (.inl ⟨(C, f), by simpa [Tab.tf] using e, rfl⟩))))
end

/-! ### the Hook -/
structure Hd where
  P : Program
  n : Nat
  fa : List He.Fa
  tb : List (Str × List Str)
  t : Tab
  fn : List He.DefD
  sn : List SupD
abbrev AlE : Type := Bool × List He.FnW × List FnS
def Hd.okB (h : Hd) (K : PySem.W.Frag) : Bool := (h.fa.all fun f => f.ok K) && ((h.tb.all fun p => tupSB K p.1 p.2) && (h.t.ok K && ((h.fn.all fun d => d.ok K) && h.sn.all fun d => d.ok h.P K)))
def Hd.obs (h : Hd) (K : PySem.W.Frag) : AlE := (h.okB K, h.fn.map (fun d => He.fnW K d.at_), h.sn.map fun d => fnS K (d.fI K))
def Hd.val (h : Hd) : AlE := (true, h.fn.map He.DefD.val, h.sn.map SupD.val)
def Hd.says (h : Hd) (K : PySem.W.Frag) : Prop := h.obs K = h.val
def Hd.hook (h : Hd) : PySem.W.Hook where
  α := AlE
  obs := fun s => h.obs (He.frG s.heap.get? (asE s.heap.get? h.n))
  val := fun _ => h.val
  says := fun _ hp => ∃ K : PySem.W.Frag, K.In hp ∧ h.says K
  of := fun _ _ e => ⟨_, He.frG_in, e⟩
  keeps := fun _ _ _ ⟨K, hK, c⟩ k => ⟨K, PySem.W.Frag.In.keeps hK k, c⟩
def Hd.ob (h : Hd) (s : PySem.W.SharedT) : AlE := h.obs (He.frG (HandSHeadRun.getT s) (asE (HandSHeadRun.getT s) h.n))
theorem Hd.ob_eq (h : Hd) (s : PySem.W.SharedT) : h.ob s = h.hook.obs s.abs := by
  have e : HandSHeadRun.getT s = s.abs.heap.get? := funext (HandSHeadRun.getT_eq s)
  unfold Hd.ob
  rw [e]
  rfl
section
variable {h : Hd} {K : PySem.W.Frag}
theorem Hd.b (c : h.says K) : h.okB K = true := congrArg (fun z : AlE => z.1) c
theorem Hd.fact (c : h.says K) (i : Nat) {f : He.Fa} (e : h.fa[i]? = some f := by rfl) : f.ok K = true := List.all_eq_true.mp (He.ba (Hd.b c)).1 f (List.mem_of_getElem? e)
theorem Hd.tab (c : h.says K) (i : Nat) {x : Str} {ws : List Str} (e : h.tb[i]? = some (x, ws) := by rfl) : tupSB K x ws = true := List.all_eq_true.mp (He.ba (He.ba (Hd.b c)).2).1 (x, ws) (List.mem_of_getElem? e)
theorem Hd.tok (c : h.says K) : h.t.ok K = true := (He.ba (He.ba (He.ba (Hd.b c)).2).2).1
theorem Hd.def_ (c : h.says K) (i : Nat) {d : He.DefD} (e : h.fn[i]? = some d := by rfl) : ∃ fd, FunD K d.name d.qual d.params d.body d.scope (d.dvs K) (d.kws K) (He.fAd K d.at_) fd := by
  have c2 := (He.ba (He.ba (He.ba (He.ba (Hd.b c)).2).2).2).1
  have e1 : h.fn.map (fun d => He.fnW K d.at_) = h.fn.map He.DefD.val := congrArg (fun z : AlE => z.2.1) c
  have e2 : (h.fn.map fun d => He.fnW K d.at_)[i]? = (h.fn.map He.DefD.val)[i]? := by rw [e1]
  rw [List.getElem?_map, List.getElem?_map, e] at e2
  exact He.DefD.funD (Option.some.inj e2) (List.all_eq_true.mp c2 d (List.mem_of_getElem? e))
theorem Hd.sup {mg : Str → Option Value} (c : h.says K) (i : Nat) {d : SupD} (S : SupShape d) (noS : mg "super" = none) (top : (h.P.main.scope.names.lookup ("super" : Str)).isSome = false) (e : h.sn[i]? = some d := by rfl) : PySem.SupX.SupTxt h.P K mg (He.ga K d.C) (d.fI K) d.fld := by
  have c2 := (He.ba (He.ba (He.ba (He.ba (Hd.b c)).2).2).2).2
  have e1 : h.sn.map (fun d => fnS K (d.fI K)) = h.sn.map SupD.val := congrArg (fun z : AlE => z.2.2) c
  have e2 : (h.sn.map fun d => fnS K (d.fI K))[i]? = (h.sn.map SupD.val)[i]? := by rw [e1]
  rw [List.getElem?_map, List.getElem?_map, e] at e2
  exact supTxt (List.all_eq_true.mp c2 d (List.mem_of_getElem? e)) (Option.some.inj e2) S noS top
end
end M3
end L2

set_option Elab.async false
set_option linter.all false
set_option maxRecDepth 100000
set_option maxHeartbeats 2000000
/-! M3m: defs by name, what the printed proofs take. -/
namespace L2
namespace M3
open PySem PySem.Spec PyProof.Rows

/-- a def keeps its mirror -/
structure OkF (P : Program) (w : World) (K : PySem.W.Frag) (mg : Str → Option Value) (base : Heap) (k : Nat) (a : Addr) (ps : List Str) (fm : FM) : Prop where
  ex : ∃ fd, FnOk P w K mg base (L2.CX P w) k a fd ps (spM K ps.length fm) ∧ Binds K fd ps [] ∧ (∀ (s : Shared) (us : List Value), us.length = ps.length → BindsTo s fd ⟨us, []⟩ (ps.zip us)) ∧ ∃ oc od sl, K.lookup a = some ⟨oc, od, .func fd, sl⟩
  kp : PySem.W.keepIn K (.ref a) = true
section
variable {P : Program} {w : World} {K : PySem.W.Frag} {mg : Str → Option Value} {base : Heap} {x qual : Str} {params : Arguments} {body : List Stmt} {scope : Scope} {f : Addr}
theorem OkF.trim {k : Nat} {ps : List Str} {fm : FM} (j : Nat) (o : OkF P w K mg base k f ps fm) : OkF P w K mg base k f ps (trim j fm) := by
  obtain ⟨⟨fd, h1, h2⟩, kp⟩ := o
  exact ⟨⟨fd, trim_ok h1, h2⟩, kp⟩
theorem okF_of {N ps : List Str} {k : Nat} {b : MS} (F : ∃ fd, FunD K x qual params body scope [] [] f fd) (S : FnScope N ps scope)
    (hb : ∀ fd, FunD K x qual params body scope [] [] f fd → ∀ (s : Shared) (us : List Value), us.length = ps.length → BindsTo s fd ⟨us, []⟩ (ps.zip us))
    (hbody : ∀ (cdv : Value) (A : Around) (outer : List Env) (s : Shared) (H : Hp) (E : XK), Room k (A.deeper (envOfC qual scope s.heap.objs.size f cdv)) → MSs (cxOf (L2.CX P w) P w K mg base N qual scope f cdv A outer s H E) (WD E) body b) :
    OkF P w K mg base (k + 1) f ps (runF N.length b) := by
  obtain ⟨fd, F⟩ := F
  obtain ⟨oc, od, dV, kV, doc, pm, an, cdv, ct, osl, e, lk, _⟩ := F.ex
  exact ⟨⟨fd, fn_okX F S hbody, fun s us _ hl => by
    rw [List.append_nil] at hl ⊢
    exact hb fd F s us hl, hb fd F, oc, od, osl, lk⟩, F.kp⟩
end
/-! calls by name -/
section
variable {X : Cx} {W : Wq} {e : Expr} {es : List Expr} {pos p : Pos} {m : M (List D)} {x : Str} {k k' : Nat} {ps : List Str} {fm : FM}
theorem mcl (O : OkF X.prog X.w X.K X.mg X.base k (He.ga X.K x) ps fm) (hr : Room k' X.A) (hg : Gl X x) (hm : X.mg x = some (.ref (He.ga X.K x))) (tk : Takes X W.w) (ha : MA X W (e :: es) m) (hk : k ≤ k' := by decide)
    (hdb : (x == ("__debug__" : Str)) = false := by decide) (he : starEach (e :: es) X.env = (false, eval e X.env) :: starEach es X.env := by rfl) (hpl : (backTo pos (starEach es X.env)).any (·.1) = false := by rfl) : ME X W (.Call (.Name x p) (e :: es) [] pos) (bnd m (callM ps.length fm)) := by
  obtain ⟨⟨fd, F, hb, _⟩, kp⟩ := O
  exact me_call F (hr.mono hk) hg hm kp hb tk ha hdb he hpl
theorem mcl0 (O : OkF X.prog X.w X.K X.mg X.base k (He.ga X.K x) ps fm) (hr : Room k' X.A) (hg : Gl X x) (hm : X.mg x = some (.ref (He.ga X.K x))) (tk : Takes X W.w) (hk : k ≤ k' := by decide)
    (hdb : (x == ("__debug__" : Str)) = false := by decide) : ME X W (.Call (.Name x p) [] [] pos) (callM ps.length fm []) := by
  obtain ⟨⟨fd, F, hb, _⟩, kp⟩ := O
  exact me_call0 F (hr.mono hk) hg hm kp hb tk hdb
theorem mmk (M : Mk X.K (He.ga X.K x) (He.ma X.K (He.ga X.K x) "__init__")) (O : OkF X.prog X.w X.K X.mg X.base k (He.ma X.K (He.ga X.K x) "__init__") ps fm) (hr : Room k' X.A) (hg : Gl X x) (hm : X.mg x = some (.ref (He.ga X.K x))) (tk : Takes X W.w) (ha : MA X W (e :: es) m) (hk : k + 1 ≤ k' := by decide)
    (hdb : (x == ("__debug__" : Str)) = false := by decide) (he : starEach (e :: es) X.env = (false, eval e X.env) :: starEach es X.env := by rfl) (hpl : (backTo pos (starEach es X.env)).any (·.1) = false := by rfl) : ME X W (.Call (.Name x p) (e :: es) [] pos) (bnd m (mkI x ps.length fm)) := by
  obtain ⟨⟨fd, F, hb, _⟩, kp⟩ := O
  exact me_make M F (hr.mono hk) hg hm hb tk ha hdb he hpl
theorem mmk0 (M : Mk X.K (He.ga X.K x) (He.ma X.K (He.ga X.K x) "__init__")) (O : OkF X.prog X.w X.K X.mg X.base k (He.ma X.K (He.ga X.K x) "__init__") ps fm) (hr : Room k' X.A) (hg : Gl X x) (hm : X.mg x = some (.ref (He.ga X.K x))) (tk : Takes X W.w) (hk : k + 1 ≤ k' := by decide)
    (hdb : (x == ("__debug__" : Str)) = false := by decide) : ME X W (.Call (.Name x p) [] [] pos) (bnd (ret []) (mkI x ps.length fm)) := by
  obtain ⟨⟨fd, F, hb, _⟩, kp⟩ := O
  exact me_make0 M F (hr.mono hk) hg hm hb tk hdb
theorem alt_of {C mm : Str} (c : Cls X.K (He.ga X.K C)) (M : Meth X.K (He.ga X.K C) mm (He.ma X.K (He.ga X.K C) mm)) (O : OkF X.prog X.w X.K X.mg X.base k (He.ma X.K (He.ga X.K C) mm) ps fm) : AltOk X k mm C ps.length fm := by
  obtain ⟨⟨fd, F, hb, _⟩, kp⟩ := O
  exact ⟨c, _, fd, ps, M, F, hb⟩
/-- a call of what lets nothing out -/
theorem tk0 : Takes X W0.w := fun u s' ⟨a, B, sI, pins, σ, H, cls, d, e, I, nb, up, sky, na, os, ag, w⟩ => w.elim
end
section
variable {X : Cx}
theorem pgs_nm {is : List Nat} {es : List Expr} (h : PGs X es (gNs is)) : PGs X es (gNs is) := h
theorem pg_nm {i : Nat} {x : Str} {pos : Pos} (hN : X.N.Nodup) (hi : X.N[i]? = some x) (hx : Loc X.env.scope x) (hf : X.fn x = true ∨ X.env.scope.names.lookup x = some .local := by first | exact .inl rfl | exact .inr rfl | assumption) : PG X (.Name x pos) (gTg X.K (.nm i)) := pg_name hN hi hx hf
theorem pgs_c {i : Nat} {x : Str} {pos : Pos} {is : List Nat} {es : List Expr} (hN : X.N.Nodup) (hi : X.N[i]? = some x) (hx : Loc X.env.scope x) (h : PGs X es (gNs is)) (hf : X.fn x = true ∨ X.env.scope.names.lookup x = some .local := by first | exact .inl rfl | exact .inr rfl | assumption)
    (hs : (assignEach (.Name x pos :: es) X.env).map (·.2) = assign (.Name x pos) X.env :: (assignEach es X.env).map (·.2) := by rfl) : PGs X (.Name x pos :: es) (gNs (i :: is)) := pgs_cons (pg_name hN hi hx hf) h hs
theorem pgs_0 : PGs X [] (gNs []) := pgs_nil
theorem pg_tp {is : List Nat} {es : List Expr} {k : Nat} {pos : Pos} (hc : X.calm = true) (h : PGs X es (gNs is)) (hn : (assignEach es X.env).length = is.length := by rfl) (hst : (assignEach es X.env).findIdx? (·.1) = none := by rfl) : PG X (.Tuple es k pos) (gTg X.K (.tp is)) := pg_tup hc h hn hst
end
def stkS : MS := fun _ _ => .stuck
theorem mss_stk {X : Cx} {W : Wq} {sts : List Stmt} : MSs X W sts stkS := ⟨fun pins s σ H Q I ⟨ρ, G, ds, rl, sr, hl, p⟩ => p.elim⟩
/-- {} that is never changed -/
def mkD0 : M D := fun _ G => .ok (.td [] []) G
theorem me_d0 {X : Cx} {W : Wq} {pos : Pos} : ME X W (.Dict [] [] pos) mkD0 := pe_dnewK.conv fun σ H Q ⟨ρ, G, ds, rl, sr, hl, p⟩ => by
  intro a ha
  exact p ρ _ (.ref a) (step_upd rl ha) (rl.updN ha) ⟨a, [], rfl, rl.new ha, .inl ⟨[], upd_same, rfl, rfl⟩, rfl⟩
section
variable {P : Program} {w : World} {K : PySem.W.Frag} {mg : Str → Option Value} {base : Heap} {N : List Str} {qual : Str} {scope : Scope} {f : Addr} {cdv : Value} {A : Around} {outer : List Env} {s : Shared} {H : Hp} {E : XK}
theorem tkD : Takes (cxOf (L2.CX P w) P w K mg base N qual scope f cdv A outer s H E) (WD E).w := takes_of rfl rfl rfl rfl
theorem poD : PassesOwn (model (cxOf (L2.CX P w) P w K mg base N qual scope f cdv A outer s H E).prog (cxOf (L2.CX P w) P w K mg base N qual scope f cdv A outer s H E).w) (cxOf (L2.CX P w) P w K mg base N qual scope f cdv A outer s H E).A (cxOf (L2.CX P w) P w K mg base N qual scope f cdv A outer s H E).env (cxOf (L2.CX P w) P w K mg base N qual scope f cdv A outer s H E).xe := passes_of rfl
end
def blkB (N : List Str) (sc scope : Scope) (own : List (Str × Nat)) : Bool :=
  (match scope.kind with | .function => true | _ => false) && (scope.names.all (fun y => decide (scope.names.lookup y.1 = some y.2)) && (own.all (fun p => decide (N[p.2]? = some p.1)) &&
    (scope.names.all (fun y => !(decide (y.2 = .free)) || (decide (sc.names.lookup y.1 = some .cell) || decide (sc.names.lookup y.1 = some .free))) &&
      scope.names.all (fun y => !(decide (y.2 = .local) || decide (y.2 = .cell)) || ((own.map (·.1)).contains y.1 || !N.contains y.1)))))
theorem blk_of {N : List Str} {sc scope : Scope} {own : List (Str × Nat)} (h : blkB N sc scope own = true) : BlkOk N sc scope own := by
  unfold blkB at h
  simp only [Bool.and_eq_true, List.all_eq_true, decide_eq_true_eq, Bool.or_eq_true, Bool.not_eq_true', decide_eq_false_iff_not, List.contains_eq_mem] at h
  obtain ⟨h1, h2, h3, h4, h5⟩ := h
  refine ⟨?_, h2, h3, fun y hy e => ?_, fun y hy e => ?_⟩
  · revert h1
    cases scope.kind <;> intro h1 <;> first | rfl | cases h1
  · rcases h4 y hy with h | h
    · exact absurd e h
    · exact h
  · rcases h5 y hy with h | h
    · simp only [Bool.or_eq_false_iff, decide_eq_false_iff_not] at h
      rcases e with e | e
      · exact absurd e h.1
      · exact absurd e h.2
    · rcases h with h | h
      · exact .inl h
      · exact .inr h
theorem bIsiT {X : Cx} {T : TF} (h : ∃ F : PF X.K, F.T = T) : CallR X (.builtin "isinstance") (rF X.K (isiF T)) := by
  obtain ⟨F, rfl⟩ := h
  exact bIsi F
end M3
end L2

set_option Elab.async false
set_option linter.all false
set_option maxRecDepth 100000
set_option maxHeartbeats 2000000
/-! M3n: the end: a law by its mirror. -/
namespace L2
namespace M3
open PySem PySem.Spec PyProof.Rows
theorem walk_ofEW {l : PySem.W.OpenLaw} {n k : Nat} {q : Program} {loose : List Str} {XP : (Str → Option Value) → Heap → Prop} {YP : World → Heap → Prop} {d : DefRec} {CX : World → CXT} {x : Str}
    (hn : l.most = some n) (hn2 : n ≤ sizeLine) (hdf : d.params.defaults = []) (hr : Room k callerA)
    (F : ∀ (w : World) (mg : Str → Option Value) (fa : Addr) (h : Heap), YP w h → h.Ns mainGlobals mg → mg d.name = some (.ref fa) →
      ∃ (K : PySem.W.Frag) (fd : FuncData) (sp : Sp), K.In h ∧ (∀ (s : Shared) (u : Value), BindsTo s fd ⟨[u], []⟩ [(x, u)]) ∧
        (∀ (H : Hp) (a : Addr) (ns : List Int), ns.length ≤ n → Only H → SqL K H a (ns.map V.int) → sp [.ref a] H (fun v _ => v = .bl true) fun _ _ _ => False) ∧
        ∀ base : Heap, K.In base → base.Ns mainGlobals mg → FnOk l.prog w K mg base (CX w) k fa fd [x] sp)
    (hCX : ∀ (w : World) (H : Hp) (s : Shared) (e : Value) (s' : Shared), CX w [] H s (fun _ _ _ => False) e s' → False) :
    PySem.W.WalkO q loose XP YP l.row.toRowW d [] (fun f vs => PySem.call f vs) := by
  refine Att.attach_call hn hdf fun w s₀ s₁ mg mb fa o pm cd doc a vs ns G Y ho hd hcd hmg hobj hints hlen hg => ?_
  obtain ⟨K, fd, sp, KX, hb, hsp, hF⟩ := F w mg fa _ Y G.T.g hmg
  exact law_call KX G.T.g G.T.b G.T.builtins G.T.nolimit hg hobj hints (Nat.le_trans hlen hn2) hr hF hb (fun H hO hS => hsp H a ns hlen hO hS) fun H e s' => hCX w H s₁ e s'
theorem drels_ints {K : PySem.W.Frag} {ρ : Rho} {H : Hp} : ∀ ns : List Int, DRels K ρ H (ns.map D.int) (ns.map V.int)
  | [] => rfl
  | n :: ns => drels_cons rfl (drels_ints ns)
theorem sp_law {K : PySem.W.Frag} {f : FM} {H : Hp} {a : Addr} {ns : List Int} (hS : SqL K H a (ns.map V.int)) (h : ∃ G, f [.fz (ns.map D.int)] [] = .ok (.bl true) G) : spM K 1 f [.ref a] H (fun v _ => v = .bl true) fun _ _ _ => False := by
  obtain ⟨G, e⟩ := h
  have no : (Rho.mk [] []).no a := ⟨by simp, by simp⟩
  refine ⟨rfl, ⟨[], []⟩, [], [.fz (ns.map D.int)], ⟨List.nodup_nil, rfl, fun _ h => (by cases h), fun _ h => (by cases h), fun i o b h1 h2 => (by simp at h1)⟩, drels_cons ⟨a, ns.map V.int, rfl, hS.imp (fun x => ⟨no, x⟩) id, drels_ints ns⟩ rfl, ?_⟩
  rw [e]
  exact fun ρ' H' v s r d => d
theorem noexc {P : Program} {w : World} : ∀ (H : Hp) (s : Shared) (e : Value) (s' : Shared), L2.CX P w [] H s (fun _ _ _ => False) e s' → False := fun H s e s' ⟨a, B, H', cls, d, _, _, _, _, _, _, _, z⟩ => z
/-- the law's def, called -/
theorem walk_end {l : PySem.W.OpenLaw} {h : Hd} {k : Nat} {q : Program} {loose : List Str} {XP : (Str → Option Value) → Heap → Prop} {d : DefRec} {x : Str} {fm : FM}
    (hn : l.most = some 63) (hdf : d.params.defaults = []) (hr : Room k callerA) (hd : d.name = ("law" : Str))
    (F : ∀ (w : World) (mg : Str → Option Value) (hp base : Heap) (K : PySem.W.Frag), h.says K → K.In hp → hp.Ns mainGlobals mg → OkF l.prog w K mg base k (He.ga K "law") [x] fm)
    (g : ∀ (mg : Str → Option Value) (hp : Heap) (K : PySem.W.Frag), h.says K → K.In hp → hp.Ns mainGlobals mg → mg "law" = some (.ref (He.ga K "law")))
    (pure : ∀ ns : List Int, ns.length ≤ 63 → ∃ G, fm [.fz (ns.map D.int)] [] = .ok (.bl true) G) :
    PySem.W.WalkO q loose XP h.hook.says l.row.toRowW d [] (fun f vs => PySem.call f vs) := by
  refine walk_ofEW (n := 63) (k := k) (x := x) (CX := fun w => L2.CX l.prog w) hn (by rw [sizeLine_eq]; omega) hdf hr ?_ (fun w => noexc)
  intro w mg fa hp Y G hmg
  obtain ⟨K, KX, c⟩ := Y
  rw [hd] at hmg
  have e := hmg.symm.trans (g mg hp K c KX G)
  cases e
  obtain ⟨⟨fd, F1, _, hb, oc, od, sl, lk⟩, kp⟩ := F w mg hp hp K c KX G
  refine ⟨K, fd, spM K 1 fm, KX, fun s u => hb s [u] rfl, fun H a ns hl _ hS => sp_law hS (pure ns hl), fun base _ _ => ?_⟩
  obtain ⟨⟨fd2, F2, _, _, oc2, od2, sl2, lk2⟩, _⟩ := F w mg hp base K c KX G
  rw [lk] at lk2
  cases lk2
  exact F2
end M3
end L2

set_option Elab.async false
set_option linter.all false
set_option maxRecDepth 100000
set_option maxHeartbeats 2000000
/-! M3p: mirrors by what they must give: rewriting rules. -/
namespace L2
namespace M3
open PySem PySem.Spec PyProof.Rows

def wR {α : Type} (r : R α) (X : Exc → Gs → Prop) (Q : α → Gs → Prop) : Prop := match r with
  | .ok a G => Q a G
  | .exc e G => X e G
  | .stuck => False
structure Kt where
  nx : Sl → Gs → Prop
  rt : D → Gs → Prop
  bk : Sl → Gs → Prop
  ct : Sl → Gs → Prop
  ex : Exc → Sl → Gs → Prop
def wS (r : RS) (E : Kt) : Prop := match r with
  | .nx ds G => E.nx ds G
  | .rt d G => E.rt d G
  | .bk ds G => E.bk ds G
  | .ct ds G => E.ct ds G
  | .exc e ds G => E.ex e ds G
  | .stuck => False
section
variable {α β : Type} {ds : Sl} {G : Gs} {X : Exc → Gs → Prop} {Q : α → Gs → Prop} {E : Kt}
theorem wR_imp {r : R α} {X' : Exc → Gs → Prop} {Q' : α → Gs → Prop} (h : wR r X Q) (hx : ∀ e G, X e G → X' e G) (hq : ∀ a G, Q a G → Q' a G) : wR r X' Q' := by
  cases r <;> first | exact hq _ _ h | exact hx _ _ h | exact h
theorem wR_bnd {m : M β} {k : β → M α} : wR (bnd m k ds G) X Q = wR (m ds G) X (fun a G1 => wR (k a ds G1) X Q) := by
  unfold bnd wR
  cases m ds G <;> rfl
theorem wR_ret {a : α} : wR (ret a ds G) X Q = Q a G := rfl
theorem wR_rd {i : Nat} {Q : D → Gs → Prop} : wR (rd i ds G) X Q = ∃ d, ds[i]? = some (some d) ∧ Q d G := by
  unfold rd wR
  apply propext
  cases h : ds[i]? with
  | none => simp
  | some o => cases o <;> simp
theorem wR_lo {f : Gs → Option α} : wR (lo f ds G) X Q = ∃ d, f G = some d ∧ Q d G := by
  unfold lo wR
  apply propext
  cases h : f G <;> simp
theorem wR_lof {f : Gs → Option (D × Gs)} {Q : D → Gs → Prop} : wR (lof f ds G) X Q = ∃ p, f G = some p ∧ Q p.1 p.2 := by
  unfold lof wR
  apply propext
  cases h : f G <;> simp
theorem wR_chk {c : Gs → Bool} {m : M α} : wR (chk c m ds G) X Q = (c G = true ∧ wR (m ds G) X Q) := by
  unfold chk
  apply propext
  by_cases h : c G = true
  · simp [h]
  · simp [h, wR]
theorem wR_ite {c : Prop} [Decidable c] {a b : M α} : wR ((if c then a else b) ds G) X Q = (if c then wR (a ds G) X Q else wR (b ds G) X Q) := by
  by_cases h : c <;> simp [h]
theorem wR_call {n : Nat} {f : FM} {as : List D} {Q : D → Gs → Prop} : wR (callM n f as ds G) X Q = (as.length = n ∧ wR (f as G) X Q) := by
  unfold callM
  apply propext
  by_cases h : as.length = n
  · simp [h]
  · simp [h, wR]
theorem wR_runF {N : Nat} {b : MS} {as : List D} {Q : D → Gs → Prop} : wR (runF N b as G) X Q = wS (b (startD N as) G) ⟨fun _ G1 => Q .non G1, Q, fun _ _ => False, fun _ _ => False, fun e _ G1 => X e G1⟩ := by
  unfold runF wS wR
  cases b (startD N as) G <;> rfl
theorem wR_newL {xs : List D} {Q : D → Gs → Prop} : wR (newL xs ds G) X Q = (xs.length ≤ sizeLine ∧ Q (.obj G.length) (G ++ [.lst xs])) := by
  unfold newL wR
  apply propext
  by_cases h : xs.length ≤ sizeLine <;> simp [h]
theorem wR_chn {f g : D → D → Gs → Option D} {x y : D} {mc : M D} {Q : D → Gs → Prop} : wR (chn f g x y mc ds G) X Q = wR (bnd (lo (f x y)) (fun r => bnd (lo (tb r)) fun k => if k = true then bnd mc fun z => lo (g y z) else ret (.bl false)) ds G) X Q := rfl
theorem wS_seq {m k : MS} : wS (seqS m k ds G) E = wS (m ds G) { E with nx := fun ds1 G1 => wS (k ds1 G1) E } := by
  unfold seqS wS
  cases m ds G <;> rfl
theorem wS_bnd {m : M α} {k : α → MS} : wS (bndS m k ds G) E = wR (m ds G) (fun e G1 => E.ex e ds G1) (fun a G1 => wS (k a ds G1) E) := by
  unfold bndS wS wR
  cases m ds G <;> rfl
theorem wS_nxt : wS (nxtS ds G) E = E.nx ds G := rfl
theorem wS_ret {d : D} : wS (retS d ds G) E = E.rt d G := rfl
theorem wS_set {i : Nat} {d : D} : wS (setS i d ds G) E = E.nx (ds.set i (some d)) G := rfl
theorem wS_brk : wS (brkS ds G) E = E.bk ds G := rfl
theorem wS_cnt : wS (cntS ds G) E = E.ct ds G := rfl
theorem wS_rz0 {c : Str} : wS (rzS0 c ds G) E = E.ex ⟨c, none⟩ ds G := rfl
theorem wS_rz {c f : Str} {m : M (List D)} : wS (rzS c f m ds G) E = wR (m ds G) (fun e G1 => E.ex e ds G1) (fun xs G1 => ∃ d, xs = [d] ∧ E.ex ⟨c, some (f, d)⟩ ds G1) := by
  unfold rzS wS wR
  cases m ds G with
  | ok xs G1 =>
    apply propext
    cases xs with
    | nil => simp
    | cons d r => cases r <;> simp
  | exc e G1 => rfl
  | stuck => rfl
theorem wS_ite {c : Prop} [Decidable c] {a b : MS} : wS ((if c then a else b) ds G) E = (if c then wS (a ds G) E else wS (b ds G) E) := by
  by_cases h : c <;> simp [h]
theorem wS_setIx {o i v : D} : wS (setIx o i v ds G) E = ∃ j es k n, objL G o = some (j, es) ∧ i = .int k ∧ ixN es.length k = some n ∧ E.nx ds (G.set j (.lst (es.set n v))) := by
  apply propext
  constructor
  · intro h
    unfold setIx at h
    split at h
    · rename_i j es k e1
      split at h
      · rename_i n e2
        exact ⟨j, es, k, n, e1, rfl, e2, h⟩
      · exact h.elim
    · exact h.elim
  · rintro ⟨j, es, k, n, e1, rfl, e2, h⟩
    unfold setIx
    simp only [e1, e2]
    exact h
theorem wS_try {kx : Str → Option Bool} {i : Nat} {B : MS} {S : Exc → MS} : wS (tryS kx i B S ds G) E = wS (B ds G) { E with ex := fun e ds1 G1 => (kx e.c = some true ∧ i < ds1.length ∧ wS (endT i (S e (ds1.set i none) G1)) E) ∨ (kx e.c = some false ∧ E.ex e ds1 G1) } := by
  unfold tryS wS
  apply propext
  cases B ds G with
  | exc e ds1 G1 =>
    simp only
    cases h : kx e.c with
    | none => simp
    | some b =>
      cases b with
      | true => by_cases hi : i < ds1.length <;> simp [hi]
      | false => simp
  | _ => exact Iff.rfl
theorem wS_end {i : Nat} {r : RS} : wS (endT i r) E = wS r ⟨fun ds G => E.nx (ds.set i none) G, E.rt, fun ds G => E.bk (ds.set i none) G, fun ds G => E.ct (ds.set i none) G, fun _ _ _ => False⟩ := by
  cases r <;> rfl
theorem wS_imp {r : RS} {E' : Kt} (h : wS r E) (h1 : ∀ ds G, E.nx ds G → E'.nx ds G) (h2 : ∀ d G, E.rt d G → E'.rt d G) (h3 : ∀ ds G, E.bk ds G → E'.bk ds G) (h4 : ∀ ds G, E.ct ds G → E'.ct ds G) (h5 : ∀ e ds G, E.ex e ds G → E'.ex e ds G) : wS r E' := by
  cases r <;> first | exact h1 _ _ h | exact h2 _ _ h | exact h3 _ _ h | exact h4 _ _ h | exact h5 _ _ _ h | exact h
/-- a for by an invariant of what is left -/
theorem wS_for {s : Src} {t : Tg} {b : MS} {its : List D} (I : List D → Sl → Gs → Prop) (h0 : items G s = some its) (hi : I its ds G) (hit : ∀ r ds G, I r ds G → items G s = some its)
    (hs : ∀ x r ds G, I (x :: r) ds G → wS (tgS t x ds G) ⟨fun ds1 G1 => wS (b ds1 G1) ⟨I r, E.rt, E.nx, I r, E.ex⟩, fun _ _ => False, fun _ _ => False, fun _ _ => False, fun _ _ _ => False⟩)
    (he : ∀ ds G, I [] ds G → E.nx ds G) : wS (forS t b s ds G) E := by
  unfold forS
  rw [h0]
  show wS (loopS s t b its its ds G) E
  suffices h : ∀ r ds G, I r ds G → wS (loopS s t b its r ds G) E from h its ds G hi
  intro r
  induction r with
  | nil =>
    intro ds G h
    simp only [loopS, hit _ _ _ h, decDs_self, if_true]
    exact he _ _ h
  | cons x r ih =>
    intro ds G h
    simp only [loopS, hit _ _ _ h, decDs_self, if_true]
    have h1 := hs x r ds G h
    cases q : tgS t x ds G with
    | nx ds1 G1 =>
      rw [q] at h1
      simp only
      have h2 : wS (b ds1 G1) ⟨I r, E.rt, E.nx, I r, E.ex⟩ := h1
      cases q2 : b ds1 G1 with
      | nx ds2 G2 => rw [q2] at h2; exact ih _ _ h2
      | ct ds2 G2 => rw [q2] at h2; exact ih _ _ h2
      | bk ds2 G2 => rw [q2] at h2; exact h2
      | rt d G2 => rw [q2] at h2; exact h2
      | exc e ds2 G2 => rw [q2] at h2; exact h2
      | stuck => rw [q2] at h2; exact h2
    | rt d G1 => rw [q] at h1; exact h1.elim
    | bk ds1 G1 => rw [q] at h1; exact h1.elim
    | ct ds1 G1 => rw [q] at h1; exact h1.elim
    | exc e ds1 G1 => rw [q] at h1; exact h1.elim
    | stuck => rw [q] at h1; exact h1.elim
/-- a comprehension by an invariant: what came, what is left -/
theorem wR_comp {ob : Bool} {t : Tg} {c : M Bool} {e : M D} {vs : List Nat} {s : Src} {its : List D} {Q : D → Gs → Prop} (I : List D → List D → Gs → Prop) (h0 : items G s = some its) (hi : I [] its G) (hit : ∀ a r G, I a r G → items G s = some its)
    (hs : ∀ a x r G, I a (x :: r) G → wS (tgS t x (wipeD ds vs) G) ⟨fun ds1 G1 => wR (c ds1 G1) (fun _ _ => False) (fun k G2 => if k = true then wR (e ds1 G2) (fun _ _ => False) (fun y G3 => I (a ++ [y]) r G3) else I a r G2), fun _ _ => False, fun _ _ => False, fun _ _ => False, fun _ _ _ => False⟩)
    (he : ∀ a G, I a [] G → a.length ≤ sizeLine ∧ (if ob = true then Q (.obj G.length) (G ++ [.lst a]) else Q (.tl a) G)) : wR (compD ob t c e vs s ds G) X Q := by
  unfold compD
  rw [h0]
  have key : ∀ r a G, I a r G → ∃ ys G1, compL s t c e its r (wipeD ds vs) G = .ok ys G1 ∧ I (a ++ ys) [] G1 := by
    intro r
    induction r with
    | nil =>
      intro a G h
      exact ⟨[], G, by simp only [compL, hit _ _ _ h, decDs_self, if_true], by simpa using h⟩
    | cons x r ih =>
      intro a G h
      have h1 := hs a x r G h
      simp only [compL, hit _ _ _ h, decDs_self, if_true]
      cases q : tgS t x (wipeD ds vs) G with
      | nx ds1 G1 =>
        rw [q] at h1
        simp only
        replace h1 : wR (c ds1 G1) (fun _ _ => False) (fun k G2 => if k = true then wR (e ds1 G2) (fun _ _ => False) (fun y G3 => I (a ++ [y]) r G3) else I a r G2) := h1
        cases q2 : c ds1 G1 with
        | ok k G2 =>
          rw [q2] at h1
          cases k with
          | true =>
            replace h1 : wR (e ds1 G2) (fun _ _ => False) (fun y G3 => I (a ++ [y]) r G3) := h1
            simp only
            cases q3 : e ds1 G2 with
            | ok y G3 =>
              rw [q3] at h1
              obtain ⟨ys, G4, e1, e2⟩ := ih (a ++ [y]) G3 h1
              simp only [e1]
              exact ⟨y :: ys, G4, rfl, by simpa using e2⟩
            | exc e3 G3 => rw [q3] at h1; exact h1.elim
            | stuck => rw [q3] at h1; exact h1.elim
          | false => exact ih a G2 h1
        | exc e3 G3 => rw [q2] at h1; exact h1.elim
        | stuck => rw [q2] at h1; exact h1.elim
      | rt d G1 => rw [q] at h1; exact h1.elim
      | bk ds1 G1 => rw [q] at h1; exact h1.elim
      | ct ds1 G1 => rw [q] at h1; exact h1.elim
      | exc e ds1 G1 => rw [q] at h1; exact h1.elim
      | stuck => rw [q] at h1; exact h1.elim
  obtain ⟨ys, G1, e1, e2⟩ := key its [] G hi
  simp only [e1]
  obtain ⟨h1, h2⟩ := he ys G1 (by simpa using e2)
  rw [if_pos h1]
  cases ob with
  | true => rw [if_pos rfl] at h2 ⊢; exact h2
  | false => rw [if_neg Bool.false_ne_true] at h2 ⊢; exact h2
end
/-! ### operators at known data -/
section
variable {G : Gs}
def lstO (G : Gs) (j : Nat) : Option (List D) := match G[j]? with
  | some (.lst ds) => some ds
  | _ => none
theorem addD_i {a b : Int} : addD (.int a) (.int b) G = some (.int (a + b)) := rfl
theorem subD_i {a b : Int} : subD (.int a) (.int b) G = some (.int (a - b)) := rfl
theorem mulD_i {a b : Int} : mulD (.int a) (.int b) G = if a.natAbs < 2 ^ 64 ∨ b.natAbs < 2 ^ 64 ∨ a.natAbs.log2 + b.natAbs.log2 < 1000000 then some (.int (a * b)) else none := rfl
theorem fdivD_i {a b : Int} : fdivD (.int a) (.int b) G = if 0 < b ∧ b.natAbs.log2 < 9000 then some (.int (a / b)) else none := rfl
theorem modD_i {a b : Int} : modD (.int a) (.int b) G = if 0 < b then some (.int (a % b)) else none := rfl
theorem ltD_i {a b : Int} : ltD (.int a) (.int b) G = some (.bl (decide (a < b))) := rfl
theorem leD_i {a b : Int} : leD (.int a) (.int b) G = some (.bl (decide (a ≤ b))) := rfl
theorem gtD_i {a b : Int} : gtD (.int a) (.int b) G = some (.bl (decide (b < a))) := rfl
theorem geD_i {a b : Int} : geD (.int a) (.int b) G = some (.bl (decide (b ≤ a))) := rfl
theorem tb_b {b : Bool} : tb (.bl b) G = some b := rfl
theorem toI_i {i : Int} : toI (.int i) G = some (some i) := rfl
theorem intF_i {i : Int} : intF [.int i] G = some (.int i) := rfl
theorem absF_i {i : Int} : absF [.int i] G = some (.int (if i < 0 then -i else i)) := rfl
theorem seqD_o {j : Nat} : seqD G (.obj j) = lstO G j := rfl
theorem lenF_o {j : Nat} : lenF [.obj j] G = (lstO G j).map fun ds => .int ds.length := by
  unfold lenF lenD
  simp only [seqD_o]
  cases lstO G j <;> rfl
theorem lenF_tl {ds : List D} : lenF [.tl ds] G = some (.int ds.length) := rfl
theorem lenF_tup {ds : List D} : lenF [.tup ds] G = some (.int ds.length) := rfl
theorem lenF_fz {ds : List D} : lenF [.fz ds] G = some (.int ds.length) := rfl
theorem ixD_o {j : Nat} {i : Int} : ixD (.obj j) (.int i) G = (lstO G j).bind fun ds => atI ds i := by
  show (match seqD G (.obj j), D.int i with
    | some ds, .int i => atI ds i
    | _, _ => none) = _
  rw [seqD_o]
  cases lstO G j <;> rfl
theorem ixD_tl {ds : List D} {i : Int} : ixD (.tl ds) (.int i) G = atI ds i := rfl
theorem ixD_tup {ds : List D} {i : Int} : ixD (.tup ds) (.int i) G = atI ds i := rfl
theorem objL_o {j : Nat} : objL G (.obj j) = (lstO G j).map fun ds => (j, ds) := by
  unfold objL lstO
  simp only
  cases G[j]? with
  | none => rfl
  | some o => cases o <;> rfl
theorem lstO_at {j : Nat} {ds : List D} (h : G[j]? = some (.lst ds)) : lstO G j = some ds := by unfold lstO; rw [h]
theorem tyOk_o {j : Nat} : tyOk "list" (.obj j) G = (lstO G j).isSome := by
  unfold tyOk lstO
  simp only [lstD]
  cases G[j]? with
  | none => rfl
  | some o => cases o <;> simp
theorem atI_of {α : Type} {xs : List α} {i : Int} {n : Nat} {x : α} (h1 : ixN xs.length i = some n) (h2 : xs[n]? = some x) : atI xs i = some x := by
  unfold atI
  rw [h1]
  exact h2
theorem ixN_pos {n : Nat} {i : Int} (h0 : 0 ≤ i) (h1 : i < n) : ixN n i = some i.toNat := by
  unfold ixN
  rw [if_pos h0, if_pos h1]
end
/-! ### what changes nothing -/
theorem wR_ok {α : Type} {a : α} {G : Gs} {X : Exc → Gs → Prop} {Q : α → Gs → Prop} : wR (.ok a G) X Q = Q a G := rfl
theorem wR_exc {α : Type} {e : Exc} {G : Gs} {X : Exc → Gs → Prop} {Q : α → Gs → Prop} : wR (.exc e G) X Q = X e G := rfl
theorem eq_of_wR {α : Type} {r : R α} {v : α} {G : Gs} (h : wR r (fun _ _ => False) (fun a G' => a = v ∧ G' = G)) : r = .ok v G := by
  cases r with
  | ok a G' => obtain ⟨rfl, rfl⟩ := h; rfl
  | exc e G' => exact h.elim
  | stuck => exact h.elim
theorem comp_pure {i : Nat} {e : M D} {vs : List Nat} {s : Src} {its : List D} {ds : Sl} {G : Gs} {g : D → D} (h0 : items G s = some its) (hz : its.length ≤ sizeLine) (hs : ∀ x ∈ its, e ((wipeD ds vs).set i (some x)) G = .ok (g x) G) :
    compD false (.nm i) yes e vs s ds G = .ok (.tl (its.map g)) G := by
  refine eq_of_wR (wR_comp (fun a r G' => G' = G ∧ ∃ p, its = p ++ r ∧ a = p.map g) h0 ⟨rfl, [], rfl, rfl⟩ (fun a r G' h => by rw [h.1]; exact h0) ?_ ?_)
  · rintro a x r G' ⟨rfl, p, e1, rfl⟩
    simp only [tgS, wS_set, yes, wR_ret, if_true]
    rw [hs x (by rw [e1]; simp)]
    exact ⟨rfl, p ++ [x], by rw [e1]; simp, by simp⟩
  · rintro a G' ⟨rfl, p, e1, rfl⟩
    rw [List.append_nil] at e1
    subst e1
    exact ⟨by simpa using hz, by rw [if_neg Bool.false_ne_true]; exact ⟨rfl, rfl⟩⟩
theorem allOf_bl {α : Type} (p : α → Bool) : ∀ l : List α, allOf blD (l.map fun x => D.bl (p x)) = some (l.map p)
  | [] => rfl
  | x :: l => by simp [allOf, blD, allOf_bl p l]
theorem allF_map {p : D → Bool} {l : List D} {G : Gs} : allF [.tl (l.map fun x => .bl (p x))] G = some (.bl (l.all p)) := by
  show ((lsOf blD G (.tl (l.map fun x => .bl (p x)))).map fun ns => D.bl (ns.all id)) = _
  show ((allOf blD (l.map fun x => D.bl (p x))).map fun ns => D.bl (ns.all id)) = _
  rw [allOf_bl]
  simp [List.all_map]
theorem wR_compP {i : Nat} {e : M D} {vs : List Nat} {s : Src} {its : List D} {ds : Sl} {G : Gs} {g : D → Bool} {X : Exc → Gs → Prop} {Q : D → Gs → Prop} (h0 : items G s = some its) (hz : its.length ≤ sizeLine) (hs : ∀ x ∈ its, e ((wipeD ds vs).set i (some x)) G = .ok (.bl (g x)) G) :
    wR (compD false (.nm i) yes e vs s ds G) X Q = Q (.tl (its.map fun x => .bl (g x))) G := by
  rw [comp_pure (g := fun x => .bl (g x)) h0 hz hs]
  rfl
theorem wS_tp {is : List Nat} {es : List D} {l : Sl} {G : Gs} {E : Kt} (h : es.length = is.length) : wS (tgS (.tp is) (.tup es) l G) E = E.nx (setAll is es l) G := by
  simp only [tgS]
  rw [if_pos h]
  rfl
theorem wS_nm {i : Nat} {d : D} {l : Sl} {G : Gs} {E : Kt} : wS (tgS (.nm i) d l G) E = E.nx (l.set i (some d)) G := rfl
theorem wR_mkI {C : Str} {n : Nat} {fm : FM} {as : List D} {ds : Sl} {G : Gs} {X : Exc → Gs → Prop} {Q : D → Gs → Prop} : wR (mkI C n fm as ds G) X Q = (as.length + 1 = n ∧ wR (fm (.obj G.length :: as) (G ++ [.ins C []])) X (fun r G1 => r = .non ∧ Q (.obj G.length) G1)) := by
  unfold mkI
  apply propext
  by_cases h : as.length + 1 = n
  case neg => simp [h, wR]
  rw [if_pos h]
  cases fm (.obj G.length :: as) (G ++ [.ins C []]) with
  | ok r G1 => cases r <;> simp [wR, h]
  | exc e G1 => simp [wR, h]
  | stuck => simp [wR]
mutual
theorem eqv_same : ∀ (d : D) (x : PyData), toPy d = some x → PyData.eqv x x = true
  | .non, x, h => by cases h; rfl
  | .bl b, x, h => by cases h; simp [PyData.eqv]
  | .int i, x, h => by cases h; simp [PyData.eqv]
  | .str s, x, h => by cases h; simp [PyData.eqv]
  | .tup ds, x, h => by
    simp only [toPy] at h
    split at h
    · rename_i xs e
      cases h
      simp only [PyData.eqv]
      exact eqvs_same ds xs e
    · cases h
  | .tl ds, x, h => by
    simp only [toPy] at h
    split at h
    · rename_i xs e
      cases h
      simp only [PyData.eqv]
      exact eqvs_same ds xs e
    · cases h
  | .fz ds, x, h => by
    simp only [toPy] at h
    split at h
    · rename_i xs e
      cases h
      simp only [PyData.eqv]
      exact eqvs_same ds xs e
    · cases h
  | .ty _, _, h => by simp [toPy] at h
  | .glo _, _, h => by simp [toPy] at h
  | .ti .., _, h => by simp [toPy] at h
  | .td .., _, h => by simp [toPy] at h
  | .obj _, _, h => by simp [toPy] at h
theorem eqvs_same : ∀ (ds : List D) (xs : List PyData), toPys ds = some xs → PyData.eqvAll xs xs = true
  | [], xs, h => by cases h; rfl
  | d :: ds, xs, h => by
    simp only [toPys] at h
    split at h
    · rename_i x ys e1 e2
      cases h
      simp only [PyData.eqvAll, Bool.and_eq_true]
      exact ⟨eqv_same d x e1, eqvs_same ds ys e2⟩
    · cases h
end
end M3
end L2

set_option Elab.async false
set_option linter.all false
set_option maxRecDepth 100000
set_option maxHeartbeats 2000000
/-! M3q: texts; enumerate of lists and tuples; walks over texts. -/
namespace L2
namespace M3
open PySem PySem.Spec PyProof.Rows

section
variable {X : Cx}
def splitF : D → List D → Gs → Option (D × Gs) := fun x ds G => match x, ds with
  | .str a, [.str b] => if (b.length == 0) = false ∧ a.length + 2 ≤ sizeLine then some (.tl ((Txt.split a b).map D.str), G) else none
  | _, _ => none
theorem mSplit : MtR X "str.split" (rMt X.K splitF) := by
  intro pins s σ H x xs v us Q I rx rs ⟨ρ, G, a, as, d, G1, rl, ha, hs, e, q⟩
  unfold splitF at e
  split at e
  · split at e
    · cases e
      rename_i a b h
      obtain rfl : x = _ := ha
      obtain ⟨v1, r1, rfl, d1, e2⟩ := hs
      cases e2
      cases d1
      exact mt_split _ _ _ _ _ _ _ _ _ I rx rs ⟨a, b, rfl, rfl, h.1, h.2, fun p hp => q ρ _ _ (step_upd rl hp) (rl.updN hp) (tl_new rl hp (drels_strs _))⟩
    · cases e
  · cases e
def joinF : D → List D → Gs → Option (D × Gs) := fun x ds G => match x, ds with
  | .str a, [y] => (match seqD G y with
    | some es => (match allOf strD es with
      | some ys => if (ys.map (·.length)).sum + ys.length * a.length ≤ 16777216 then some (.str (Txt.join a ys), G) else none
      | none => none)
    | none => none)
  | _, _ => none
theorem mJoin : MtR X "str.join" (rMt X.K joinF) := by
  intro pins s σ H x xs v us Q I rx rs ⟨ρ, G, a, as, d, G1, rl, ha, hs, e, q⟩
  unfold joinF at e
  split at e
  · rename_i a y
    split at e
    · rename_i es e1
      split at e
      · rename_i ys e2
        split at e
        · cases e
          rename_i hz
          obtain rfl : x = _ := ha
          obtain ⟨v1, r1, rfl, d1, e3⟩ := hs
          cases e3
          obtain ⟨p, zs, rfl, h1, h2⟩ := seq_at rl e1 d1
          obtain rfl : zs = ys.map V.str := all_at (fun h r => str_at h r) e2 h2
          exact mt_join _ _ _ _ _ _ _ _ _ I rx rs ⟨a, p, ys, rfl, rfl, h1, hz, q ρ H _ (Step.refl _ _) rl rfl⟩
        · cases e
      · cases e
    · cases e
  · cases e
/-- int of a text, else as before -/
def intF2 : List D → Gs → Option D := fun ds G => match ds with
  | [.str a] => if a.length ≤ 640 then (PySem.intText? a).map D.int else none
  | ds => intF ds G
theorem bInt2 : CallR X (.type "int") (rF X.K intF2) := by
  intro pins s σ H vs us Q I rv ⟨ρ, G, as, d, rl, ha, e, q⟩
  unfold intF2 at e
  split at e
  · split at e
    · rename_i a hz
      obtain ⟨v1, r1, rfl, d1, e2⟩ := ha
      cases e2
      cases d1
      cases e1 : PySem.intText? a with
      | none => rw [e1] at e; cases e
      | some n =>
        rw [e1] at e
        cases e
        exact call_int_str _ _ _ _ _ _ _ I rv ⟨a, n, rfl, e1, hz, q ρ H _ (Step.refl _ _) rl rfl⟩
    · cases e
  · exact bInt _ _ _ _ _ _ _ I rv ⟨ρ, G, as, d, rl, ha, e, q⟩
/-- c in a text, c one sign; else as before -/
def inS (neg : Bool) : D → D → Gs → Option D := fun x y G => match x, y with
  | .str a, .str z => (match a.cps.toList with
    | [c] => some (.bl (if neg then !decide (c ∈ z.cps.toList) else decide (c ∈ z.cps.toList)))
    | _ => none)
  | x, y => inD neg x y G
theorem opInS : OpR X (compareOp .In) (rO X.K (inS false)) := by
  intro pins s σ H x y v u Q I rx ry ⟨ρ, G, a, b, d, rl, ha, hb, e, q⟩
  unfold inS at e
  split at e
  · rename_i a z
    split at e
    · rename_i c hc
      cases e
      obtain rfl : x = _ := ha
      obtain rfl : y = _ := hb
      have ea : a = ⟨#[c]⟩ := by
        cases a with
        | mk cps => simp only at hc; rw [← Array.toArray_toList (xs := cps), hc]
      subst ea
      exact op_in_sign _ _ _ _ _ _ _ _ _ I rx ry ⟨c, z, rfl, rfl, q ρ H _ (Step.refl _ _) rl rfl⟩
    · cases e
  · exact opIn _ _ _ _ _ _ _ _ _ I rx ry ⟨ρ, G, a, b, d, rl, ha, hb, e, q⟩
theorem opNotInS : OpR X (compareOp .NotIn) (rO X.K (inS true)) := by
  intro pins s σ H x y v u Q I rx ry ⟨ρ, G, a, b, d, rl, ha, hb, e, q⟩
  unfold inS at e
  split at e
  · rename_i a z
    split at e
    · rename_i c hc
      cases e
      obtain rfl : x = _ := ha
      obtain rfl : y = _ := hb
      have ea : a = ⟨#[c]⟩ := by
        cases a with
        | mk cps => simp only at hc; rw [← Array.toArray_toList (xs := cps), hc]
      subst ea
      exact op_notIn_sign _ _ _ _ _ _ _ _ _ I rx ry ⟨c, z, rfl, rfl, q ρ H _ (Step.refl _ _) rl rfl⟩
    · cases e
  · exact opNotIn _ _ _ _ _ _ _ _ _ I rx ry ⟨ρ, G, a, b, d, rl, ha, hb, e, q⟩
end

/-! ### a text's signs -/
section
variable {X : Cx} {W : Wq} {pos p : Pos} {e : Expr} {me : M D} {m : M (List D)} {tg : Expr}
def toStr (d : D) : Gs → Option Src := fun _ => match d with
  | .str z => if z.length ≤ sizeLine then some (.str z) else none
  | _ => none
theorem src_str {K : PySem.W.Frag} {ρ : Rho} {H : Hp} {z : Str} : SrcRel K ρ H (.str z) (Its z) := by
  intro ρ' G' H' s rl its e i
  replace e : (if z.length ≤ sizeLine then some (z.cps.toList.map fun c => D.str ⟨#[c]⟩) else none) = some its := e
  split at e
  · cases e
    refine ⟨fun d hd => ?_, fun hi => ?_⟩
    · rw [List.getElem?_map] at hd
      cases q : z.cps.toList[i]? with
      | none => rw [q] at hd; cases hd
      | some c =>
        rw [q] at hd
        cases hd
        have q' : z.cps[i]? = some c := by rw [← Array.getElem?_toList]; exact q
        refine ⟨(Array.getElem?_eq_some_iff.mp q').1, fun x H2 y => ?_⟩
        obtain ⟨rfl, c', hc, rfl⟩ := y
        rw [q'] at hc
        cases hc
        exact ⟨Step.refl _ _, rl, rfl⟩
    · rw [List.length_map, Array.length_toList] at hi
      exact hi
  · cases e
theorem mi_str (h : ME X W e me) : MI X W tg e (bnd me fun d => lo (toStr d)) := (pi_str h).conv fun σ H Q ⟨ρ, G, ds, rl, sr, hl, p⟩ => by
  refine le_seq p rl sr hl fun v H1 ρ1 G1 a s1 r1 sr1 hl1 d1 p1 => ?_
  obtain ⟨d', e, q⟩ := lo_inv p1
  unfold toStr at e
  split at e
  · split at e
    · cases e
      rename_i z hz
      exact ⟨z, d1, q ρ1 H1 _ (Step.refl _ _) r1 src_str⟩
    · cases e
  · cases e
end

/-! ### enumerate -/
theorem meets_enum1 {v : Value} {o : Obj} {H : Heap → Prop} (B : Begins v o H) :
    Meets (Builtin.«enumerate.__new__» ⟨[.type "enumerate", v], []⟩) (fun _ R s => H s.heap ∧
      R (.ok (.ret (.ref (s.heap.push o).objs.size))) { s with heap := (s.heap.push o).push { cls := .type "enumerate", data := .fields #[.none, .bool false, .ref s.heap.objs.size, rawInt 0, .none, .none] } }) :=
  .of_wp fun prog w A R s h => by
    obtain ⟨hp, g, d, tk, os⟩ := s; obtain ⟨h1, h⟩ := h
    have hsub := sub_enumerate
    have q1 : ∀ {A' : Around} {E : Value → Shared → Prop} {Q : Value → Shared → Prop}, Q (.ref hp.objs.size) ⟨hp.push o, g, d, tk, os⟩ → wpAny (model prog w) A' (pyIter v) Q E ⟨hp, g, d, tk, os⟩ :=
      fun q => B.iter prog w _ _ ⟨hp, g, d, tk, os⟩ _ h1 q
    wp_walk using q1
    refine wpAny_stack_any fun st => wpAny_pure ?_
    split
    · rename_i c _ _ _ _ _
      cases (c == Value.type "enumerate")
      · wp_walk using q1
        exact ⟨_, rfl, h⟩
      · wp_walk using q1
        exact ⟨_, rfl, h⟩
    · wp_walk using q1
      exact ⟨_, rfl, h⟩
theorem enum1 {prog : Program} {w : World} {A : Around} {E : Value → Shared → Prop} {s : Shared} {v : Value} {o : Obj} {H : Heap → Prop} {Q : Value → Shared → Prop} (B : Begins v o H) (h1 : H s.heap)
    (h : ∀ h', IsEnum h' (s.heap.objs.size + 1) s.heap.objs.size 0 .none → h'.get? s.heap.objs.size = some o →
      (∀ b o, s.heap.get? b = some o → h'.get? b = some o) → Q (.ref (s.heap.objs.size + 1)) { s with heap := h' }) :
    wpAny (model prog w) A (call (.type "enumerate") [v]) Q E s := by
  refine callType_new F.called_enumerate (by decide) (F.typeCall_enumerate_1 _) (F.newCall_enumerate_1 _) (fun obj => F.args_object_init_2 obj _) F.entry_enumerate_new
    (meets_enum1 B) ⟨h1, ?_⟩
  have hz : (s.heap.push o).objs.size = s.heap.objs.size + 1 := Heap.size_push ..
  show _ ∧ _
  rw [hz]
  have he : IsEnum ((s.heap.push o).push { cls := .type "enumerate", data := .fields #[.none, .bool false, .ref s.heap.objs.size, rawInt 0, .none, .none] }) (s.heap.objs.size + 1) s.heap.objs.size 0 .none := by
    have := Heap.get?_push_size (s.heap.push o) (o := { cls := .type "enumerate", data := .fields #[.none, .bool false, .ref s.heap.objs.size, rawInt 0, .none, .none] }) rfl
    rw [hz] at this; exact this
  exact ⟨⟨_, he, rfl⟩, h _ he (Heap.get?_push_of_some _ (Heap.get?_push_size _ B.free)) fun b o x => Heap.get?_push_of_some _ (Heap.get?_push_of_some _ x)⟩
theorem enumT_end {prog : Program} {w : World} {A : Around} {E : Value → Shared → Prop} {s : Shared} {e it t : Addr} {i : Nat} {items : Array Value} {old : Value} {Q : Option Value → Shared → Prop} (hh : A.handled = none)
    (he : IsEnum s.heap e it ((i : Nat) : Int) old) (hit : s.heap.IsTupleIter it t i) (ht : s.heap.IsTuple t items) (hx : items[i]? = none)
    (hQ : ∀ h', Heap.ExtBut it s.heap h' → Q none { s with heap := h' }) : wpAny (model prog w) A (pyNext (.ref e)) Q E s := by
  have D : Draws prog w A.in1 it [it, t] i (fun _ _ => True) (fun j h => h.IsTupleIter it t j ∧ h.IsTuple t items ∧ j = i) :=
    { live := fun _ _ st => let ⟨o, ho, _⟩ := st.1; ⟨o, ho⟩
      frame := fun _ _ _ st hk => ⟨st.1.at fun o e => hk it (by simp) o e, st.2.1.at fun o e => hk t (by simp) o e, st.2.2⟩
      item := fun j s Q E hj st => absurd st.2.2 (by omega)
      done := fun s Q E st hE => wpAny_nextOf_tuple_end hh st.1 st.2.1 hx hE }
  exact wpAny_pyNext_enum_endD D he ⟨hit, ht, rfl⟩ hQ
/-- the tuple at a, each item in a new pair -/
def Iet (K : PySem.W.Frag) (a : Addr) : It :=
  ⟨fun i H => ∃ (xs : List V) (x : V), SqT K H a xs ∧ xs[i]? = some x, fun i H v H' => ∃ T x, v = .ref T ∧ H T = none ∧ H' = upd H T (.tup [.int (i : Nat), x]) ∧ ∀ xs, SqT K H a xs → xs[i]? = some x, fun i H => ∃ xs : List V, SqT K H a xs ∧ xs.length ≤ i⟩
theorem turn_enumT {P : Program} {w : World} {K : PySem.W.Frag} {elts : List Expr} {kk : Nat} {tpos : Pos} (a e it : Addr) :
    Turn P w K (.Tuple elts kk tpos) (Iet K a) [e, it] e (fun i h => (∃ old, IsEnum h e it ((i : Nat) : Int) old) ∧ h.IsTupleIter it a i ∧ e ≠ it ∧ a ≠ it ∧ a ≠ e) where
  mem := by simp
  obj := fun i h st b hb => by
    obtain ⟨⟨old, he⟩, ⟨o, ho, hc, hd⟩, _⟩ := st
    have e' : b = e ∨ b = it := by simpa using hb
    rcases e' with z | z
    · rw [z]; exact ⟨_, he, fun v q => nomatch q⟩
    · rw [z]; exact ⟨o, ho, fun v q => by rw [hd] at q; cases q⟩
  keep := fun i h h' st k => let ⟨⟨old, he⟩, hi, hne⟩ := st; ⟨⟨old, k e (by simp) _ he⟩, hi.at fun o q => k it (by simp) o q, hne⟩
  item := by
    intro X hP hw hK hc i pins s σ H E I hf st hg
    subst hP hw hK
    obtain ⟨⟨old, he⟩, hit, hne, hai, hae⟩ := st
    obtain ⟨xs, x, hq, hx⟩ := hg
    obtain ⟨its, rv, p, hz⟩ := I.tuple hq
    obtain ⟨u, hu, ru⟩ := rv.get hx
    have hel : e < s.heap.objs.size := Heap.lt_size he
    have hil : it < s.heap.objs.size := by obtain ⟨_, q, _⟩ := hit; exact Heap.lt_size q
    have D := Draws.tuple (prog := X.prog) (w := X.w) (A := X.A.in1) (I.ok.hd hc) it a hai its.toArray
    have hn : i < its.toArray.size := by
      have := (List.getElem?_eq_some_iff.mp hu).1
      simpa using this
    refine wpAny_pyNext_enum_itemD D he ⟨hit, p⟩ hn hne (by simp [hne, Ne.symm hae]) fun y h' tk hy ho hit' hT hsz hk => ?_
    have ey : y = u := by
      have h1 : its.toArray[i]? = some y := hy
      have h2 : its.toArray[i]? = some u := by simpa using hu
      rw [h1] at h2
      exact Option.some.inj h2
    subst ey
    refine ⟨_, rfl, wpAny_letOwnedTupleGo_enum (s := { s with heap := h', toks := tk + 1 }) ho fun h'' he' sb => ?_⟩
    have hT2 : h''.get? s.heap.objs.size = some { cls := .type "tuple", data := .seq #[.int i tk, y] } := (sb.2 _ (Nat.ne_of_gt hel)).trans hT
    have new : ObjOk X.prog X.w (upd H s.heap.objs.size (.tup [.int (i : Nat), x])) h'' s.heap.objs.size (.tup [.int (i : Nat), x]) :=
      ⟨by show 2 ≤ sizeLine; decide, [.int i tk, y], .cons ⟨_, rfl⟩ (.cons ru .nil), ⟨_, hT2, rfl, _, rfl⟩⟩
    have I1 : Inv X pins σ (upd H s.heap.objs.size (.tup [.int (i : Nat), x])) { s with heap := h'', toks := tk + 1 } :=
      I.turnedNew (ch := [e, it]) (fun b ob hb q => (sb.2 b (fun z => hb (by simp [z]))).trans (hk b ob (fun z => hb (by simp [z])) (fun z => hb (by simp [z])) q)) hf (Nat.le_refl _) new
    refine ⟨.ref s.heap.objs.size, _, I1, rfl, ⟨_, x, rfl, I.hok.fresh (Nat.le_refl _), rfl, fun ys hy => ?_⟩, ⟨⟨y, ?_⟩, hit'.1.at fun o q => (sb.2 it (Ne.symm hne)).trans q, hne, hai, hae⟩, fun b hb => ?_⟩
    · rw [I.tuple_inj hy hq]; exact hx
    · have e1 : ((i + 1 : Nat) : Int) = (i : Int) + 1 := by omega
      rw [e1]; exact he'
    · have hb' : b < s.heap.objs.size := by
        have e' : b = e ∨ b = it := by simpa using hb
        rcases e' with z | z
        · rw [z]; exact hel
        · rw [z]; exact hil
      rw [upd_ne (Nat.ne_of_lt hb')]
      exact (hf b hb).1
  done := by
    intro X hP hw hK hc i pins s σ H E I hf st hg
    subst hP hw hK
    obtain ⟨⟨old, he⟩, hit, hne, hai, hae⟩ := st
    obtain ⟨xs, hq, hx⟩ := hg
    obtain ⟨its, rv, p, hz⟩ := I.tuple hq
    obtain ⟨f0, f1, f2, f3, f4, f5⟩ := hf it (by simp)
    have hl := rv.length
    exact enumT_end (I.ok.hd hc) he hit p (by simp; omega) fun h' eb => ⟨rfl, I.turned (t' := s.toks) (fun b o hb q => eb b o hb q) f0 f1 f3 f4 f5⟩
  self := fun A i s Q E st h => let ⟨⟨_, he⟩, _⟩ := st; wpAny_pyIter_enum he h
/-- enumerate(e), e a list or a tuple -/
def iEnm (K : PySem.W.Frag) (ta : TA) : TI := fun σ H R => ta σ H fun vs H1 => ∃ a, vs = [.ref a] ∧ (((∃ xs, SqL K H1 a xs) ∧ R (Ite K a) H1) ∨ ((∃ xs, SqT K H1 a xs) ∧ R (Iet K a) H1))
theorem pi_enm {X : Cx} {e : Expr} {ta : TA} {p pos tpos : Pos} {elts : List Expr} {kk : Nat} (hg : Gl X "enumerate") (hm : X.mg "enumerate" = none) (ha : PA X [e] ta) (hs : starEach [e] X.env = [(false, eval e X.env)] := by rfl) :
    PI X (.Tuple elts kk tpos) (.Call (.Name "enumerate" p) [e] [] pos) (iEnm X.K ta) := by
  refine ⟨fun pins s σ H R I h => ?_⟩
  refine Call_ (ld_blt I hg hm boot_enumerate (PyProof.Rows.callWith_type1 (thn (ha.run pos pins s σ H _ I h) fun us s1 ⟨vs, H1, I1, r1, q1⟩ => ?_) hs rfl))
  obtain ⟨a, ex, q⟩ := q1
  subst ex
  cases r1 with
  | cons r rr =>
    cases rr
    cases r
    have hle : ∀ b : Addr, b ∈ [s1.heap.objs.size + 1, s1.heap.objs.size] → s1.heap.objs.size ≤ b := fun b hb => by
      have e' : b = s1.heap.objs.size + 1 ∨ b = s1.heap.objs.size := by simpa using hb
      rcases e' with z | z
      · rw [z]; exact Nat.le_add_right _ _
      · rw [z]; exact Nat.le_refl _
    rcases q with ⟨⟨xs, hq⟩, q⟩ | ⟨⟨xs, hq⟩, q⟩
    · obtain ⟨its, rv, p', hz⟩ := I1.list hq
      refine enum1 (begins_list a its.toArray) p'.isList fun h' he hit hk => wpAny_pyIter_enum he ?_
      exact ⟨s1.heap.objs.size + 1, [s1.heap.objs.size + 1, s1.heap.objs.size], _, _, H1, rfl, I1.kept (t' := s1.toks) hk, turn_enum a (s1.heap.objs.size + 1) s1.heap.objs.size, ⟨⟨.none, he⟩, ⟨_, hit, rfl, rfl⟩, Nat.succ_ne_self _⟩, fun b hb => I1.fpOk (hle b hb) (I1.hok.fresh (hle b hb)), q⟩
    · obtain ⟨its, rv, p', hz⟩ := I1.tuple hq
      have hal : a < s1.heap.objs.size := by obtain ⟨_, e, _⟩ := p'; exact Heap.lt_size e
      refine enum1 (begins_tuple a its.toArray) p' fun h' he hit hk => wpAny_pyIter_enum he ?_
      exact ⟨s1.heap.objs.size + 1, [s1.heap.objs.size + 1, s1.heap.objs.size], _, _, H1, rfl, I1.kept (t' := s1.toks) hk, turn_enumT a (s1.heap.objs.size + 1) s1.heap.objs.size, ⟨⟨.none, he⟩, ⟨_, hit, rfl, rfl⟩, Nat.succ_ne_self _, Nat.ne_of_lt hal, Nat.ne_of_lt (Nat.lt_succ_of_lt hal)⟩, fun b hb => I1.fpOk (hle b hb) (I1.hok.fresh (hle b hb)), q⟩
theorem enumD_get : ∀ {ds : List D} {n i : Nat} {d : D}, (enumD n ds)[i]? = some d → ∃ x, ds[i]? = some x ∧ d = .tup [.int ((n + i : Nat) : Int), x]
  | [], _, _, _, h => by simp [enumD] at h
  | y :: ds, n, 0, d, h => by
    simp [enumD] at h
    exact ⟨y, rfl, by rw [← h]; rfl⟩
  | y :: ds, n, i + 1, d, h => by
    obtain ⟨x, e1, e2⟩ := enumD_get (ds := ds) (n := n + 1) (i := i) (by simpa [enumD] using h)
    exact ⟨x, by simpa using e1, by rw [e2]; congr 3; omega⟩
theorem enumD_length : ∀ (ds : List D) (n : Nat), (enumD n ds).length = ds.length
  | [], _ => rfl
  | _ :: ds, n => by simp [enumD, enumD_length ds]
/-- as items says of a tuple too -/
def toEnm (ds : List D) : Gs → Option Src := fun G => match ds with
  | [d] => (seqD G d).map fun _ => .enm d
  | _ => none
section
variable {X : Cx} {W : Wq} {pos p : Pos} {e : Expr} {m : M (List D)}
theorem step_pair {K : PySem.W.Frag} {ρ : Rho} {H : Hp} {G : Gs} {T : Addr} {d1 d2 : D} {v1 v2 : V} (rl : Rl K ρ G H) (hT : H T = none) (r1 : DRel K ρ H d1 v1) (r2 : DRel K ρ H d2 v2) :
    Step ρ H ρ (upd H T (.tup [v1, v2])) ∧ Rl K ρ G (upd H T (.tup [v1, v2])) ∧ DRel K ρ (upd H T (.tup [v1, v2])) (.tup [d1, d2]) (.ref T) :=
  ⟨step_upd rl hT, rl.updN hT, tup_new rl hT (drels_cons r1 (drels_one r2))⟩
theorem src_enl {K : PySem.W.Frag} {ρ : Rho} {H : Hp} {d : D} {a : Addr} (r : DRel K ρ H d (.ref a)) (h : ∀ G, seqD G d = lsD G d) : SrcRel K ρ H (.enm d) (Ite K a) := by
  intro ρ' G' H' s rl its e i
  have e' : (seqD G' d).map (enumD 0) = some its := e
  cases q : seqD G' d with
  | none => rw [q] at e'; cases e'
  | some ds =>
    rw [q] at e'
    cases e'
    rw [h] at q
    obtain ⟨a', xs, ea, h1, h2⟩ := ls_at rl q (r.grow s)
    cases ea
    refine ⟨fun d' hd => ?_, fun hi => ⟨xs, h1, by rw [← h2.length, ← enumD_length ds 0]; exact hi⟩⟩
    obtain ⟨x, ex, rfl⟩ := enumD_get hd
    obtain ⟨v, e1, e2⟩ := h2.get ex
    refine ⟨⟨xs, v, h1, e1⟩, fun w H2 y => ?_⟩
    obtain ⟨T, z, rfl, hT, rfl, hz⟩ := y
    have := hz xs h1
    rw [e1] at this
    cases this
    exact step_pair rl hT (by rw [Nat.zero_add]; rfl) e2
theorem src_ent {K : PySem.W.Frag} {ρ : Rho} {H : Hp} {es : List D} {a : Addr} (r : DRel K ρ H (.tup es) (.ref a)) : SrcRel K ρ H (.enm (.tup es)) (Iet K a) := by
  intro ρ' G' H' s rl its e i
  have e' : some (enumD 0 es) = some its := e
  cases e'
  obtain ⟨a', xs, ea, h1, h2⟩ := r.grow s
  cases ea
  refine ⟨fun d' hd => ?_, fun hi => ⟨xs, h1.sq, by rw [← h2.length, ← enumD_length es 0]; exact hi⟩⟩
  obtain ⟨x, ex, rfl⟩ := enumD_get hd
  obtain ⟨v, e1, e2⟩ := h2.get ex
  refine ⟨⟨xs, v, h1.sq, e1⟩, fun w H2 y => ?_⟩
  obtain ⟨T, z, rfl, hT, rfl, hz⟩ := y
  have := hz xs h1.sq
  rw [e1] at this
  cases this
  exact step_pair rl hT (by rw [Nat.zero_add]; rfl) e2
theorem mi_enum {elts : List Expr} {kk : Nat} {tpos : Pos} (hg : Gl X "enumerate") (hm : X.mg "enumerate" = none) (ha : MA X W [e] m) (hs : starEach [e] X.env = [(false, eval e X.env)] := by rfl) :
    MI X W (.Tuple elts kk tpos) (.Call (.Name "enumerate" p) [e] [] pos) (bnd m fun ds => lo (toEnm ds)) := (pi_enm hg hm ha hs).conv fun σ H Q ⟨ρ, G, ds, rl, sr, hl, p⟩ => by
  refine la_seq p rl sr hl fun v H1 ρ1 G1 a s1 r1 sr1 hl1 d1 p1 => ?_
  obtain ⟨d', e, q⟩ := lo_inv p1
  unfold toEnm at e
  split at e
  · rename_i d
    obtain ⟨v1, r', rfl, d2, e2⟩ := d1
    cases e2
    cases e3 : seqD G1 d with
    | none => rw [e3] at e; cases e
    | some its =>
      rw [e3] at e
      cases e
      have fin : ∀ J, SrcRel X.K ρ1 H1 (.enm d) J → Q J H1 := fun J hj => q ρ1 H1 J (Step.refl _ _) r1 hj
      cases d with
      | tup es =>
        obtain ⟨p, xs, rfl, h1, h2⟩ := id d2
        exact ⟨p, rfl, .inr ⟨⟨xs, h1.sq⟩, fin _ (src_ent d2)⟩⟩
      | tl es =>
        obtain ⟨p, xs, rfl, h1, h2⟩ := id d2
        exact ⟨p, rfl, .inl ⟨⟨xs, h1.sq⟩, fin _ (src_enl d2 fun _ => rfl)⟩⟩
      | fz es =>
        obtain ⟨p, xs, rfl, h1, h2⟩ := id d2
        exact ⟨p, rfl, .inl ⟨⟨xs, h1.sq⟩, fin _ (src_enl d2 fun _ => rfl)⟩⟩
      | obj i =>
        obtain ⟨p, xs, rfl, h1, h2⟩ := ls_at r1 (show lsD G1 (.obj i) = some its from e3) d2
        exact ⟨p, rfl, .inl ⟨⟨xs, h1⟩, fin _ (src_enl d2 fun _ => rfl)⟩⟩
      | _ => cases e3
  · cases e
end

/-! ### a list, a tuple or a text, as it comes -/
def iAny (K : PySem.W.Frag) (tl : TE) : TI := fun σ H R => tl σ H fun x H1 => (∃ z, x = .str z ∧ R (Its z) H1) ∨ ∃ a, x = .ref a ∧ (((∃ xs, SqL K H1 a xs) ∧ R (Itl K a) H1) ∨ ((∃ xs, SqT K H1 a xs) ∧ R (Itt K a) H1))
theorem pi_any {X : Cx} {tg l : Expr} {tl : TE} (hl : PE X l tl) : PI X tg l (iAny X.K tl) := by
  refine ⟨fun pins s σ H R I h => ?_⟩
  refine thn (hl.run pins s σ H _ I h) fun v s1 ⟨x, H1, I1, r1, q1⟩ => ?_
  rcases q1 with ⟨z, ex, q⟩ | ⟨a, ex, q⟩
  · subst ex
    obtain ⟨t, rfl⟩ := r1
    cases ha : z.cps.all (· < 128)
    · exact wpAny_pyIter_wide ha (pi_one (tk := s1.toks) I1 _ (turn_str _ z t "str_iterator" (.inr rfl)) ⟨_, Heap.get?_push_size _ rfl, rfl, rfl⟩ q)
    · exact wpAny_pyIter_ascii ha (pi_one (tk := s1.toks) I1 _ (turn_str _ z t "str_ascii_iterator" (.inl rfl)) ⟨_, Heap.get?_push_size _ rfl, rfl, rfl⟩ q)
  · have h2 : PIE X pins σ tg R v s1 → PIE X pins σ tg R v s1 := id
    have pe : PE X l (fun σ' H' Q => tl σ' H' Q) := hl
    subst ex
    cases r1
    rcases q with ⟨⟨xs, hq⟩, q⟩ | ⟨⟨xs, hq⟩, q⟩
    · obtain ⟨its, rv, p, hz⟩ := I1.list hq
      refine wpAny_pyIter_list p.isList ?_
      exact pi_one (tk := s1.toks) I1 _ (turn_list a _) ⟨_, Heap.get?_push_size _ rfl, rfl, rfl⟩ q
    · obtain ⟨its, rv, p, hz⟩ := I1.tuple hq
      refine wpAny_pyIter_tuple (show s1.heap.IsTuple a its.toArray from p) ?_
      exact pi_one (tk := s1.toks) I1 _ (turn_tuple a _) ⟨_, Heap.get?_push_size _ rfl, rfl, rfl⟩ q
def toSrcA (d : D) : Gs → Option Src := fun G => match d with
  | .str z => if z.length ≤ sizeLine then some (.str z) else none
  | d => toSrc d G
section
variable {X : Cx} {W : Wq} {pos p : Pos} {e : Expr} {me : M D}
theorem mi_any {tg : Expr} (h : ME X W e me) : MI X W tg e (bnd me fun d => lo (toSrcA d)) := (pi_any h).conv fun σ H Q ⟨ρ, G, ds, rl, sr, hl, p⟩ => by
  refine le_seq p rl sr hl fun v H1 ρ1 G1 a s1 r1 sr1 hl1 d1 p1 => ?_
  obtain ⟨d', e, q⟩ := lo_inv p1
  unfold toSrcA at e
  split at e
  · split at e
    · cases e
      rename_i z hz
      exact .inl ⟨z, d1, q ρ1 H1 _ (Step.refl _ _) r1 src_str⟩
    · cases e
  · unfold toSrc at e
    split at e
    · cases e
      rename_i its e1
      have fin : ∀ J, SrcRel X.K ρ1 H1 (.seq a) J → Q J H1 := fun J hj => q ρ1 H1 J (Step.refl _ _) r1 hj
      cases a with
      | tup es =>
        obtain ⟨p, xs, rfl, h1, h2⟩ := id d1
        exact .inr ⟨p, rfl, .inr ⟨⟨xs, h1.sq⟩, fin _ (src_tup d1)⟩⟩
      | tl es =>
        obtain ⟨p, xs, rfl, h1, h2⟩ := id d1
        exact .inr ⟨p, rfl, .inl ⟨⟨xs, h1.sq⟩, fin _ (src_list d1 fun _ => rfl)⟩⟩
      | fz es =>
        obtain ⟨p, xs, rfl, h1, h2⟩ := id d1
        exact .inr ⟨p, rfl, .inl ⟨⟨xs, h1.sq⟩, fin _ (src_list d1 fun _ => rfl)⟩⟩
      | obj i =>
        obtain ⟨p, xs, rfl, h1, h2⟩ := ls_at r1 (show lsD G1 (.obj i) = some its from e1) d1
        exact .inr ⟨p, rfl, .inl ⟨⟨xs, h1⟩, fin _ (src_list d1 fun _ => rfl)⟩⟩
      | _ => cases e1
    · cases e
/-- xs[::-1] of a list -/
def revD (x : D) : Gs → Option D := fun G => (lsD G x).map fun ds => .tl ds.reverse
theorem DRels.reverse {K : PySem.W.Frag} {ρ : Rho} {H : Hp} : ∀ {ds : List D} {xs : List V}, DRels K ρ H ds xs → DRels K ρ H ds.reverse xs.reverse
  | [], _, h => by cases h; rfl
  | d :: ds, _, h => by
    obtain ⟨v, r, rfl, h1, h2⟩ := h
    rw [List.reverse_cons, List.reverse_cons]
    exact (DRels.reverse h2).append (drels_one h1)
theorem me_rev {k : Nat} {p1 p2 p3 : Pos} (he : ME X W e me) : ME X W (.Subscript e (.Slice none none (some (.UnaryOp .USub (.Constant (.int 1) k p1) p2)) p3) pos) (bnd me fun x => lo (revD x)) := (pe_revL he).conv fun σ H Q ⟨ρ, G, ds, rl, sr, hl, p⟩ => by
  refine le_seq p rl sr hl fun v H1 ρ1 G1 a s1 r1 sr1 hl1 d1 p1 => ?_
  obtain ⟨d', e, q⟩ := lo_inv p1
  unfold revD at e
  cases e1 : lsD G1 a with
  | none => rw [e1] at e; cases e
  | some es =>
    rw [e1] at e
    cases e
    obtain ⟨b, xs, rfl, h1, h2⟩ := ls_at r1 e1 d1
    exact ⟨b, xs, rfl, h1, fun p hp => q ρ1 _ _ (step_upd r1 hp) (r1.updN hp) (tl_new r1 hp h2.reverse)⟩
end

/-! ### isinstance(x, (A, B)) -/
def rIsiS (K : PySem.W.Frag) : List V → Hp → VK → Prop := fun xs H Q => ∃ (x : V) (tp : Addr) (cs : List V) (t : Value) (us : List Value) (b : Bool), xs = [x, .ref tp] ∧ SqT K H tp cs ∧ Paired ClsV cs us ∧ TyX K H x t ∧ PySem.W.kitAny K t us = some b ∧ Q (.bl b) H
theorem call_isiS {X : Cx} : CallR X (.builtin "isinstance") (rIsiS X.K) := by
  intro pins s σ H xs us Q I r h
  obtain ⟨x, tp, cs, t, ws, b, rfl, hT, k, ty, e, q⟩ := h
  obtain ⟨u1, u2, rfl, r1, r2⟩ := vals2 r
  cases (show u2 = Value.ref tp from r2)
  obtain ⟨P, Z, p, hx⟩ := kit_of I r1 ty
  obtain ⟨its, rv, ⟨o, h1, h2, n, h3⟩, _⟩ := I.tuple hT
  have e3 := ClsV.all k rv
  subst e3
  obtain ⟨oc, od, dt, sl⟩ := o
  simp only at h2 h3
  subst h2 h3
  exact PySem.W.kia_tup Z I.kIn p h1 e hx fun tk => ⟨.bl b, H, I.tok tk, rfl, q⟩
def ktAny (T : TF) (t : CT) : List CT → Option Bool
  | [] => some false
  | c :: r => match T.kt t c with
    | some true => some true
    | some false => ktAny T t r
    | none => none
theorem ktAny_ok {K : PySem.W.Frag} (F : PF K) {t : CT} : ∀ {cs : List CT} {b : Bool}, ktAny F.T t cs = some b → PySem.W.kitAny K (cv K t) (cs.map (cv K)) = some b
  | [], b, h => by cases h; exact kitAny_nil
  | c :: r, b, h => by
    simp only [ktAny] at h
    split at h
    · rename_i e
      cases h
      exact kitAny_cons (F.hkt _ _ _ e) (fun z => by cases z) fun _ => rfl
    · rename_i e
      exact kitAny_cons (F.hkt _ _ _ e) (fun _ => ktAny_ok F h) fun z => by cases z
    · cases h
def isiF2 (T : TF) : List D → Gs → Option D := fun ds G => match ds with
  | [x, .tup cs] => (match tyC G x, allOf clsD cs with
    | some t, some us => if okT T t = true then (ktAny T t us).map D.bl else none
    | _, _ => none)
  | ds => isiF T ds G
theorem cls_pairs {K : PySem.W.Frag} {ρ : Rho} {H : Hp} : ∀ {cs : List D} {vs : List V} {us : List CT}, allOf clsD cs = some us → DRels K ρ H cs vs → Paired ClsV vs (us.map (cv K))
  | [], _, _, h, r => by cases h; cases r; exact .nil
  | d :: ds, _, us, h, r => by
    obtain ⟨v, vs, rfl, r1, r2⟩ := r
    unfold allOf at h
    split at h
    · cases h
      rename_i q1 q2
      exact .cons (clsV_at q1 r1) (cls_pairs q2 r2)
    · cases h
theorem bIsi2 {X : Cx} (F : PF X.K) : CallR X (.builtin "isinstance") (rF X.K (isiF2 F.T)) := by
  intro pins s σ H vs us Q I rv ⟨ρ, G, as, d, rl, ha, e, q⟩
  unfold isiF2 at e
  split at e
  · rename_i x cs
    split at e
    · rename_i t us' e1 e2
      split at e
      · rename_i hc
        cases e3 : ktAny F.T t us' with
        | none => rw [e3] at e; cases e
        | some b =>
          rw [e3] at e
          cases e
          obtain ⟨v1, r1, rfl, d1, v2, r2, rfl, d2, e4⟩ := ha
          cases e4
          obtain ⟨p, zs, rfl, h1, h2⟩ := d2
          exact call_isiS _ _ _ _ _ _ _ I rv ⟨_, p, zs, _, _, b, rfl, h1.sq, cls_pairs e2 h2, ty_at F rl e1 (fun C z => by subst z; exact hc) d1, ktAny_ok F e3, q ρ H _ (Step.refl _ _) rl rfl⟩
      · cases e
    · cases e
  · exact bIsi F _ _ _ _ _ _ _ I rv ⟨ρ, G, as, d, rl, ha, e, q⟩
theorem bIsiT2 {X : Cx} {T : TF} (h : ∃ F : PF X.K, F.T = T) : CallR X (.builtin "isinstance") (rF X.K (isiF2 T)) := by
  obtain ⟨F, rfl⟩ := h
  exact bIsi2 F
/-- what is never come to -/
def stkM {α : Type} : M α := fun _ _ => .stuck
theorem me_stk {X : Cx} {W : Wq} {e : Expr} : ME X W e stkM := ⟨fun pins s σ H Q I ⟨ρ, G, ds, rl, sr, hl, p⟩ => p.elim⟩
theorem mt_stk {X : Cx} {W : Wq} {e : Expr} : MT X W e stkM := ⟨fun pins s σ H Q I ⟨ρ, G, ds, rl, sr, hl, p⟩ => p.elim⟩
theorem ms_stk {X : Cx} {W : Wq} {st : Stmt} : MSt X W st stkS := ⟨fun pins s σ H Q I ⟨ρ, G, ds, rl, sr, hl, p⟩ => p.elim⟩

/-! ### == of texts of any signs -/
def eqD2 : D → D → Gs → Option D := fun x y G => match x, y with
  | .str a, .str b => some (.bl (decide (a = b)))
  | x, y => eqD x y G
def neD2 : D → D → Gs → Option D := fun x y G => match x, y with
  | .str a, .str b => some (.bl (!decide (a = b)))
  | x, y => neD x y G
theorem dec_strV {a b : Str} : decide (V.str a = V.str b) = decide (a = b) := by
  rw [decide_eq_decide]
  exact ⟨fun h => V.str.inj h, fun h => by rw [h]⟩
theorem opEq2 {X : Cx} (hu : X.A.units + 64 < cLine) : OpR X (compareOp .Eq) (rO X.K eqD2) := by
  intro pins s σ H x y v u Q I rx ry ⟨ρ, G, a, b, d, rl, ha, hb, e, q⟩
  unfold eqD2 at e
  split at e
  · rename_i a b
    cases e
    obtain rfl : x = _ := ha
    obtain rfl : y = _ := hb
    exact op_eq _ _ _ _ _ _ _ _ _ I rx ry ⟨rfl, by rw [dec_strV]; exact q ρ H _ (Step.refl _ _) rl rfl⟩
  · exact opEq hu _ _ _ _ _ _ _ _ _ I rx ry ⟨ρ, G, a, b, d, rl, ha, hb, e, q⟩
theorem opNe2 {X : Cx} (hu : X.A.units + 64 < cLine) : OpR X (compareOp .NotEq) (rO X.K neD2) := by
  intro pins s σ H x y v u Q I rx ry ⟨ρ, G, a, b, d, rl, ha, hb, e, q⟩
  unfold neD2 at e
  split at e
  · rename_i a b
    cases e
    obtain rfl : x = _ := ha
    obtain rfl : y = _ := hb
    exact op_ne _ _ _ _ _ _ _ _ _ I rx ry ⟨rfl, by rw [dec_strV]; exact q ρ H _ (Step.refl _ _) rl rfl⟩
  · exact opNe hu _ _ _ _ _ _ _ _ _ I rx ry ⟨ρ, G, a, b, d, rl, ha, hb, e, q⟩
end M3
end L2

set_option Elab.async false
set_option linter.all false
set_option maxRecDepth 100000
set_option maxHeartbeats 2000000
/-! M3r: new lists that are to be changed; str of a text. -/
namespace L2
namespace M3
open PySem PySem.Spec PyProof.Rows

section
variable {X : Cx} {W : Wq} {a b e : Expr} {es : List Expr} {pos p : Pos} {ma mb : M D} {m : M (List D)}
/-- as rO, with an object more, perhaps -/
def rON (K : PySem.W.Frag) (f : D → D → Gs → Option (D × Gs)) : R2 := fun x y H Q => ∃ ρ G a b d G1, Rl K ρ G H ∧ DRel K ρ H a x ∧ DRel K ρ H b y ∧ f a b G = some (d, G1) ∧
  ∀ ρ' H' v, Step ρ H ρ' H' → Rl K ρ' G1 H' → DRel K ρ' H' d v → Q v H'
def rFN (K : PySem.W.Frag) (f : List D → Gs → Option (D × Gs)) : List V → Hp → VK → Prop := fun xs H Q => ∃ ρ G as d G1, Rl K ρ G H ∧ DRels K ρ H as xs ∧ f as G = some (d, G1) ∧
  ∀ ρ' H' v, Step ρ H ρ' H' → Rl K ρ' G1 H' → DRel K ρ' H' d v → Q v H'
theorem me_binN {op : Operator} {f : D → D → Gs → Option (D × Gs)} (ho : OpR X (binaryOp op) (rON X.K f)) (ha : ME X W a ma) (hb : ME X W b mb) :
    ME X W (.BinOp a op b pos) (bnd ma fun x => bnd mb fun y => lof (f x y)) := (pe_op ho ha hb).conv fun σ H Q ⟨ρ, G, ds, rl, sr, hl, p⟩ => by
  refine le_seq p rl sr hl fun x H1 ρ1 G1 c s1 r1 sr1 hl1 d1 p1 => ?_
  refine le_seq p1 r1 sr1 hl1 fun y H2 ρ2 G2 d s2 r2 sr2 hl2 d2 p2 => ?_
  obtain ⟨d', G', e, q⟩ := lof_inv p2
  exact ⟨ρ2, G2, c, d, d', G', r2, d1.step s2, d2, e, q⟩
theorem me_callTyN {x : Str} {T : String} {f : List D → Gs → Option (D × Gs)} (hc : CallR X (.type T) (rFN X.K f)) (hg : Gl X x) (hmg : X.mg x = none) (hv : bootBuiltins x = some (.type T)) (ha : MA X W (e :: es) m) (hn : x ≠ "__name__" := by decide) (hdb : (x == ("__debug__" : Str)) = false := by decide)
    (he : starEach (e :: es) X.env = (false, eval e X.env) :: starEach es X.env := by rfl) (hpl : (backTo pos (starEach es X.env)).any (·.1) = false := by rfl) : ME X W (.Call (.Name x p) (e :: es) [] pos) (bnd m fun ds => lof (f ds)) := (pe_callTy hc hg hmg hv ha hn hdb he hpl).conv fun σ H Q ⟨ρ, G, ds, rl, sr, hl, p⟩ => by
  refine la_seq p rl sr hl fun xs H1 ρ1 G1 c s1 r1 sr1 hl1 d1 p1 => ?_
  obtain ⟨d', G', e, q⟩ := lof_inv p1
  exact ⟨ρ1, G1, c, d', G', r1, d1, e, q⟩
theorem me_callBN {x : Str} {id : String} {f : List D → Gs → Option (D × Gs)} (hc : CallR X (.builtin id) (rFN X.K f)) (hg : Gl X x) (hmg : X.mg x = none) (hv : bootBuiltins x = some (.builtin id)) (ha : MA X W (e :: es) m) (hn : x ≠ "__name__" := by decide) (hdb : (x == ("__debug__" : Str)) = false := by decide)
    (he : starEach (e :: es) X.env = (false, eval e X.env) :: starEach es X.env := by rfl) (hpl : (backTo pos (starEach es X.env)).any (·.1) = false := by rfl) : ME X W (.Call (.Name x p) (e :: es) [] pos) (bnd m fun ds => lof (f ds)) := (pe_callB hc hg hmg hv ha hn hdb he hpl).conv fun σ H Q ⟨ρ, G, ds, rl, sr, hl, p⟩ => by
  refine la_seq p rl sr hl fun xs H1 ρ1 G1 c s1 r1 sr1 hl1 d1 p1 => ?_
  obtain ⟨d', G', e, q⟩ := lof_inv p1
  exact ⟨ρ1, G1, c, d', G', r1, d1, e, q⟩
/-- a new list, an object -/
def newO (ds : List D) (G : Gs) : Option (D × Gs) := some (.obj G.length, G ++ [.lst ds])
theorem obj_new {K : PySem.W.Frag} {ρ : Rho} {G : Gs} {H : Hp} {a : Addr} {ds : List D} {xs : List V} {Q : VK} (rl : Rl K ρ G H) (ha : H a = none) (d : DRels K ρ H ds xs)
    (q : ∀ ρ' H' v, Step ρ H ρ' H' → Rl K ρ' (G ++ [.lst ds]) H' → DRel K ρ' H' (.obj G.length) v → Q v H') : Q (.ref a) (upd H a (.lst xs)) :=
  q (ρ.more a) _ _ (step_alloc rl ha) (rl.alloc ha ⟨xs, upd_same, d.step (step_alloc rl ha)⟩) ⟨a, by
    show (ρ.os ++ [a])[G.length]? = _
    rw [rl.len]
    simp, rfl⟩
def mulLN : D → D → Gs → Option (D × Gs) := fun x y G => match y with
  | .int k => (match lstD G x with
    | some a => if -(2 ^ 63) ≤ k ∧ k < 2 ^ 63 ∧ a.length * k.toNat ≤ sizeLine then newO (List.replicate k.toNat a).flatten G else none
    | none => none)
  | _ => none
def addLN : D → D → Gs → Option (D × Gs) := fun x y G => match lstD G x, lstD G y with
  | some a, some b => if a.length + b.length ≤ sizeLine then newO (a ++ b) G else none
  | _, _ => none
theorem opMulN : OpR X (binaryOp .Mult) (rON X.K mulLN) := by
  intro pins s σ H x y v u Q I rx ry ⟨ρ, G, a, b, d, G1, rl, ha, hb, e, q⟩
  unfold mulLN at e
  split at e
  · split at e
    · split at e
      · cases e
        rename_i k _ es ea h
        obtain ⟨p, xs, rfl, h1, h2⟩ := lst_at rl ea ha
        obtain rfl : y = _ := hb
        obtain ⟨n1, n2, n3⟩ := h
        exact op_rep _ _ _ _ _ _ _ _ _ I rx ry ⟨p, k, xs, rfl, rfl, h1, n1, n2, by rw [← h2.length]; exact n3, fun c hc => obj_new rl hc (drels_rep h2 _) q⟩
      · cases e
    · cases e
  · cases e
theorem opAddN : OpR X (binaryOp .Add) (rON X.K addLN) := by
  intro pins s σ H x y v u Q I rx ry ⟨ρ, G, a, b, d, G1, rl, ha, hb, e, q⟩
  unfold addLN at e
  split at e
  · split at e
    · cases e
      rename_i as bs ea eb h
      obtain ⟨p, xs, rfl, h1, h2⟩ := lst_at rl ea ha
      obtain ⟨p', ys, rfl, h3, h4⟩ := lst_at rl eb hb
      exact op_cat _ _ _ _ _ _ _ _ _ I rx ry ⟨p, p', xs, ys, rfl, rfl, h1, h3, by rw [← h2.length, ← h4.length]; exact h, fun c hc => obj_new rl hc (h2.append h4) q⟩
    · cases e
  · cases e
def listFN : List D → Gs → Option (D × Gs) := fun ds G => match ds with
  | [x] => (seqD G x).bind fun es => newO es G
  | _ => none
theorem bListN : CallR X (.type "list") (rFN X.K listFN) := by
  intro pins s σ H vs us Q I rv ⟨ρ, G, as, d, G1, rl, ha, e, q⟩
  unfold listFN at e
  split at e
  · rename_i x
    obtain ⟨v1, r1, rfl, d1, e2⟩ := ha
    cases e2
    cases e1 : seqD G x with
    | none => rw [e1] at e; cases e
    | some n =>
      rw [e1] at e
      cases e
      obtain ⟨a, xs, rfl, h1, h2⟩ := seq_at rl e1 d1
      exact call_list_of _ _ _ _ _ _ _ I rv ⟨a, xs, rfl, h1, fun c hc => obj_new rl hc h2 q⟩
  · cases e
def strF2 : List D → Gs → Option D := fun ds G => match ds with
  | [.str a] => some (.str a)
  | ds => strF ds G
theorem bStr2 : CallR X (.type "str") (rF X.K strF2) := by
  intro pins s σ H vs us Q I rv ⟨ρ, G, as, d, rl, ha, e, q⟩
  unfold strF2 at e
  split at e
  · cases e
    obtain ⟨v1, r1, rfl, d1, e2⟩ := ha
    cases e2
    cases d1
    exact SkE.call_str_str _ _ _ _ _ _ _ I rv ⟨_, rfl, q ρ H _ (Step.refl _ _) rl rfl⟩
  · exact bStr _ _ _ _ _ _ _ I rv ⟨ρ, G, as, d, rl, ha, e, q⟩
end
end M3
end L2

set_option Elab.async false
set_option linter.all false
set_option maxRecDepth 100000
set_option maxHeartbeats 2000000
/-! M4: words for plain laws. -/
namespace L2
namespace M3
open PySem PySem.Spec PyProof.Rows

section
variable {G : Gs}
theorem intF2_i {i : Int} : intF2 [.int i] G = some (.int i) := rfl
theorem eqD_ii {a b : Int} : eqD (.int a) (.int b) G = some (.bl (decide (a = b))) := by
  show (if SeqAt.shaped (.int a) = true ∧ SeqAt.shaped (.int b) = true then some (D.bl (PyData.eqv (.int a) (.int b))) else none) = _
  rw [if_pos ⟨rfl, rfl⟩]
  have e : PyData.eqv (.int a) (.int b) = decide (a = b) := by
    first | rfl | (simp [PyData.eqv]; done)
  rw [e]
theorem neD_ii {a b : Int} : neD (.int a) (.int b) G = some (.bl (!decide (a = b))) := by
  show (if SeqAt.shaped (.int a) = true ∧ SeqAt.shaped (.int b) = true then some (D.bl (!PyData.eqv (.int a) (.int b))) else none) = _
  rw [if_pos ⟨rfl, rfl⟩]
  have e : PyData.eqv (.int a) (.int b) = decide (a = b) := by
    first | rfl | (simp [PyData.eqv]; done)
  rw [e]
theorem eqD2_i {a b : Int} : eqD2 (.int a) (.int b) G = some (.bl (decide (a = b))) := eqD_ii (G := G)
theorem neD2_i {a b : Int} : neD2 (.int a) (.int b) G = some (.bl (!decide (a = b))) := neD_ii (G := G)
theorem eqD2_s {a b : Str} : eqD2 (.str a) (.str b) G = some (.bl (decide (a = b))) := rfl
theorem neD2_s {a b : Str} : neD2 (.str a) (.str b) G = some (.bl (!decide (a = b))) := rfl
theorem eqD2_b {a b : Bool} : eqD2 (.bl a) (.bl b) G = some (.bl (decide (a = b))) := by
  cases a <;> cases b <;> rfl
theorem neD2_b {a b : Bool} : neD2 (.bl a) (.bl b) G = some (.bl (!decide (a = b))) := by
  cases a <;> cases b <;> rfl
theorem negD_i {i : Int} : negD (.int i) G = some (.int (-i)) := rfl
theorem sz (n : Nat) (h : n ≤ 1000000) : n ≤ sizeLine := by rw [sizeLine_eq]; omega
theorem lenF_str {z : Str} (h : z.length ≤ 1000000) : lenF [.str z] G = some (.int z.length) := by
  show ((if z.length ≤ sizeLine then some z.length else none).map fun n => D.int (n : Int)) = _
  rw [if_pos (sz _ h)]
  rfl
theorem mkT_c {ds : List D} (h : ds.length ≤ 1000000) : mkT ds G = some (.tup ds) := by
  unfold mkT
  rw [if_pos (sz _ h)]
theorem mkL_c {ds : List D} (h : ds.length ≤ 1000000) : mkL ds G = some (.tl ds) := by
  unfold mkL
  rw [if_pos (sz _ h)]
theorem addD_tt {a b : List D} (h : a.length + b.length ≤ 1000000) : addD (.tup a) (.tup b) G = some (.tup (a ++ b)) := by
  show (if a.length + b.length ≤ sizeLine then some (D.tup (a ++ b)) else none) = _
  rw [if_pos (sz _ h)]
theorem addD_ss {a b : Str} (h : a.length + b.length ≤ 1000000) : addD (.str a) (.str b) G = some (.str (a ++ b)) := by
  show (if a.length + b.length ≤ sizeLine then some (D.str (a ++ b)) else none) = _
  rw [if_pos (sz _ h)]
theorem addD_ll {a b : List D} (h : a.length + b.length ≤ 1000000) : addD (.tl a) (.tl b) G = some (.tl (a ++ b)) := by
  show (if a.length + b.length ≤ sizeLine then some (D.tl (a ++ b)) else none) = _
  rw [if_pos (sz _ h)]
theorem ixD_fz {ds : List D} {i : Int} : ixD (.fz ds) (.int i) G = atI ds i := rfl
theorem ixD_s {z : Str} {i : Int} (h : z.length ≤ 1000000) : ixD (.str z) (.int i) G = (atI z.cps.toList i).map fun c => .str ⟨#[c]⟩ := by
  show (if z.length ≤ sizeLine then (atI z.cps.toList i).map (fun c => D.str ⟨#[c]⟩) else none) = _
  rw [if_pos (sz _ h)]
theorem lstO_0 {ds : List D} {r : Gs} : lstO (.lst ds :: r) 0 = some ds := rfl
theorem lstO_s {m : MO} {r : Gs} {j : Nat} : lstO (m :: r) (j + 1) = lstO r j := by
  unfold lstO
  simp
theorem atI_0 {α : Type} {x : α} {r : List α} : atI (x :: r) 0 = some x := by
  unfold atI ixN
  simp
theorem atI_n {α : Type} {xs : List α} {i : Int} (h0 : 0 ≤ i) (h : i.toNat < xs.length) : atI xs i = some (xs[i.toNat]) := atI_of (ixN_pos h0 (by omega)) (by simp [h])
theorem cut_l {α : Type} [Inhabited α] {ds : List D} {v : Int} (h : 0 ≤ v) : cutD ds none (some v) = ds.take v.toNat := by
  unfold cutD HT.sIx
  simp only [Nat.sub_zero, List.drop_zero]
  rw [if_neg (by omega)]
  by_cases c : v.toNat ≤ ds.length
  · rw [Nat.min_eq_left c]
  · rw [Nat.min_eq_right (by omega), List.take_length, List.take_of_length_le (by omega)]
theorem cut_r {ds : List D} {v : Int} (h : 0 ≤ v) : cutD ds (some v) none = ds.drop v.toNat := by
  unfold cutD HT.sIx
  simp only
  rw [if_neg (by omega)]
  by_cases c : v.toNat ≤ ds.length
  · rw [Nat.min_eq_left c, List.take_of_length_le (by rw [List.length_drop]; omega)]
  · rw [Nat.min_eq_right (by omega), List.drop_length, List.drop_eq_nil_of_le (by omega)]
    simp
theorem cut_l' {ds : List D} {v : Int} (h : 0 ≤ v) : cutD ds none (some v) = ds.take v.toNat := cut_l (α := Nat) h
theorem slD_tr {ds : List D} {v : Int} (h : 0 ≤ v) : slD (.tup ds) (some v) none G = some (.tup (ds.drop v.toNat)) := by simp only [slD, cut_r h]
theorem slD_tl {ds : List D} {v : Int} (h : 0 ≤ v) : slD (.tup ds) none (some v) G = some (.tup (ds.take v.toNat)) := by simp only [slD, cut_l' h]
theorem slD_lr {ds : List D} {v : Int} (h : 0 ≤ v) : slD (.tl ds) (some v) none G = some (.tl (ds.drop v.toNat)) := by
  show some (D.tl (cutD ds (some v) none)) = _
  rw [cut_r h]
theorem slD_ll {ds : List D} {v : Int} (h : 0 ≤ v) : slD (.tl ds) none (some v) G = some (.tl (ds.take v.toNat)) := by
  show some (D.tl (cutD ds none (some v))) = _
  rw [cut_l' h]
theorem slD_fl {ds : List D} {v : Int} (h : 0 ≤ v) : slD (.fz ds) none (some v) G = some (.tl (ds.take v.toNat)) := by
  show some (D.tl (cutD ds none (some v))) = _
  rw [cut_l' h]
/-! ### plain data -/
mutual
/-- data without objects, classes, no row longer than k -/
def pd (k : Nat) : D → Bool
  | .non => true
  | .bl _ => true
  | .int _ => true
  | .str z => decide (z.length ≤ 1000000)
  | .tup ds => decide (ds.length ≤ k) && pds k ds
  | .tl ds => decide (ds.length ≤ k) && pds k ds
  | .td [] [] => true
  | _ => false
def pds (k : Nat) : List D → Bool
  | [] => true
  | d :: ds => pd k d && pds k ds
end
theorem pds_iff {k : Nat} : ∀ {l : List D}, pds k l = true ↔ ∀ x ∈ l, pd k x = true
  | [] => by simp [pds]
  | y :: l => by
    simp only [pds, Bool.and_eq_true, pds_iff (l := l), List.mem_cons, forall_eq_or_imp]
theorem pd_tp {k : Nat} {ds : List D} : pd k (.tup ds) = true ↔ ds.length ≤ k ∧ ∀ x ∈ ds, pd k x = true := by
  simp only [pd, Bool.and_eq_true, decide_eq_true_eq, pds_iff]
theorem pd_ls {k : Nat} {ds : List D} : pd k (.tl ds) = true ↔ ds.length ≤ k ∧ ∀ x ∈ ds, pd k x = true := by
  simp only [pd, Bool.and_eq_true, decide_eq_true_eq, pds_iff]
/-- its type by its form alone -/
def tyB : D → String
  | .non => "NoneType"
  | .bl _ => "bool"
  | .int _ => "int"
  | .str _ => "str"
  | .tup _ => "tuple"
  | .tl _ => "list"
  | .fz _ => "list"
  | .td _ _ => "dict"
  | _ => ""
def isB (d : D) (T : String) : Bool := tyB d == T || (tyB d == "bool" && T == "int")
theorem kt_bt {t : Tab} {a b : String} (ha : a ∈ bT) (hb : b ∈ bT) (hn : b ≠ "NoneType") : t.tf.kt (.inl a) (.inl b) = some (a == b || (a == "bool" && b == "int")) := by
  show t.ktF (.inl a) (.inl b) = _
  unfold Tab.ktF
  have e : kt0 (.inl a) (.inl b) = some (a == b || (a == "bool" && b == "int")) := by
    show (if a ∈ bT ∧ b ∈ bT ∧ b ≠ "NoneType" then some (a == b || (a == "bool" && b == "int")) else none) = _
    rw [if_pos ⟨ha, hb, hn⟩]
  rw [e]
theorem tyC_b {d : D} (h : tyB d ≠ "") : tyC G d = some (.inl (tyB d)) ∧ tyB d ∈ bT := by
  cases d <;> first | (exact ⟨rfl, by simp [tyB, bT]⟩) | exact absurd rfl h
theorem isi_b {t : Tab} {d : D} {T : String} (h : tyB d ≠ "") (hT : T ∈ bT) (hn : T ≠ "NoneType") : isiF t.tf [d, .ty T] G = some (.bl (isB d T)) := by
  obtain ⟨e, m⟩ := tyC_b (G := G) h
  show (match tyC G d, clsD (.ty T) with
    | some a, some u => if okT t.tf a = true then (t.tf.kt a u).map D.bl else none
    | _, _ => none) = _
  rw [e]
  show (if true = true then (t.tf.kt (.inl (tyB d)) (.inl T)).map D.bl else none) = _
  rw [if_pos rfl, kt_bt m hT hn]
  rfl
theorem isi2_b {t : Tab} {d : D} {T : String} (h : tyB d ≠ "") (hT : T ∈ bT) (hn : T ≠ "NoneType") : isiF2 t.tf [d, .ty T] G = some (.bl (isB d T)) := isi_b h hT hn
theorem isi2_p {t : Tab} {d : D} {T U : String} (h : tyB d ≠ "") (hT : T ∈ bT) (hn : T ≠ "NoneType") (hU : U ∈ bT) (hu : U ≠ "NoneType") : isiF2 t.tf [d, .tup [.ty T, .ty U]] G = some (.bl (isB d T || isB d U)) := by
  obtain ⟨e, m⟩ := tyC_b (G := G) h
  show (match tyC G d, allOf clsD [.ty T, .ty U] with
    | some a, some us => if okT t.tf a = true then (ktAny t.tf a us).map D.bl else none
    | _, _ => none) = _
  rw [e]
  show (if true = true then (ktAny t.tf (.inl (tyB d)) [.inl T, .inl U]).map D.bl else none) = _
  rw [if_pos rfl]
  simp only [ktAny, kt_bt m hT hn, kt_bt m hU hu]
  unfold isB
  cases (tyB d == T || tyB d == "bool" && T == "int") <;> cases (tyB d == U || tyB d == "bool" && U == "int") <;> rfl
theorem pd_ty {k : Nat} {d : D} (h : pd k d = true) : tyB d ≠ "" := by
  cases d <;> first | (simp [pd] at h; done) | (simp [tyB])
end
/-! ### no objects within -/
mutual
def noO : D → Bool
  | .obj _ => false
  | .tup ds => noOs ds
  | .tl ds => noOs ds
  | .fz ds => noOs ds
  | .ti _ _ ds => noOs ds
  | .td _ ds => noOs ds
  | _ => true
def noOs : List D → Bool
  | [] => true
  | d :: ds => noO d && noOs ds
end
theorem noOs_iff : ∀ {l : List D}, noOs l = true ↔ ∀ x ∈ l, noO x = true
  | [] => by simp [noOs]
  | y :: l => by simp only [noOs, Bool.and_eq_true, noOs_iff (l := l), List.mem_cons, forall_eq_or_imp]
mutual
theorem frz_no {G : Gs} {n : Nat} {rec : Nat → Option D} : ∀ {d : D}, noO d = true → frzD G n rec d = some d
  | .obj _, h => by cases h
  | .tup ds, h => by simp only [frzD, frzs_no (show noOs ds = true from h), Option.map_some]
  | .tl ds, h => by simp only [frzD, frzs_no (show noOs ds = true from h), Option.map_some]
  | .fz ds, h => by simp only [frzD, frzs_no (show noOs ds = true from h), Option.map_some]
  | .ti C ks ds, h => by simp only [frzD, frzs_no (show noOs ds = true from h), Option.map_some]
  | .td ks ds, h => by simp only [frzD, frzs_no (show noOs ds = true from h), Option.map_some]
  | .non, _ => rfl
  | .bl _, _ => rfl
  | .int _, _ => rfl
  | .str _, _ => rfl
  | .ty _, _ => rfl
  | .glo _, _ => rfl
theorem frzs_no {G : Gs} {n : Nat} {rec : Nat → Option D} : ∀ {ds : List D}, noOs ds = true → frzDs G n rec ds = some ds
  | [], _ => rfl
  | d :: ds, h => by
    have h' : noO d = true ∧ noOs ds = true := by simpa [noOs] using h
    simp only [frzDs, frz_no h'.1, frzs_no h'.2]
end
mutual
theorem pd_noO {k : Nat} : ∀ {d : D}, pd k d = true → noO d = true
  | .obj _, h => by simp [pd] at h
  | .tup ds, h => by
    have h' : ds.length ≤ k ∧ pds k ds = true := by simpa [pd] using h
    exact pds_noO h'.2
  | .tl ds, h => by
    have h' : ds.length ≤ k ∧ pds k ds = true := by simpa [pd] using h
    exact pds_noO h'.2
  | .fz ds, h => by simp [pd] at h
  | .ti C ks ds, h => by simp [pd] at h
  | .td [] [], _ => rfl
  | .td (_ :: _) _, h => by simp [pd] at h
  | .td [] (_ :: _), h => by simp [pd] at h
  | .non, _ => rfl
  | .bl _, _ => rfl
  | .int _, _ => rfl
  | .str _, _ => rfl
  | .ty _, _ => rfl
  | .glo _, _ => rfl
theorem pds_noO {k : Nat} : ∀ {ds : List D}, pds k ds = true → noOs ds = true
  | [], _ => rfl
  | d :: ds, h => by
    have h' : pd k d = true ∧ pds k ds = true := by simpa [pds] using h
    simp only [noOs, pd_noO h'.1, pds_noO h'.2, Bool.and_self]
end
theorem wR_trim {k : Nat} {f : FM} {ds : List D} {G : Gs} {X : Exc → Gs → Prop} {Q : D → Gs → Prop}
    (h : wR (f ds G) (fun e G1 => below G.length (G1.take G.length) = true ∧ (match e.f with | none => True | some (_, d) => noO d = true) ∧ X e (G1.take G.length))
      (fun d G1 => below G.length (G1.take G.length) = true ∧ noO d = true ∧ Q d (G1.take G.length))) : wR (trim k f ds G) X Q := by
  unfold trim
  cases q : f ds G with
  | ok d G1 =>
    rw [q] at h
    obtain ⟨h1, h2, h3⟩ := h
    simp only [h1, if_true, frz_no h2]
    exact h3
  | exc e G1 =>
    rw [q] at h
    obtain ⟨h1, h2, h3⟩ := h
    obtain ⟨c, f⟩ := e
    simp only [h1, if_true]
    cases f with
    | none => exact h3
    | some p =>
      obtain ⟨x, d⟩ := p
      have h2' : noO d = true := h2
      simp only [frz_no h2']
      exact h3
  | stuck => rw [q] at h; exact h
section
variable {G : Gs} {ds : Sl} {X : Exc → Gs → Prop}
theorem wS_expr {α : Type} {a : α} {E : Kt} : wS (nxtS ds G) E = E.nx ds G := rfl
theorem itemsT {es : List D} : items G (.seq (.tup es)) = some es := rfl
theorem itemsL {es : List D} : items G (.seq (.tl es)) = some es := rfl
theorem itemsF {es : List D} : items G (.seq (.fz es)) = some es := rfl
theorem srcA_t {es : List D} : toSrcA (.tup es) G = some (.seq (.tup es)) := rfl
theorem srcA_l {es : List D} : toSrcA (.tl es) G = some (.seq (.tl es)) := rfl
theorem srcA_f {es : List D} : toSrcA (.fz es) G = some (.seq (.fz es)) := rfl
theorem srcA_s {z : Str} (h : z.length ≤ 1000000) : toSrcA (.str z) G = some (.str z) := by
  show (if z.length ≤ sizeLine then some (Src.str z) else none) = _
  rw [if_pos (sz _ h)]
theorem itemsS {z : Str} (h : z.length ≤ 1000000) : items G (.str z) = some (z.cps.toList.map fun c => .str ⟨#[c]⟩) := by
  show (if z.length ≤ sizeLine then some (z.cps.toList.map fun c => D.str ⟨#[c]⟩) else none) = _
  rw [if_pos (sz _ h)]
theorem rng1 {n : Int} (h0 : -(2 ^ 62) ≤ n) (h : n < 2 ^ 62) : toRng1 [.int n] G = some (.rng 0 n.toNat) := by
  show (if -(2 ^ 62) ≤ n ∧ n < 2 ^ 62 then some (Src.rng 0 n.toNat) else none) = _
  rw [if_pos ⟨h0, h⟩]
/-- a comprehension whose element changes nothing -/
theorem compE {i : Nat} {e : M D} {vs : List Nat} {s : Src} (its : List D) {Q : D → Gs → Prop} (g : D → D) (h0 : items G s = some its) (hz : its.length ≤ 1000000) (hs : ∀ x ∈ its, e ((wipeD ds vs).set i (some x)) G = .ok (g x) G) :
    wR (compD false (.nm i) yes e vs s ds G) X Q = Q (.tl (its.map g)) G := by
  rw [comp_pure (g := g) h0 (sz _ hz) hs]
  rfl
/-- .. and bools of it -/
theorem compB {i : Nat} {e : M D} {vs : List Nat} {s : Src} (its : List D) {Q : D → Gs → Prop} (g : D → Bool) (h0 : items G s = some its) (hz : its.length ≤ 1000000) (hs : ∀ x ∈ its, e ((wipeD ds vs).set i (some x)) G = .ok (.bl (g x)) G) :
    wR (compD false (.nm i) yes e vs s ds G) X Q = Q (.tl (its.map fun x => .bl (g x))) G := compE its (fun x => .bl (g x)) h0 hz hs
theorem wR_eqn {α : Type} {r : R α} {a : α} {G' : Gs} {Q : α → Gs → Prop} (e : r = .ok a G') : wR r X Q = Q a G' := by
  rw [e]
  rfl
theorem anyF_map {p : D → Bool} {l : List D} : anyF [.tl (l.map fun x => .bl (p x))] G = some (.bl (l.any p)) := by
  show ((allOf blD (l.map fun x => D.bl (p x))).map fun ns => D.bl (ns.any id)) = _
  rw [allOf_bl]
  simp [List.any_map]
end
end M3
end L2

set_option Elab.async false
set_option linter.all false
set_option maxRecDepth 100000
set_option maxHeartbeats 2000000
/-! M5: words for plain laws about texts. -/
namespace L2
namespace M3
open PySem PySem.Spec PyProof.Rows
open TL (spl spl_nil pre split_spl kind_ok len_tl)

theorem spl_ne (S : List Nat) : ∀ (k : Nat) (l acc : List Nat), spl S k acc l ≠ []
  | k, [], acc => by rw [spl_nil]; simp
  | 0, c :: r, acc => by
    show (if pre S (c :: r) = true then acc :: spl S (S.length - 1) [] r else spl S 0 (acc ++ [c]) r) ≠ []
    split
    · simp
    · exact spl_ne S 0 r _
  | k + 1, c :: r, acc => spl_ne S k r acc
theorem spl_len (S : List Nat) : ∀ (k : Nat) (l acc : List Nat), ∀ p ∈ spl S k acc l, p.length ≤ acc.length + l.length
  | k, [], acc => fun p hp => by
    rw [spl_nil] at hp
    rw [List.mem_singleton.mp hp]
    simp
  | 0, c :: r, acc => fun p hp => by
    have hp' : p ∈ (if pre S (c :: r) = true then acc :: spl S (S.length - 1) [] r else spl S 0 (acc ++ [c]) r) := hp
    split at hp'
    · rcases List.mem_cons.mp hp' with rfl | hp'
      · omega
      · have := spl_len S _ r [] p hp'
        simp only [List.length_nil, List.length_cons] at this ⊢
        omega
    · have := spl_len S 0 r (acc ++ [c]) p hp'
      simp only [List.length_append, List.length_cons, List.length_nil] at this ⊢
      omega
  | k + 1, c :: r, acc => fun p hp => by
    have := spl_len S k r acc p hp
    simp only [List.length_cons]
    omega
/-- a sign at which texts are cut -/
structure Sep (y : Str) (c : Nat) : Prop where
  e : TL.tl y = [c]
  k : y.cps.all (· < 256) = true
section
variable {x y : Str} {c : Nat}
theorem Sep.spl (h : Sep y c) : (Txt.split x y).map TL.tl = TL.spl [c] 0 [] (TL.tl x) := by
  have := split_spl x y (by rw [h.e]; simp) (kind_ok h.k)
  rw [h.e] at this
  exact this
theorem Sep.ne (h : Sep y c) : Txt.split x y ≠ [] := fun z => by
  have := h.spl (x := x)
  rw [z] at this
  exact spl_ne _ _ _ _ this.symm
theorem Sep.part (h : Sep y c) {p : Str} (hp : p ∈ Txt.split x y) : p.length ≤ x.length := by
  have h1 : TL.tl p ∈ TL.spl [c] 0 [] (TL.tl x) := by
    rw [← h.spl (x := x)]
    exact List.mem_map.mpr ⟨p, hp, rfl⟩
  have := spl_len _ _ _ _ _ h1
  rw [len_tl, len_tl]
  simpa using this
theorem Sep.len1 (h : Sep y c) : (y.length == 0) = false := by
  rw [len_tl, h.e]
  rfl
theorem Sep.split {G : Gs} (h : Sep y c) (hz : x.length ≤ 900000) : splitF (.str x) [.str y] G = some (.tl ((Txt.split x y).map D.str), G) := by
  show (if (y.length == 0) = false ∧ x.length + 2 ≤ sizeLine then some (D.tl ((Txt.split x y).map D.str), G) else none) = _
  rw [if_pos ⟨h.len1, sz _ (by omega)⟩]
end
theorem sep_nl : Sep "\n" 10 := ⟨by decide, by decide +kernel⟩
theorem sep_bl : Sep " " 32 := ⟨by decide, by decide +kernel⟩
section
variable {G : Gs}
theorem tyOk_s {z : Str} : tyOk "str" (.str z) G = true := rfl
theorem enumD_nil {n : Nat} : enumD n [] = [] := rfl
theorem enumD_cons {n : Nat} {d : D} {r : List D} : enumD n (d :: r) = .tup [.int n, d] :: enumD (n + 1) r := rfl
theorem toEnm_l {ds : List D} : toEnm [.tl ds] G = some (.enm (.tl ds)) := rfl
theorem toEnm_t {ds : List D} : toEnm [.tup ds] G = some (.enm (.tup ds)) := rfl
theorem items_el {ds : List D} : items G (.enm (.tl ds)) = some (enumD 0 ds) := rfl
theorem items_et {ds : List D} : items G (.enm (.tup ds)) = some (enumD 0 ds) := rfl
theorem tupF_l {ds : List D} : tupF [.tl ds] G = some (.tup ds) := rfl
theorem tupF_t {ds : List D} : tupF [.tup ds] G = some (.tup ds) := rfl
theorem tupF_o {j : Nat} : tupF [.obj j] G = (lstO G j).map D.tup := by
  show (lsD G (.obj j)).map D.tup = _
  unfold lstO
  show (lstD G (.obj j)).map D.tup = _
  simp only [lstD] <;> (cases G[j]? with
    | none => rfl
    | some o => cases o <;> rfl)
theorem lstO_app {r : Gs} {ds : List D} : lstO (G ++ .lst ds :: r) G.length = some ds := by
  unfold lstO
  rw [List.getElem?_append_right (Nat.le_refl _)]
  simp
theorem lstO_app1 {ds : List D} : lstO (G ++ [.lst ds]) G.length = some ds := lstO_app
theorem set_app {r : Gs} {m m' : MO} : (G ++ m :: r).set G.length m' = G ++ m' :: r := by
  rw [List.set_append_right _ _ (Nat.le_refl _)]
  simp
theorem set_app1 {m m' : MO} : (G ++ [m]).set G.length m' = G ++ [m'] := set_app
theorem take_app {r : Gs} : (G ++ r).take G.length = G := List.take_left
theorem append_app {ds : List D} {d : D} {r : Gs} (h : ds.length < 1000000) : appendF (.obj G.length) [d] (G ++ .lst ds :: r) = some (.non, G ++ .lst (ds ++ [d]) :: r) := by
  unfold appendF
  simp only [objL_o, lstO_app, Option.map_some]
  rw [if_pos (Nat.lt_of_lt_of_le h (sz _ (Nat.le_refl _))), set_app]
theorem append_app1 {ds : List D} {d : D} (h : ds.length < 1000000) : appendF (.obj G.length) [d] (G ++ [.lst ds]) = some (.non, G ++ [.lst (ds ++ [d])]) := append_app h
end
end M3
end L2
namespace L2
namespace M3
open PySem PySem.Spec PyProof.Rows
theorem wS_for0 {s : Src} {t : Tg} {b : MS} {ds : Sl} {G : Gs} {E : Kt} (h : items G s = some []) : wS (forS t b s ds G) E = E.nx ds G := by
  unfold forS
  rw [h]
  show wS (loopS s t b [] [] ds G) E = _
  simp only [loopS, h, decDs_self, if_true]
  rfl
end M3
end L2

set_option Elab.async false
set_option linter.all false
set_option maxRecDepth 100000
set_option maxHeartbeats 0
namespace L2
namespace M3
namespace K53
open PySem PySem.Spec PyProof.Rows
def top (i : Nat) : Stmt := PySem.Challenge.pw_threecopies_k53_whole_texts_of_runs.main.body.getD i (.Pass ⟨0, 0, 0, 0⟩)
def inCls (s : Stmt) (i : Nat) : Stmt := match s with
  | .ClassDef _ _ _ b _ _ _ _ _ _ _ => b.getD i (.Pass ⟨0, 0, 0, 0⟩)
  | _ => s
def d__law_draw : He.DefD := ⟨("_law_draw", none), "_law_draw", "_law_draw", defArgs (top 18), defBody (top 18), defScope (top 18), [], []⟩
def d__law_some : He.DefD := ⟨("_law_some", none), "_law_some", "_law_some", defArgs (top 19), defBody (top 19), defScope (top 19), [], []⟩
def d__law_bent : He.DefD := ⟨("_law_bent", none), "_law_bent", "_law_bent", defArgs (top 30), defBody (top 30), defScope (top 30), [], []⟩
def d__law_deep : He.DefD := ⟨("_law_deep", none), "_law_deep", "_law_deep", defArgs (top 21), defBody (top 21), defScope (top 21), [], []⟩
def d__law_bent_run : He.DefD := ⟨("_law_bent_run", none), "_law_bent_run", "_law_bent_run", defArgs (top 31), defBody (top 31), defScope (top 31), [], []⟩
def d__law_hand : He.DefD := ⟨("_law_hand", none), "_law_hand", "_law_hand", defArgs (top 17), defBody (top 17), defScope (top 17), [], []⟩
def d__law_is : He.DefD := ⟨("_law_is", none), "_law_is", "_law_is", defArgs (top 20), defBody (top 20), defScope (top 20), [], []⟩
def d__law_is_deed : He.DefD := ⟨("_law_is_deed", none), "_law_is_deed", "_law_is_deed", defArgs (top 22), defBody (top 22), defScope (top 22), [], []⟩
def d__law_number : He.DefD := ⟨("_law_number", none), "_law_number", "_law_number", defArgs (top 25), defBody (top 25), defScope (top 25), [], []⟩
def d__law_numbers : He.DefD := ⟨("_law_numbers", none), "_law_numbers", "_law_numbers", defArgs (top 26), defBody (top 26), defScope (top 26), [], []⟩
def d__law_read_run : He.DefD := ⟨("_law_read_run", none), "_law_read_run", "_law_read_run", defArgs (top 27), defBody (top 27), defScope (top 27), [], []⟩
def d__law_run_drawn : He.DefD := ⟨("_law_run_drawn", none), "_law_run_drawn", "_law_run_drawn", defArgs (top 23), defBody (top 23), defScope (top 23), [], []⟩
def d__law_run_text : He.DefD := ⟨("_law_run_text", none), "_law_run_text", "_law_run_text", defArgs (top 24), defBody (top 24), defScope (top 24), [], []⟩
def d_is_integer : He.DefD := ⟨("is_integer", none), "is_integer", "is_integer", defArgs (top 5), defBody (top 5), defScope (top 5), [], []⟩
def d_is_deed : He.DefD := ⟨("is_deed", none), "is_deed", "is_deed", defArgs (top 7), defBody (top 7), defScope (top 7), [], []⟩
def d_lines_of : He.DefD := ⟨("lines_of", none), "lines_of", "lines_of", defArgs (top 13), defBody (top 13), defScope (top 13), [], []⟩
def d_number_of : He.DefD := ⟨("number_of", none), "number_of", "number_of", defArgs (top 14), defBody (top 14), defScope (top 14), [], []⟩
def d_read_run : He.DefD := ⟨("read_run", none), "read_run", "read_run", defArgs (top 15), defBody (top 15), defScope (top 15), [], []⟩
def d__law_told : He.DefD := ⟨("_law_told", none), "_law_told", "_law_told", defArgs (top 28), defBody (top 28), defScope (top 28), [], []⟩
def d_is_run : He.DefD := ⟨("is_run", none), "is_run", "is_run", defArgs (top 8), defBody (top 8), defScope (top 8), [], []⟩
def d_run_text : He.DefD := ⟨("run_text", none), "run_text", "run_text", defArgs (top 12), defBody (top 12), defScope (top 12), [], []⟩
def d__law_written : He.DefD := ⟨("_law_written", none), "_law_written", "_law_written", defArgs (top 29), defBody (top 29), defScope (top 29), [], []⟩
def d_law : He.DefD := ⟨("law", none), "law", "law", defArgs (top 32), defBody (top 32), defScope (top 32), [], []⟩
def s_BadText : SupD := ⟨"BadText", "line", "BadText.__init__", "bad text", defArgs (inCls (top 3) 0), defBody (inCls (top 3) 0), defScope (inCls (top 3) 0)⟩
theorem sh_BadText : SupShape s_BadText := ⟨⟨_, _, _, _, _, _, _, _, _, _, _, _, rfl, rfl, rfl, rfl⟩, by decide, by decide, by decide, by decide, PySem.SupX.bd_line⟩
def fa : List He.Fa := (([.glo "_law_draw", .glo "_law_some", .glo "_law_bent", .glo "_law_deep", .glo "_law_bent_run", .glo "_law_hand", .glo "_law_is", .glo "_law_is_deed", .glo "_law_number", .glo "_law_numbers", .glo "_law_read_run", .glo "_law_run_drawn", .glo "_law_run_text", .glo "is_integer", .glo "is_deed", .glo "lines_of", .glo "number_of", .glo "read_run", .glo "_law_told", .glo "is_run", .glo "run_text", .glo "_law_written", .glo "law", .glo "CopyError", .glo "NoRun"] : List He.Fa) ++ ([.glo "BadText", .free "isinstance", .free "len", .free "abs", .free "all", .free "int", .free "str", .free "bool", .free "tuple", .free "list", .free "dict", .free "range", .free "enumerate", .free "ValueError", .free "super", .str "FIGURES" "0123456789", .int "MOST_FIGURES" 9, .exc "NoRun"] : List He.Fa))
def fn : List He.DefD := (([d__law_draw, d__law_some, d__law_bent, d__law_deep, d__law_bent_run, d__law_hand, d__law_is, d__law_is_deed, d__law_number, d__law_numbers, d__law_read_run, d__law_run_drawn, d__law_run_text, d_is_integer, d_is_deed, d_lines_of, d_number_of, d_read_run, d__law_told, d_is_run, d_run_text, d__law_written, d_law] : List He.DefD))
def TT : Tab := ⟨([] : List Str), ([] : List (Str × Str)), ((["NoRun", "BadText"] : List Str)), (([("BadText", "line")] : List (Str × Str))), (([(.inr "NoRun", .inr "BadText", false), (.inr "NoRun", .inr "NoRun", true), (.inr "NoRun", .inl "ValueError", true), (.inr "BadText", .inr "BadText", true), (.inr "BadText", .inr "NoRun", false), (.inr "BadText", .inl "ValueError", true)] : List (CT × CT × Bool))), (([("NoRun", .inr "CopyError", true), ("BadText", .inr "CopyError", true)] : List (Str × CT × Bool)))⟩
def hd : Hd := ⟨(PySem.Challenge.rw_threecopies_k53_whole_texts_of_runs).prog, 7, fa, ([] : List (Str × List Str)), TT, fn, (([s_BadText] : List SupD))⟩
def nms : List Str := ((["CopyError", "NoRun", "BadText", "is_integer", "is_deed", "is_run", "FIGURES", "MOST_FIGURES", "run_text", "lines_of", "number_of", "read_run", "_law_hand", "_law_draw", "_law_some", "_law_is", "_law_deep", "_law_is_deed", "_law_run_drawn", "_law_run_text", "_law_number", "_law_numbers", "_law_read_run", "_law_told", "_law_written"] : List Str) ++ (["_law_bent", "_law_bent_run"] : List Str))
abbrev R : PySem.W.OpenRow := PySem.W.OpenLaw.row PySem.Challenge.rw_threecopies_k53_whole_texts_of_runs
theorem run (w : World) : HandSHeadRun.RunEq R (PySem.W.view R.prog [32]) hd.hook hd.ob 4000 nms w := by
  intro os
  kernel_rfl

end K53
end M3
end L2

set_option Elab.async false
set_option linter.all false
set_option maxRecDepth 100000
set_option maxHeartbeats 0
namespace L2
namespace M3
namespace K53
open PySem PySem.Spec PyProof.Rows

section
variable {K : PySem.W.Frag} {mg : Str → Option Value} {h : Heap} {w : World} {base : Heap} {P : Program}

abbrev FX (hC : hd.says K) : CF K := Tab.cf (t := TT) (Hd.tok hC)
theorem g__law_draw (hP : P = hd.P) (hC : hd.says K) (hX : K.In h) (hG : h.Ns mainGlobals mg) : mg "_law_draw" = some (.ref (He.ga K "_law_draw")) := He.glo_ok hX hG (Hd.fact hC 0 (f := .glo "_law_draw") rfl)
theorem g__law_some (hP : P = hd.P) (hC : hd.says K) (hX : K.In h) (hG : h.Ns mainGlobals mg) : mg "_law_some" = some (.ref (He.ga K "_law_some")) := He.glo_ok hX hG (Hd.fact hC 1 (f := .glo "_law_some") rfl)
theorem g__law_bent (hP : P = hd.P) (hC : hd.says K) (hX : K.In h) (hG : h.Ns mainGlobals mg) : mg "_law_bent" = some (.ref (He.ga K "_law_bent")) := He.glo_ok hX hG (Hd.fact hC 2 (f := .glo "_law_bent") rfl)
theorem g__law_deep (hP : P = hd.P) (hC : hd.says K) (hX : K.In h) (hG : h.Ns mainGlobals mg) : mg "_law_deep" = some (.ref (He.ga K "_law_deep")) := He.glo_ok hX hG (Hd.fact hC 3 (f := .glo "_law_deep") rfl)
theorem g__law_bent_run (hP : P = hd.P) (hC : hd.says K) (hX : K.In h) (hG : h.Ns mainGlobals mg) : mg "_law_bent_run" = some (.ref (He.ga K "_law_bent_run")) := He.glo_ok hX hG (Hd.fact hC 4 (f := .glo "_law_bent_run") rfl)
theorem g__law_hand (hP : P = hd.P) (hC : hd.says K) (hX : K.In h) (hG : h.Ns mainGlobals mg) : mg "_law_hand" = some (.ref (He.ga K "_law_hand")) := He.glo_ok hX hG (Hd.fact hC 5 (f := .glo "_law_hand") rfl)
theorem g__law_is (hP : P = hd.P) (hC : hd.says K) (hX : K.In h) (hG : h.Ns mainGlobals mg) : mg "_law_is" = some (.ref (He.ga K "_law_is")) := He.glo_ok hX hG (Hd.fact hC 6 (f := .glo "_law_is") rfl)
theorem g__law_is_deed (hP : P = hd.P) (hC : hd.says K) (hX : K.In h) (hG : h.Ns mainGlobals mg) : mg "_law_is_deed" = some (.ref (He.ga K "_law_is_deed")) := He.glo_ok hX hG (Hd.fact hC 7 (f := .glo "_law_is_deed") rfl)
theorem g__law_number (hP : P = hd.P) (hC : hd.says K) (hX : K.In h) (hG : h.Ns mainGlobals mg) : mg "_law_number" = some (.ref (He.ga K "_law_number")) := He.glo_ok hX hG (Hd.fact hC 8 (f := .glo "_law_number") rfl)
theorem g__law_numbers (hP : P = hd.P) (hC : hd.says K) (hX : K.In h) (hG : h.Ns mainGlobals mg) : mg "_law_numbers" = some (.ref (He.ga K "_law_numbers")) := He.glo_ok hX hG (Hd.fact hC 9 (f := .glo "_law_numbers") rfl)
theorem g__law_read_run (hP : P = hd.P) (hC : hd.says K) (hX : K.In h) (hG : h.Ns mainGlobals mg) : mg "_law_read_run" = some (.ref (He.ga K "_law_read_run")) := He.glo_ok hX hG (Hd.fact hC 10 (f := .glo "_law_read_run") rfl)
theorem g__law_run_drawn (hP : P = hd.P) (hC : hd.says K) (hX : K.In h) (hG : h.Ns mainGlobals mg) : mg "_law_run_drawn" = some (.ref (He.ga K "_law_run_drawn")) := He.glo_ok hX hG (Hd.fact hC 11 (f := .glo "_law_run_drawn") rfl)
theorem g__law_run_text (hP : P = hd.P) (hC : hd.says K) (hX : K.In h) (hG : h.Ns mainGlobals mg) : mg "_law_run_text" = some (.ref (He.ga K "_law_run_text")) := He.glo_ok hX hG (Hd.fact hC 12 (f := .glo "_law_run_text") rfl)
theorem g_is_integer (hP : P = hd.P) (hC : hd.says K) (hX : K.In h) (hG : h.Ns mainGlobals mg) : mg "is_integer" = some (.ref (He.ga K "is_integer")) := He.glo_ok hX hG (Hd.fact hC 13 (f := .glo "is_integer") rfl)
theorem g_is_deed (hP : P = hd.P) (hC : hd.says K) (hX : K.In h) (hG : h.Ns mainGlobals mg) : mg "is_deed" = some (.ref (He.ga K "is_deed")) := He.glo_ok hX hG (Hd.fact hC 14 (f := .glo "is_deed") rfl)
theorem g_lines_of (hP : P = hd.P) (hC : hd.says K) (hX : K.In h) (hG : h.Ns mainGlobals mg) : mg "lines_of" = some (.ref (He.ga K "lines_of")) := He.glo_ok hX hG (Hd.fact hC 15 (f := .glo "lines_of") rfl)
theorem g_number_of (hP : P = hd.P) (hC : hd.says K) (hX : K.In h) (hG : h.Ns mainGlobals mg) : mg "number_of" = some (.ref (He.ga K "number_of")) := He.glo_ok hX hG (Hd.fact hC 16 (f := .glo "number_of") rfl)
theorem g_read_run (hP : P = hd.P) (hC : hd.says K) (hX : K.In h) (hG : h.Ns mainGlobals mg) : mg "read_run" = some (.ref (He.ga K "read_run")) := He.glo_ok hX hG (Hd.fact hC 17 (f := .glo "read_run") rfl)
theorem g__law_told (hP : P = hd.P) (hC : hd.says K) (hX : K.In h) (hG : h.Ns mainGlobals mg) : mg "_law_told" = some (.ref (He.ga K "_law_told")) := He.glo_ok hX hG (Hd.fact hC 18 (f := .glo "_law_told") rfl)
theorem g_is_run (hP : P = hd.P) (hC : hd.says K) (hX : K.In h) (hG : h.Ns mainGlobals mg) : mg "is_run" = some (.ref (He.ga K "is_run")) := He.glo_ok hX hG (Hd.fact hC 19 (f := .glo "is_run") rfl)
theorem g_run_text (hP : P = hd.P) (hC : hd.says K) (hX : K.In h) (hG : h.Ns mainGlobals mg) : mg "run_text" = some (.ref (He.ga K "run_text")) := He.glo_ok hX hG (Hd.fact hC 20 (f := .glo "run_text") rfl)
theorem g__law_written (hP : P = hd.P) (hC : hd.says K) (hX : K.In h) (hG : h.Ns mainGlobals mg) : mg "_law_written" = some (.ref (He.ga K "_law_written")) := He.glo_ok hX hG (Hd.fact hC 21 (f := .glo "_law_written") rfl)
theorem g_law (hP : P = hd.P) (hC : hd.says K) (hX : K.In h) (hG : h.Ns mainGlobals mg) : mg "law" = some (.ref (He.ga K "law")) := He.glo_ok hX hG (Hd.fact hC 22 (f := .glo "law") rfl)
theorem g_CopyError (hP : P = hd.P) (hC : hd.says K) (hX : K.In h) (hG : h.Ns mainGlobals mg) : mg "CopyError" = some (.ref (He.ga K "CopyError")) := He.glo_ok hX hG (Hd.fact hC 23 (f := .glo "CopyError") rfl)
theorem g_NoRun (hP : P = hd.P) (hC : hd.says K) (hX : K.In h) (hG : h.Ns mainGlobals mg) : mg "NoRun" = some (.ref (He.ga K "NoRun")) := He.glo_ok hX hG (Hd.fact hC 24 (f := .glo "NoRun") rfl)
theorem g_BadText (hP : P = hd.P) (hC : hd.says K) (hX : K.In h) (hG : h.Ns mainGlobals mg) : mg "BadText" = some (.ref (He.ga K "BadText")) := He.glo_ok hX hG (Hd.fact hC 25 (f := .glo "BadText") rfl)
theorem fr_isinstance (hP : P = hd.P) (hC : hd.says K) (hX : K.In h) (hG : h.Ns mainGlobals mg) : mg "isinstance" = none := He.free_ok hX hG (Hd.fact hC 26 (f := .free "isinstance") rfl)
theorem fr_len (hP : P = hd.P) (hC : hd.says K) (hX : K.In h) (hG : h.Ns mainGlobals mg) : mg "len" = none := He.free_ok hX hG (Hd.fact hC 27 (f := .free "len") rfl)
theorem fr_abs (hP : P = hd.P) (hC : hd.says K) (hX : K.In h) (hG : h.Ns mainGlobals mg) : mg "abs" = none := He.free_ok hX hG (Hd.fact hC 28 (f := .free "abs") rfl)
theorem fr_all (hP : P = hd.P) (hC : hd.says K) (hX : K.In h) (hG : h.Ns mainGlobals mg) : mg "all" = none := He.free_ok hX hG (Hd.fact hC 29 (f := .free "all") rfl)
theorem fr_int (hP : P = hd.P) (hC : hd.says K) (hX : K.In h) (hG : h.Ns mainGlobals mg) : mg "int" = none := He.free_ok hX hG (Hd.fact hC 30 (f := .free "int") rfl)
theorem fr_str (hP : P = hd.P) (hC : hd.says K) (hX : K.In h) (hG : h.Ns mainGlobals mg) : mg "str" = none := He.free_ok hX hG (Hd.fact hC 31 (f := .free "str") rfl)
theorem fr_bool (hP : P = hd.P) (hC : hd.says K) (hX : K.In h) (hG : h.Ns mainGlobals mg) : mg "bool" = none := He.free_ok hX hG (Hd.fact hC 32 (f := .free "bool") rfl)
theorem fr_tuple (hP : P = hd.P) (hC : hd.says K) (hX : K.In h) (hG : h.Ns mainGlobals mg) : mg "tuple" = none := He.free_ok hX hG (Hd.fact hC 33 (f := .free "tuple") rfl)
theorem fr_list (hP : P = hd.P) (hC : hd.says K) (hX : K.In h) (hG : h.Ns mainGlobals mg) : mg "list" = none := He.free_ok hX hG (Hd.fact hC 34 (f := .free "list") rfl)
theorem fr_dict (hP : P = hd.P) (hC : hd.says K) (hX : K.In h) (hG : h.Ns mainGlobals mg) : mg "dict" = none := He.free_ok hX hG (Hd.fact hC 35 (f := .free "dict") rfl)
theorem fr_range (hP : P = hd.P) (hC : hd.says K) (hX : K.In h) (hG : h.Ns mainGlobals mg) : mg "range" = none := He.free_ok hX hG (Hd.fact hC 36 (f := .free "range") rfl)
theorem fr_enumerate (hP : P = hd.P) (hC : hd.says K) (hX : K.In h) (hG : h.Ns mainGlobals mg) : mg "enumerate" = none := He.free_ok hX hG (Hd.fact hC 37 (f := .free "enumerate") rfl)
theorem fr_ValueError (hP : P = hd.P) (hC : hd.says K) (hX : K.In h) (hG : h.Ns mainGlobals mg) : mg "ValueError" = none := He.free_ok hX hG (Hd.fact hC 38 (f := .free "ValueError") rfl)
theorem fr_super (hP : P = hd.P) (hC : hd.says K) (hX : K.In h) (hG : h.Ns mainGlobals mg) : mg "super" = none := He.free_ok hX hG (Hd.fact hC 39 (f := .free "super") rfl)
theorem g_FIGURES (hP : P = hd.P) (hC : hd.says K) (hX : K.In h) (hG : h.Ns mainGlobals mg) : ∃ t, mg "FIGURES" = some (.str "0123456789" t) := He.str_ok hX hG (Hd.fact hC 40 (f := .str "FIGURES" "0123456789") rfl)
theorem g_MOST_FIGURES (hP : P = hd.P) (hC : hd.says K) (hX : K.In h) (hG : h.Ns mainGlobals mg) : ∃ t, mg "MOST_FIGURES" = some (.int 9 t) := He.int_ok hX hG (Hd.fact hC 41 (f := .int "MOST_FIGURES" 9) rfl)
theorem ex_NoRun (hC : hd.says K) : PySem.W.excIn K (He.ga K "NoRun") He.veBase "ValueError.__new__" = true ∧ PySem.W.keepIn K (.ref (He.ga K "NoRun")) = true ∧ PySem.W.subIn K (.ref (He.ga K "NoRun")) (.type "BaseException") = some true ∧ PySem.W.typeIn K (.ref (He.ga K "NoRun")) = some (.type "type") := He.exc_ok (K := K) (x := "NoRun") (Hd.fact hC 42 (f := .exc "NoRun") rfl)
theorem sup_BadText (hP : P = hd.P) (hC : hd.says K) (hX : K.In h) (hG : h.Ns mainGlobals mg) : PySem.SupX.SupTxt P K mg (He.ga K "BadText") (s_BadText.fI K) "line" := hP ▸ Hd.sup hC 0 (d := s_BadText) sh_BadText (fr_super hP hC hX hG) (by decide +kernel) rfl
theorem hk_CopyError (hC : hd.says K) : ∀ C, TT.emF (.inr "CopyError") C = some true → (FX hC).T.ec C = true := by
  intro C e
  have key : ∀ q ∈ TT.em, decide (q.2.1 = .inr "CopyError") = true → TT.ec.contains q.1 = true := by decide +kernel
  unfold Tab.emF at e
  cases q : TT.em.find? (fun p => decide (p.1 = C) && decide (p.2.1 = .inr "CopyError")) with
  | none => rw [q] at e; cases e
  | some p =>
    have hm := List.mem_of_find?_eq_some q
    have hp := List.find?_some q
    simp only [Bool.and_eq_true, decide_eq_true_eq] at hp
    obtain ⟨rfl, h2⟩ := hp
    exact key p hm (decide_eq_true h2)
theorem sc__law_draw : FnScope ["_law_hand_here", "_law_many", "_law_cell", "_law_digit", "_law_number_here"] ["_law_hand_here", "_law_many"] (defScope (top 18)) := ⟨rfl, rfl, rfl, by decide +kernel, rfl, by decide +kernel, by decide +kernel⟩
def b__law_draw : MS := (seqS (bndS (bnd (bnd (bnd (rd 0) fun x => bnd (ret (.int 2)) fun y => lo (ixD x y)) fun x => bnd (ret (.int 0)) fun y => bnd (lo (eqD2 x y)) fun d => lo (tb d)) fun k => if k = true then (bnd (bnd (rd 0) fun x => bnd (ret (.int 1)) fun y => lo (ixD x y)) fun x => bnd (bnd (bnd (bnd (rd 0) fun x => bnd (ret (.int 0)) fun y => lo (ixD x y)) fun d => bnd (ret []) fun ds => ret (d :: ds)) fun ds => lo (lenF ds)) fun y => bnd (lo (ltD x y)) fun d => lo (tb d)) else ret false) fun x => if x = true then (seqS (bndS (bnd (bnd (rd 0) fun x => bnd (ret (.int 0)) fun y => lo (ixD x y)) fun x => bnd (bnd (rd 0) fun x => bnd (ret (.int 1)) fun y => lo (ixD x y)) fun y => lo (ixD x y)) (setS 2))
  (seqS (bndS (bnd (bnd (rd 0) fun x => bnd (ret (.int 1)) fun y => lo (ixD x y)) fun x => bnd (ret (.int 1)) fun y => lo (addD x y)) fun v => bndS (rd 0) fun x => bndS (ret (.int 1)) fun y => setIx x y v)
  (seqS (bndS (bnd (bnd (bnd (bnd (bnd (bnd (bnd (rd 0) fun x => bnd (ret (.int 3)) fun y => lo (ixD x y)) fun x => bnd (ret (.int 69621)) fun y => lo (mulD x y)) fun x => bnd (rd 2) fun y => lo (addD x y)) fun x => bnd (ret (.int 11)) fun y => lo (addD x y)) fun d => bnd (ret []) fun ds => ret (d :: ds)) fun ds => lo (intF2 ds)) fun x => bnd (ret (.int 2147483629)) fun y => lo (modD x y)) fun v => bndS (rd 0) fun x => bndS (ret (.int 3)) fun y => setIx x y v)
  (bndS (bnd (rd 2) fun x => bnd (bnd (ret (.int 10)) fun x => bnd (ret (.int 18)) fun y => lo (powD x y)) fun y => bnd (lo (geD x y)) fun d => lo (tb d)) fun x => if x = true then (bndS (rd 2) fun v => bndS (rd 0) fun x => bndS (ret (.int 2)) fun y => setIx x y v) else nxtS)))) else nxtS)
  (seqS (bndS (bnd (bnd (rd 0) fun x => bnd (ret (.int 2)) fun y => lo (ixD x y)) fun x => bnd (ret (.int 0)) fun y => bnd (lo (gtD x y)) fun d => lo (tb d)) fun x => if x = true then (seqS (bndS (bnd (bnd (bnd (bnd (rd 0) fun x => bnd (ret (.int 2)) fun y => lo (ixD x y)) fun d => bnd (ret []) fun ds => ret (d :: ds)) fun ds => lo (intF2 ds)) fun x => bnd (rd 1) fun y => lo (modD x y)) (setS 3))
  (seqS (bndS (bnd (bnd (rd 0) fun x => bnd (ret (.int 2)) fun y => lo (ixD x y)) fun x => bnd (rd 1) fun y => lo (fdivD x y)) fun v => bndS (rd 0) fun x => bndS (ret (.int 2)) fun y => setIx x y v)
  (bndS (rd 3) retS))) else nxtS)
  (seqS (bndS (bnd (bnd (rd 0) fun x => bnd (ret (.int 4)) fun y => lo (ixD x y)) fun x => bnd (ret (.int 1)) fun y => lo (addD x y)) fun v => bndS (rd 0) fun x => bndS (ret (.int 4)) fun y => setIx x y v)
  (seqS (bndS (bnd (bnd (bnd (bnd (bnd (bnd (bnd (bnd (rd 0) fun x => bnd (ret (.int 3)) fun y => lo (ixD x y)) fun x => bnd (bnd (ret (.int 7919)) fun x => bnd (bnd (rd 0) fun x => bnd (ret (.int 4)) fun y => lo (ixD x y)) fun y => lo (mulD x y)) fun y => lo (addD x y)) fun d => bnd (ret []) fun ds => ret (d :: ds)) fun ds => lo (intF2 ds)) fun x => bnd (ret (.int 48271)) fun y => lo (mulD x y)) fun d => bnd (ret []) fun ds => ret (d :: ds)) fun ds => lo (intF2 ds)) fun x => bnd (ret (.int 2147483647)) fun y => lo (modD x y)) (setS 4))
  (seqS (bndS (bnd (bnd (bnd (bnd (rd 4) fun x => bnd (bnd (bnd (rd 4) fun x => bnd (ret (.int 1009)) fun y => lo (fdivD x y)) fun x => bnd (ret (.int 69621)) fun y => lo (addD x y)) fun y => lo (mulD x y)) fun d => bnd (ret []) fun ds => ret (d :: ds)) fun ds => lo (intF2 ds)) fun x => bnd (ret (.int 2147483647)) fun y => lo (modD x y)) (setS 4))
  (seqS (bndS (bnd (bnd (bnd (bnd (rd 4) fun x => bnd (bnd (bnd (rd 4) fun x => bnd (ret (.int 2003)) fun y => lo (fdivD x y)) fun x => bnd (ret (.int 40692)) fun y => lo (addD x y)) fun y => lo (mulD x y)) fun d => bnd (ret []) fun ds => ret (d :: ds)) fun ds => lo (intF2 ds)) fun x => bnd (ret (.int 2147483399)) fun y => lo (modD x y)) (setS 4))
  (bndS (bnd (bnd (bnd (bnd (rd 4) fun x => bnd (ret (.int 16)) fun y => lo (fdivD x y)) fun d => bnd (ret []) fun ds => ret (d :: ds)) fun ds => lo (intF2 ds)) fun x => bnd (rd 1) fun y => lo (modD x y)) retS)))))))
def f__law_draw : FM := (runF 5 b__law_draw)
theorem ok__law_draw (hP : P = hd.P) (hC : hd.says K) (hX : K.In h) (hG : h.Ns mainGlobals mg) : OkF P w K mg base 1 (He.ga K "_law_draw") ["_law_hand_here", "_law_many"] f__law_draw := okF_of (N := ["_law_hand_here", "_law_many", "_law_cell", "_law_digit", "_law_number_here"]) (ps := ["_law_hand_here", "_law_many"]) (k := 0) (b := b__law_draw) (Hd.def_ hC 0 (d := d__law_draw) rfl) sc__law_draw (fun fd F => FunD.bindsA F fun _ _ _ _ _ _ us hl => match us, hl with | [_, _], _ => rfl) fun cdv A outer s H E hr =>
  (mss_cons (by exact (ms_if (by exact (mt_w (mw_and (by exact (mt_cmp (opEq2 (by exact hr.units)) (by exact (me_ix ixOk (by exact (me_rd (pv 0))) me_int (by intro _ _; rfl))) me_int (nomark _))) (mw_and1 (by exact (mt_cmp opLt (by exact (me_ix ixOk (by exact (me_rd (pv 0))) me_int (by intro _ _; rfl))) (by exact (me_callB bLen (by rfl) (fr_len hP hC hX hG) (by decide +kernel) (by exact ma_cons (by exact (me_ix ixOk (by exact (me_rd (pv 0))) me_int (by intro _ _; rfl))) ma_nil))) (nomark _))))))) (mss_cons (by exact (ms_set (i := 2) (by exact sc__law_draw.nd) (by rfl) (by first | exact .inl rfl | exact .inr rfl) (by exact (me_ix ixOk (by exact (me_ix ixOk (by exact (me_rd (pv 0))) me_int (by intro _ _; rfl))) (by exact (me_ix ixOk (by exact (me_rd (pv 0))) me_int (by intro _ _; rfl))) (by intro _ _; rfl)))))
  (mss_cons (by exact (ms_setix (by exact (me_bin opAdd (by exact (me_ix ixOk (by exact (me_rd (pv 0))) me_int (by intro _ _; rfl))) me_int)) (by exact (me_rd (pv 0))) me_int))
  (mss_cons (by exact (ms_setix (by exact (me_bin opMod (by exact (me_callTy bInt2 (by rfl) (fr_int hP hC hX hG) (by decide +kernel) (by exact ma_cons (by exact (me_bin opAdd (by exact (me_bin opAdd (by exact (me_bin opMul (by exact (me_ix ixOk (by exact (me_rd (pv 0))) me_int (by intro _ _; rfl))) me_int)) (by exact (me_rd (pv 2))))) me_int)) ma_nil))) me_int)) (by exact (me_rd (pv 0))) me_int))
  (mss_one (by exact (ms_if (by exact (mt_cmp opGe (by exact (me_rd (pv 2))) (by exact (me_bin opPow me_int me_int)) (nomark _))) (mss_one (by exact (ms_setix (by exact (me_rd (pv 2))) (by exact (me_rd (pv 0))) me_int))) mss_nil)))))) mss_nil))
  (mss_cons (by exact (ms_if (by exact (mt_cmp opGt (by exact (me_ix ixOk (by exact (me_rd (pv 0))) me_int (by intro _ _; rfl))) me_int (nomark _))) (mss_cons (by exact (ms_set (i := 3) (by exact sc__law_draw.nd) (by rfl) (by first | exact .inl rfl | exact .inr rfl) (by exact (me_bin opMod (by exact (me_callTy bInt2 (by rfl) (fr_int hP hC hX hG) (by decide +kernel) (by exact ma_cons (by exact (me_ix ixOk (by exact (me_rd (pv 0))) me_int (by intro _ _; rfl))) ma_nil))) (by exact (me_rd (pv 1)))))))
  (mss_cons (by exact (ms_setix (by exact (me_bin opFdiv (by exact (me_ix ixOk (by exact (me_rd (pv 0))) me_int (by intro _ _; rfl))) (by exact (me_rd (pv 1))))) (by exact (me_rd (pv 0))) me_int))
  (mss_one (by exact (ms_ret (by exact (me_rd (pv 3)))))))) mss_nil))
  (mss_cons (by exact (ms_setix (by exact (me_bin opAdd (by exact (me_ix ixOk (by exact (me_rd (pv 0))) me_int (by intro _ _; rfl))) me_int)) (by exact (me_rd (pv 0))) me_int))
  (mss_cons (by exact (ms_set (i := 4) (by exact sc__law_draw.nd) (by rfl) (by first | exact .inl rfl | exact .inr rfl) (by exact (me_bin opMod (by exact (me_callTy bInt2 (by rfl) (fr_int hP hC hX hG) (by decide +kernel) (by exact ma_cons (by exact (me_bin opMul (by exact (me_callTy bInt2 (by rfl) (fr_int hP hC hX hG) (by decide +kernel) (by exact ma_cons (by exact (me_bin opAdd (by exact (me_ix ixOk (by exact (me_rd (pv 0))) me_int (by intro _ _; rfl))) (by exact (me_bin opMul me_int (by exact (me_ix ixOk (by exact (me_rd (pv 0))) me_int (by intro _ _; rfl))))))) ma_nil))) me_int)) ma_nil))) me_int))))
  (mss_cons (by exact (ms_set (i := 4) (by exact sc__law_draw.nd) (by rfl) (by first | exact .inl rfl | exact .inr rfl) (by exact (me_bin opMod (by exact (me_callTy bInt2 (by rfl) (fr_int hP hC hX hG) (by decide +kernel) (by exact ma_cons (by exact (me_bin opMul (by exact (me_rd (pv 4))) (by exact (me_bin opAdd (by exact (me_bin opFdiv (by exact (me_rd (pv 4))) me_int)) me_int)))) ma_nil))) me_int))))
  (mss_cons (by exact (ms_set (i := 4) (by exact sc__law_draw.nd) (by rfl) (by first | exact .inl rfl | exact .inr rfl) (by exact (me_bin opMod (by exact (me_callTy bInt2 (by rfl) (fr_int hP hC hX hG) (by decide +kernel) (by exact ma_cons (by exact (me_bin opMul (by exact (me_rd (pv 4))) (by exact (me_bin opAdd (by exact (me_bin opFdiv (by exact (me_rd (pv 4))) me_int)) me_int)))) ma_nil))) me_int))))
  (mss_one (by exact (ms_ret (by exact (me_bin opMod (by exact (me_callTy bInt2 (by rfl) (fr_int hP hC hX hG) (by decide +kernel) (by exact ma_cons (by exact (me_bin opFdiv (by exact (me_rd (pv 4))) me_int)) ma_nil))) (by exact (me_rd (pv 1))))))))))))))
theorem sc__law_some : FnScope ["_law_hand_here", "_law_things"] ["_law_hand_here", "_law_things"] (defScope (top 19)) := ⟨rfl, rfl, rfl, by decide +kernel, rfl, by decide +kernel, by decide +kernel⟩
def b__law_some : MS := (bndS (bnd (rd 1) fun x => bnd (bnd (bnd (rd 0) fun d => bnd (bnd (bnd (bnd (rd 1) fun d => bnd (ret []) fun ds => ret (d :: ds)) fun ds => lo (lenF ds)) fun d => bnd (ret []) fun ds => ret (d :: ds)) fun ds => ret (d :: ds)) (callM 2 f__law_draw)) fun y => lo (ixD x y)) retS)
def f__law_some : FM := (runF 2 b__law_some)
theorem ok__law_some (hP : P = hd.P) (hC : hd.says K) (hX : K.In h) (hG : h.Ns mainGlobals mg) : OkF P w K mg base 2 (He.ga K "_law_some") ["_law_hand_here", "_law_things"] f__law_some := okF_of (N := ["_law_hand_here", "_law_things"]) (ps := ["_law_hand_here", "_law_things"]) (k := 1) (b := b__law_some) (Hd.def_ hC 1 (d := d__law_some) rfl) sc__law_some (fun fd F => FunD.bindsA F fun _ _ _ _ _ _ us hl => match us, hl with | [_, _], _ => rfl) fun cdv A outer s H E hr =>
  (mss_one (by exact (ms_ret (by exact (me_ix ixOk (by exact (me_rd (pv 1))) (by exact (mcl  (ok__law_draw hP hC hX hG) hr (by rfl) (g__law_draw hP hC hX hG) (by exact tkD) (by exact ma_cons (by exact (me_rd (pv 0))) (by exact ma_cons (by exact (me_callB bLen (by rfl) (fr_len hP hC hX hG) (by decide +kernel) (by exact ma_cons (by exact (me_rd (pv 1))) ma_nil))) ma_nil)))) (by intro _ _; rfl))))))
theorem sc__law_bent : FnScope ["_law_hand_here", "_law_text", "_law_at", "_law_line", "_law_lines", "_law_sign", "_law_things"] ["_law_hand_here", "_law_text"] (defScope (top 30)) := ⟨rfl, rfl, rfl, by decide +kernel, rfl, by decide +kernel, by decide +kernel⟩
def b__law_bent : MS := (seqS (bndS (bnd (bnd (rd 0) fun d => bnd (bnd (bnd (bnd (bnd (rd 1) fun d => bnd (ret []) fun ds => ret (d :: ds)) fun ds => lo (lenF ds)) fun x => bnd (ret (.int 1)) fun y => lo (addD x y)) fun d => bnd (ret []) fun ds => ret (d :: ds)) fun ds => ret (d :: ds)) (callM 2 f__law_draw)) (setS 2))
  (seqS (bndS (bnd (bnd (rd 0) fun d => bnd (bnd (bnd (bnd (ret (.str "0")) fun d => bnd (bnd (ret (.str "1")) fun d => bnd (bnd (ret (.str " ")) fun d => bnd (bnd (ret (.str "\n")) fun d => bnd (bnd (ret (.str "x")) fun d => bnd (bnd (ret (.str "-")) fun d => bnd (bnd (ret (.str "\nfork 0")) fun d => bnd (bnd (ret (.str " 2")) fun d => bnd (bnd (ret (.str "join 1 1")) fun d => bnd (bnd (ret (.str "\t")) fun d => bnd (ret []) fun ds => ret (d :: ds)) fun ds => ret (d :: ds)) fun ds => ret (d :: ds)) fun ds => ret (d :: ds)) fun ds => ret (d :: ds)) fun ds => ret (d :: ds)) fun ds => ret (d :: ds)) fun ds => ret (d :: ds)) fun ds => ret (d :: ds)) fun ds => ret (d :: ds)) fun ds => lo (mkL ds)) fun d => bnd (ret []) fun ds => ret (d :: ds)) fun ds => ret (d :: ds)) (callM 2 f__law_some)) (setS 5))
  (seqS (bndS (bnd (rd 1) fun x => chk (tyOk "str" x) (bnd (bnd (ret (.str "\n")) fun d => bnd (ret []) fun ds => ret (d :: ds)) fun ds => lof (splitF x ds))) (setS 4))
  (seqS (bndS (bnd (bnd (rd 0) fun d => bnd (bnd (bnd (bnd (rd 4) fun d => bnd (ret []) fun ds => ret (d :: ds)) fun ds => lo (lenF ds)) fun d => bnd (ret []) fun ds => ret (d :: ds)) fun ds => ret (d :: ds)) (callM 2 f__law_draw)) (setS 3))
  (seqS (bndS (bnd (bnd (bnd (bnd (bnd (bnd (rd 1) fun x => bnd (ret none) fun l => bnd (bnd (rd 2) fun d => lo (toI d)) fun u => lo (slD x l u)) fun x => bnd (rd 5) fun y => lo (addD x y)) fun x => bnd (bnd (rd 1) fun x => bnd (bnd (rd 2) fun d => lo (toI d)) fun l => bnd (ret none) fun u => lo (slD x l u)) fun y => lo (addD x y)) fun d => bnd (bnd (bnd (bnd (rd 1) fun x => bnd (ret none) fun l => bnd (bnd (rd 2) fun d => lo (toI d)) fun u => lo (slD x l u)) fun x => bnd (bnd (rd 1) fun x => bnd (bnd (bnd (rd 2) fun x => bnd (ret (.int 1)) fun y => lo (addD x y)) fun d => lo (toI d)) fun l => bnd (ret none) fun u => lo (slD x l u)) fun y => lo (addD x y)) fun d => bnd (bnd (bnd (bnd (bnd (rd 1) fun x => bnd (ret none) fun l => bnd (bnd (rd 2) fun d => lo (toI d)) fun u => lo (slD x l u)) fun x => bnd (rd 5) fun y => lo (addD x y)) fun x => bnd (bnd (rd 1) fun x => bnd (bnd (bnd (rd 2) fun x => bnd (ret (.int 1)) fun y => lo (addD x y)) fun d => lo (toI d)) fun l => bnd (ret none) fun u => lo (slD x l u)) fun y => lo (addD x y)) fun d => bnd (ret []) fun ds => ret (d :: ds)) fun ds => ret (d :: ds)) fun ds => ret (d :: ds)) fun ds => lo (mkL ds)) fun x => bnd (ret (.int 2)) fun y => lof (mulLN x y)) (setS 6))
  (seqS (bndS (bnd (rd 6) fun x => chk (tyOk "list" x) (bnd (bnd (bnd (ret (.str "\n")) fun x => chk (tyOk "str" x) (bnd (bnd (bnd (bnd (rd 4) fun x => bnd (ret none) fun l => bnd (bnd (rd 3) fun d => lo (toI d)) fun u => lo (slD x l u)) fun x => bnd (bnd (rd 4) fun x => bnd (bnd (bnd (rd 3) fun x => bnd (ret (.int 1)) fun y => lo (addD x y)) fun d => lo (toI d)) fun l => bnd (ret none) fun u => lo (slD x l u)) fun y => lo (addD x y)) fun d => bnd (ret []) fun ds => ret (d :: ds)) fun ds => lof (joinF x ds))) fun d => bnd (ret []) fun ds => ret (d :: ds)) fun ds => lof (appendF x ds))) fun _ => nxtS)
  (seqS (bndS (bnd (rd 6) fun x => chk (tyOk "list" x) (bnd (bnd (bnd (ret (.str "\n")) fun x => chk (tyOk "str" x) (bnd (bnd (bnd (bnd (bnd (rd 4) fun x => bnd (ret none) fun l => bnd (bnd (rd 3) fun d => lo (toI d)) fun u => lo (slD x l u)) fun x => bnd (bnd (rd 4) fun x => bnd (bnd (rd 3) fun d => lo (toI d)) fun l => bnd (bnd (bnd (rd 3) fun x => bnd (ret (.int 1)) fun y => lo (addD x y)) fun d => lo (toI d)) fun u => lo (slD x l u)) fun y => lo (addD x y)) fun x => bnd (bnd (rd 4) fun x => bnd (bnd (rd 3) fun d => lo (toI d)) fun l => bnd (ret none) fun u => lo (slD x l u)) fun y => lo (addD x y)) fun d => bnd (ret []) fun ds => ret (d :: ds)) fun ds => lof (joinF x ds))) fun d => bnd (ret []) fun ds => ret (d :: ds)) fun ds => lof (appendF x ds))) fun _ => nxtS)
  (bndS (bnd (bnd (rd 0) fun d => bnd (bnd (bnd (rd 6) fun x => bnd (bnd (bnd (bnd (rd 1) fun x => bnd (rd 5) fun y => lo (addD x y)) fun d => bnd (bnd (bnd (rd 1) fun x => bnd (ret none) fun l => bnd (bnd (rd 2) fun d => lo (toI d)) fun u => lo (slD x l u)) fun d => bnd (bnd (bnd (ret (.str "\n")) fun x => chk (tyOk "str" x) (bnd (bnd (bnd (rd 4) fun x => lo (revD x)) fun d => bnd (ret []) fun ds => ret (d :: ds)) fun ds => lof (joinF x ds))) fun d => bnd (bnd (bnd (rd 1) fun x => bnd (ret (.str "\n")) fun y => lo (addD x y)) fun d => bnd (ret []) fun ds => ret (d :: ds)) fun ds => ret (d :: ds)) fun ds => ret (d :: ds)) fun ds => ret (d :: ds)) fun ds => lo (mkL ds)) fun y => lo (addD x y)) fun d => bnd (ret []) fun ds => ret (d :: ds)) fun ds => ret (d :: ds)) (callM 2 f__law_some)) retS))))))))
def f__law_bent : FM := trim 1 (runF 7 b__law_bent)
theorem ok__law_bent (hP : P = hd.P) (hC : hd.says K) (hX : K.In h) (hG : h.Ns mainGlobals mg) : OkF P w K mg base 3 (He.ga K "_law_bent") ["_law_hand_here", "_law_text"] f__law_bent := OkF.trim 1 <| okF_of (N := ["_law_hand_here", "_law_text", "_law_at", "_law_line", "_law_lines", "_law_sign", "_law_things"]) (ps := ["_law_hand_here", "_law_text"]) (k := 2) (b := b__law_bent) (Hd.def_ hC 2 (d := d__law_bent) rfl) sc__law_bent (fun fd F => FunD.bindsA F fun _ _ _ _ _ _ us hl => match us, hl with | [_, _], _ => rfl) fun cdv A outer s H E hr =>
  (mss_cons (by exact (ms_set (i := 2) (by exact sc__law_bent.nd) (by rfl) (by first | exact .inl rfl | exact .inr rfl) (by exact (mcl  (ok__law_draw hP hC hX hG) hr (by rfl) (g__law_draw hP hC hX hG) (by exact tkD) (by exact ma_cons (by exact (me_rd (pv 0))) (by exact ma_cons (by exact (me_bin opAdd (by exact (me_callB bLen (by rfl) (fr_len hP hC hX hG) (by decide +kernel) (by exact ma_cons (by exact (me_rd (pv 1))) ma_nil))) me_int)) ma_nil))))))
  (mss_cons (by exact (ms_set (i := 5) (by exact sc__law_bent.nd) (by rfl) (by first | exact .inl rfl | exact .inr rfl) (by exact (mcl  (ok__law_some hP hC hX hG) hr (by rfl) (g__law_some hP hC hX hG) (by exact tkD) (by exact ma_cons (by exact (me_rd (pv 0))) (by exact ma_cons (by exact (me_tl (by exact ma_cons me_str (by exact ma_cons me_str (by exact ma_cons me_str (by exact ma_cons me_str (by exact ma_cons me_str (by exact ma_cons me_str (by exact ma_cons me_str (by exact ma_cons me_str (by exact ma_cons me_str (by exact ma_cons me_str ma_nil)))))))))))) ma_nil))))))
  (mss_cons (by exact (ms_set (i := 4) (by exact sc__law_bent.nd) (by rfl) (by first | exact .inl rfl | exact .inr rfl) (by exact (me_bm PySem.F.plainAttrs_str PySem.F.slot_str_split PySem.F.type_str_split mSplit (by exact (me_rd (pv 1))) (by exact ma_cons me_str ma_nil)))))
  (mss_cons (by exact (ms_set (i := 3) (by exact sc__law_bent.nd) (by rfl) (by first | exact .inl rfl | exact .inr rfl) (by exact (mcl  (ok__law_draw hP hC hX hG) hr (by rfl) (g__law_draw hP hC hX hG) (by exact tkD) (by exact ma_cons (by exact (me_rd (pv 0))) (by exact ma_cons (by exact (me_callB bLen (by rfl) (fr_len hP hC hX hG) (by decide +kernel) (by exact ma_cons (by exact (me_rd (pv 4))) ma_nil))) ma_nil))))))
  (mss_cons (by exact (ms_set (i := 6) (by exact sc__law_bent.nd) (by rfl) (by first | exact .inl rfl | exact .inr rfl) (by exact (me_binN opMulN (by exact (me_tl (by exact ma_cons (by exact (me_bin opAdd (by exact (me_bin opAdd (by exact (me_slice (by exact (me_rd (pv 1))) mo_none (mo_some (by exact (me_rd (pv 2)))))) (by exact (me_rd (pv 5))))) (by exact (me_slice (by exact (me_rd (pv 1))) (mo_some (by exact (me_rd (pv 2)))) mo_none)))) (by exact ma_cons (by exact (me_bin opAdd (by exact (me_slice (by exact (me_rd (pv 1))) mo_none (mo_some (by exact (me_rd (pv 2)))))) (by exact (me_slice (by exact (me_rd (pv 1))) (mo_some (by exact (me_bin opAdd (by exact (me_rd (pv 2))) me_int))) mo_none)))) (by exact ma_cons (by exact (me_bin opAdd (by exact (me_bin opAdd (by exact (me_slice (by exact (me_rd (pv 1))) mo_none (mo_some (by exact (me_rd (pv 2)))))) (by exact (me_rd (pv 5))))) (by exact (me_slice (by exact (me_rd (pv 1))) (mo_some (by exact (me_bin opAdd (by exact (me_rd (pv 2))) me_int))) mo_none)))) ma_nil))))) me_int))))
  (mss_cons (by exact (ms_expr (by exact (me_bm PySem.F.plainAttrs_list PySem.F.slot_list_append PySem.F.type_list_append mAppend (by exact (me_rd (pv 6))) (by exact ma_cons (by exact (me_bm PySem.F.plainAttrs_str PySem.F.slot_str_join PySem.F.type_str_join mJoin me_str (by exact ma_cons (by exact (me_bin opAdd (by exact (me_slice (by exact (me_rd (pv 4))) mo_none (mo_some (by exact (me_rd (pv 3)))))) (by exact (me_slice (by exact (me_rd (pv 4))) (mo_some (by exact (me_bin opAdd (by exact (me_rd (pv 3))) me_int))) mo_none)))) ma_nil))) ma_nil)))))
  (mss_cons (by exact (ms_expr (by exact (me_bm PySem.F.plainAttrs_list PySem.F.slot_list_append PySem.F.type_list_append mAppend (by exact (me_rd (pv 6))) (by exact ma_cons (by exact (me_bm PySem.F.plainAttrs_str PySem.F.slot_str_join PySem.F.type_str_join mJoin me_str (by exact ma_cons (by exact (me_bin opAdd (by exact (me_bin opAdd (by exact (me_slice (by exact (me_rd (pv 4))) mo_none (mo_some (by exact (me_rd (pv 3)))))) (by exact (me_slice (by exact (me_rd (pv 4))) (mo_some (by exact (me_rd (pv 3)))) (mo_some (by exact (me_bin opAdd (by exact (me_rd (pv 3))) me_int))))))) (by exact (me_slice (by exact (me_rd (pv 4))) (mo_some (by exact (me_rd (pv 3)))) mo_none)))) ma_nil))) ma_nil)))))
  (mss_one (by exact (ms_ret (by exact (mcl  (ok__law_some hP hC hX hG) hr (by rfl) (g__law_some hP hC hX hG) (by exact tkD) (by exact ma_cons (by exact (me_rd (pv 0))) (by exact ma_cons (by exact (me_bin opAdd (by exact (me_rd (pv 6))) (by exact (me_tl (by exact ma_cons (by exact (me_bin opAdd (by exact (me_rd (pv 1))) (by exact (me_rd (pv 5))))) (by exact ma_cons (by exact (me_slice (by exact (me_rd (pv 1))) mo_none (mo_some (by exact (me_rd (pv 2)))))) (by exact ma_cons (by exact (me_bm PySem.F.plainAttrs_str PySem.F.slot_str_join PySem.F.type_str_join mJoin me_str (by exact ma_cons (by exact (me_rev (by exact (me_rd (pv 4))))) ma_nil))) (by exact ma_cons (by exact (me_bin opAdd (by exact (me_rd (pv 1))) me_str)) ma_nil)))))))) ma_nil))))))))))))))
theorem sc__law_deep : FnScope ["_law_kind", "_law_found", "_law_turn"] ["_law_kind"] (defScope (top 21)) := ⟨rfl, rfl, rfl, by decide +kernel, rfl, by decide +kernel, by decide +kernel⟩
def b__law_deep : MS := (seqS (bndS (ret .non) (setS 1))
  (seqS (bndS (bnd (bnd (ret (.int 28)) fun d => bnd (ret []) fun ds => ret (d :: ds)) fun ds => lo (toRng1 ds)) (forS (.nm 2) (bndS (bnd (bnd (rd 0) fun x => bnd (ret (.int 0)) fun y => bnd (lo (eqD2 x y)) fun d => lo (tb d)) fun k => if k = true then (bnd (bnd (rd 1) fun d => bnd (ret []) fun ds => ret (d :: ds)) fun ds => lo (mkL ds)) else (bnd (bnd (rd 1) fun d => bnd (ret []) fun ds => ret (d :: ds)) fun ds => lo (mkT ds))) (setS 1))))
  (bndS (rd 1) retS)))
def f__law_deep : FM := (runF 3 b__law_deep)
theorem ok__law_deep (hP : P = hd.P) (hC : hd.says K) (hX : K.In h) (hG : h.Ns mainGlobals mg) : OkF P w K mg base 1 (He.ga K "_law_deep") ["_law_kind"] f__law_deep := okF_of (N := ["_law_kind", "_law_found", "_law_turn"]) (ps := ["_law_kind"]) (k := 0) (b := b__law_deep) (Hd.def_ hC 3 (d := d__law_deep) rfl) sc__law_deep (fun fd F => FunD.bindsA F fun _ _ _ _ _ _ us hl => match us, hl with | [_], _ => rfl) fun cdv A outer s H E hr =>
  (mss_cons (by exact (ms_set (i := 1) (by exact sc__law_deep.nd) (by rfl) (by first | exact .inl rfl | exact .inr rfl) me_non))
  (mss_cons (by exact (ms_for (t := (.nm 2)) (by exact poD) (by rfl) (mi_rng1 (by rfl) (fr_range hP hC hX hG) (by exact ma_cons me_int ma_nil)) (pg_nm (by exact sc__law_deep.nd) (i := 2) (by rfl) (by first | exact .inl rfl | exact .inr rfl)) (mss_one (by exact (ms_set (i := 1) (by exact sc__law_deep.nd) (by rfl) (by first | exact .inl rfl | exact .inr rfl) (by exact (me_if (by exact (mt_cmp (opEq2 (by exact hr.units)) (by exact (me_rd (pv 0))) me_int (nomark _))) (by exact (me_tl (by exact ma_cons (by exact (me_rd (pv 1))) ma_nil))) (by exact (me_tup (by exact ma_cons (by exact (me_rd (pv 1))) ma_nil))))))))))
  (mss_one (by exact (ms_ret (by exact (me_rd (pv 1))))))))
theorem sc__law_bent_run : FnScope ["_law_hand_here", "_law_run", "_law_at", "_law_deed", "_law_odd", "_law_things"] ["_law_hand_here", "_law_run"] (defScope (top 31)) := ⟨rfl, rfl, rfl, by decide +kernel, rfl, by decide +kernel, by decide +kernel⟩
def b__law_bent_run : MS := (seqS (bndS (bnd (bnd (bnd (bnd (ret (.str "change")) fun d => bnd (ret []) fun ds => ret (d :: ds)) fun ds => lo (mkT ds)) fun d => bnd (bnd (bnd (bnd (ret (.str "change")) fun d => bnd (bnd (bnd (ret (.int 1)) fun x => lo (negD x)) fun d => bnd (ret []) fun ds => ret (d :: ds)) fun ds => ret (d :: ds)) fun ds => lo (mkT ds)) fun d => bnd (bnd (bnd (bnd (ret (.str "join")) fun d => bnd (bnd (ret (.int 1)) fun d => bnd (bnd (ret (.int 1)) fun d => bnd (ret []) fun ds => ret (d :: ds)) fun ds => ret (d :: ds)) fun ds => ret (d :: ds)) fun ds => lo (mkT ds)) fun d => bnd (bnd (bnd (bnd (ret (.str "join")) fun d => bnd (bnd (ret (.int 0)) fun d => bnd (ret []) fun ds => ret (d :: ds)) fun ds => ret (d :: ds)) fun ds => lo (mkT ds)) fun d => bnd (bnd (bnd (bnd (ret (.str "fork")) fun d => bnd (bnd (ret (.bl true)) fun d => bnd (ret []) fun ds => ret (d :: ds)) fun ds => ret (d :: ds)) fun ds => lo (mkT ds)) fun d => bnd (bnd (bnd (bnd (ret (.str "Fork")) fun d => bnd (bnd (ret (.int 0)) fun d => bnd (ret []) fun ds => ret (d :: ds)) fun ds => ret (d :: ds)) fun ds => lo (mkT ds)) fun d => bnd (bnd (bnd (bnd (ret (.str "fork")) fun d => bnd (bnd (ret (.int 0)) fun d => bnd (ret []) fun ds => ret (d :: ds)) fun ds => ret (d :: ds)) fun ds => lo (mkL ds)) fun d => bnd (bnd (ret .non) fun d => bnd (bnd (ret (.int 0)) fun d => bnd (ret []) fun ds => ret (d :: ds)) fun ds => ret (d :: ds)) fun ds => ret (d :: ds)) fun ds => ret (d :: ds)) fun ds => ret (d :: ds)) fun ds => ret (d :: ds)) fun ds => ret (d :: ds)) fun ds => ret (d :: ds)) fun ds => ret (d :: ds)) fun ds => lo (mkL ds)) (setS 4))
  (seqS (bndS (bnd (bnd (rd 0) fun d => bnd (bnd (bnd (bnd (bnd (rd 1) fun d => bnd (ret []) fun ds => ret (d :: ds)) fun ds => lo (lenF ds)) fun x => bnd (ret (.int 1)) fun y => lo (addD x y)) fun d => bnd (ret []) fun ds => ret (d :: ds)) fun ds => ret (d :: ds)) (callM 2 f__law_draw)) (setS 2))
  (seqS (bndS (bnd (bnd (rd 0) fun d => bnd (bnd (bnd (rd 4) fun x => bnd (bnd (bnd (bnd (bnd (ret (.str "lose")) fun d => bnd (bnd (ret (.str "0")) fun d => bnd (ret []) fun ds => ret (d :: ds)) fun ds => ret (d :: ds)) fun ds => lo (mkT ds)) fun d => bnd (bnd (bnd (bnd (ret (.str "change")) fun d => bnd (bnd (ret (.int 0)) fun d => bnd (bnd (ret (.int 1)) fun d => bnd (ret []) fun ds => ret (d :: ds)) fun ds => ret (d :: ds)) fun ds => ret (d :: ds)) fun ds => lo (mkT ds)) fun d => bnd (bnd (bnd (bnd (ret (.int 1)) fun d => bnd (bnd (ret (.int 0)) fun d => bnd (ret []) fun ds => ret (d :: ds)) fun ds => ret (d :: ds)) fun ds => lo (mkT ds)) fun d => bnd (bnd (bnd (bnd (ret (.str "fork")) fun d => bnd (bnd (ret .non) fun d => bnd (ret []) fun ds => ret (d :: ds)) fun ds => ret (d :: ds)) fun ds => lo (mkT ds)) fun d => bnd (bnd (ret (.str "fork 0")) fun d => bnd (bnd (bnd (bnd (ret (.str "fork")) fun d => bnd (bnd (ret (.int 0)) fun d => bnd (ret []) fun ds => ret (d :: ds)) fun ds => ret (d :: ds)) fun ds => lo (mkT ds)) fun d => bnd (ret []) fun ds => ret (d :: ds)) fun ds => ret (d :: ds)) fun ds => ret (d :: ds)) fun ds => ret (d :: ds)) fun ds => ret (d :: ds)) fun ds => ret (d :: ds)) fun ds => lo (mkL ds)) fun y => lo (addD x y)) fun d => bnd (ret []) fun ds => ret (d :: ds)) fun ds => ret (d :: ds)) (callM 2 f__law_some)) (setS 3))
  (seqS (bndS (bnd (bnd (bnd (bnd (bnd (bnd (bnd (rd 1) fun x => bnd (ret none) fun l => bnd (bnd (rd 2) fun d => lo (toI d)) fun u => lo (slD x l u)) fun x => bnd (bnd (bnd (rd 3) fun d => bnd (ret []) fun ds => ret (d :: ds)) fun ds => lo (mkT ds)) fun y => lo (addD x y)) fun x => bnd (bnd (rd 1) fun x => bnd (bnd (rd 2) fun d => lo (toI d)) fun l => bnd (ret none) fun u => lo (slD x l u)) fun y => lo (addD x y)) fun d => bnd (ret []) fun ds => ret (d :: ds)) fun ds => lo (mkL ds)) fun x => bnd (ret (.int 4)) fun y => lo (mulD x y)) fun x => bnd (bnd (bnd (bnd (bnd (rd 1) fun d => bnd (ret []) fun ds => ret (d :: ds)) fun ds => lo (listF ds)) fun d => bnd (bnd (ret .non) fun d => bnd (bnd (ret (.str "")) fun d => bnd (bnd mkD0 fun d => bnd (bnd (bnd (bnd (ret (.int 1)) fun d => bnd (ret []) fun ds => ret (d :: ds)) (callM 1 f__law_deep)) fun d => bnd (bnd (bnd (bnd (ret (.int 0)) fun d => bnd (ret []) fun ds => ret (d :: ds)) (callM 1 f__law_deep)) fun d => bnd (bnd (rd 1) fun d => bnd (ret []) fun ds => ret (d :: ds)) fun ds => ret (d :: ds)) fun ds => ret (d :: ds)) fun ds => ret (d :: ds)) fun ds => ret (d :: ds)) fun ds => ret (d :: ds)) fun ds => ret (d :: ds)) fun ds => lo (mkL ds)) fun y => lo (addD x y)) (setS 5))
  (bndS (bnd (bnd (rd 0) fun d => bnd (bnd (rd 5) fun d => bnd (ret []) fun ds => ret (d :: ds)) fun ds => ret (d :: ds)) (callM 2 f__law_some)) retS)))))
def f__law_bent_run : FM := (runF 6 b__law_bent_run)
theorem ok__law_bent_run (hP : P = hd.P) (hC : hd.says K) (hX : K.In h) (hG : h.Ns mainGlobals mg) : OkF P w K mg base 3 (He.ga K "_law_bent_run") ["_law_hand_here", "_law_run"] f__law_bent_run := okF_of (N := ["_law_hand_here", "_law_run", "_law_at", "_law_deed", "_law_odd", "_law_things"]) (ps := ["_law_hand_here", "_law_run"]) (k := 2) (b := b__law_bent_run) (Hd.def_ hC 4 (d := d__law_bent_run) rfl) sc__law_bent_run (fun fd F => FunD.bindsA F fun _ _ _ _ _ _ us hl => match us, hl with | [_, _], _ => rfl) fun cdv A outer s H E hr =>
  (mss_cons (by exact (ms_set (i := 4) (by exact sc__law_bent_run.nd) (by rfl) (by first | exact .inl rfl | exact .inr rfl) (by exact (me_tl (by exact ma_cons (by exact (me_tup (by exact ma_cons me_str ma_nil))) (by exact ma_cons (by exact (me_tup (by exact ma_cons me_str (by exact ma_cons (by exact (me_neg me_int)) ma_nil)))) (by exact ma_cons (by exact (me_tup (by exact ma_cons me_str (by exact ma_cons me_int (by exact ma_cons me_int ma_nil))))) (by exact ma_cons (by exact (me_tup (by exact ma_cons me_str (by exact ma_cons me_int ma_nil)))) (by exact ma_cons (by exact (me_tup (by exact ma_cons me_str (by exact ma_cons me_bl ma_nil)))) (by exact ma_cons (by exact (me_tup (by exact ma_cons me_str (by exact ma_cons me_int ma_nil)))) (by exact ma_cons (by exact (me_tl (by exact ma_cons me_str (by exact ma_cons me_int ma_nil)))) (by exact ma_cons me_non (by exact ma_cons me_int ma_nil)))))))))))))
  (mss_cons (by exact (ms_set (i := 2) (by exact sc__law_bent_run.nd) (by rfl) (by first | exact .inl rfl | exact .inr rfl) (by exact (mcl  (ok__law_draw hP hC hX hG) hr (by rfl) (g__law_draw hP hC hX hG) (by exact tkD) (by exact ma_cons (by exact (me_rd (pv 0))) (by exact ma_cons (by exact (me_bin opAdd (by exact (me_callB bLen (by rfl) (fr_len hP hC hX hG) (by decide +kernel) (by exact ma_cons (by exact (me_rd (pv 1))) ma_nil))) me_int)) ma_nil))))))
  (mss_cons (by exact (ms_set (i := 3) (by exact sc__law_bent_run.nd) (by rfl) (by first | exact .inl rfl | exact .inr rfl) (by exact (mcl  (ok__law_some hP hC hX hG) hr (by rfl) (g__law_some hP hC hX hG) (by exact tkD) (by exact ma_cons (by exact (me_rd (pv 0))) (by exact ma_cons (by exact (me_bin opAdd (by exact (me_rd (pv 4))) (by exact (me_tl (by exact ma_cons (by exact (me_tup (by exact ma_cons me_str (by exact ma_cons me_str ma_nil)))) (by exact ma_cons (by exact (me_tup (by exact ma_cons me_str (by exact ma_cons me_int (by exact ma_cons me_int ma_nil))))) (by exact ma_cons (by exact (me_tup (by exact ma_cons me_int (by exact ma_cons me_int ma_nil)))) (by exact ma_cons (by exact (me_tup (by exact ma_cons me_str (by exact ma_cons me_non ma_nil)))) (by exact ma_cons me_str (by exact ma_cons (by exact (me_tup (by exact ma_cons me_str (by exact ma_cons me_int ma_nil)))) ma_nil)))))))))) ma_nil))))))
  (mss_cons (by exact (ms_set (i := 5) (by exact sc__law_bent_run.nd) (by rfl) (by first | exact .inl rfl | exact .inr rfl) (by exact (me_bin opAdd (by exact (me_bin opMul (by exact (me_tl (by exact ma_cons (by exact (me_bin opAdd (by exact (me_bin opAdd (by exact (me_slice (by exact (me_rd (pv 1))) mo_none (mo_some (by exact (me_rd (pv 2)))))) (by exact (me_tup (by exact ma_cons (by exact (me_rd (pv 3))) ma_nil))))) (by exact (me_slice (by exact (me_rd (pv 1))) (mo_some (by exact (me_rd (pv 2)))) mo_none)))) ma_nil))) me_int)) (by exact (me_tl (by exact ma_cons (by exact (me_callTy bList (by rfl) (fr_list hP hC hX hG) (by decide +kernel) (by exact ma_cons (by exact (me_rd (pv 1))) ma_nil))) (by exact ma_cons me_non (by exact ma_cons me_str (by exact ma_cons me_d0 (by exact ma_cons (by exact (mcl  (ok__law_deep hP hC hX hG) hr (by rfl) (g__law_deep hP hC hX hG) (by exact tkD) (by exact ma_cons me_int ma_nil))) (by exact ma_cons (by exact (mcl  (ok__law_deep hP hC hX hG) hr (by rfl) (g__law_deep hP hC hX hG) (by exact tkD) (by exact ma_cons me_int ma_nil))) (by exact ma_cons (by exact (me_rd (pv 1))) ma_nil)))))))))))))
  (mss_one (by exact (ms_ret (by exact (mcl  (ok__law_some hP hC hX hG) hr (by rfl) (g__law_some hP hC hX hG) (by exact tkD) (by exact ma_cons (by exact (me_rd (pv 0))) (by exact ma_cons (by exact (me_rd (pv 5))) ma_nil)))))))))))
theorem sc__law_hand : FnScope ["_law_script", "_law_cells", "_law_cell"] ["_law_script"] (defScope (top 17)) := ⟨rfl, rfl, rfl, by decide +kernel, rfl, by decide +kernel, by decide +kernel⟩
def b__law_hand : MS := (seqS (bndS (bnd (bnd (bnd (rd 0) fun x => bnd (ret none) fun l => bnd (bnd (ret (.int 63)) fun d => lo (toI d)) fun u => lo (slD x l u)) fun d => lo (toSrcA d)) (compD false (.nm 2) yes (bnd (bnd (bnd (bnd (rd 2) fun d => bnd (ret []) fun ds => ret (d :: ds)) fun ds => lo (intF2 ds)) fun d => bnd (ret []) fun ds => ret (d :: ds)) fun ds => lo (absF ds)) [2])) (setS 1))
  (bndS (bnd (bnd (rd 1) fun d => bnd (bnd (ret (.int 0)) fun d => bnd (bnd (ret (.int 0)) fun d => bnd (bnd (bnd (ret (.int 1)) fun x => bnd (bnd (bnd (rd 1) fun d => bnd (ret []) fun ds => ret (d :: ds)) fun ds => lo (lenF ds)) fun y => lo (addD x y)) fun d => bnd (bnd (ret (.int 0)) fun d => bnd (ret []) fun ds => ret (d :: ds)) fun ds => ret (d :: ds)) fun ds => ret (d :: ds)) fun ds => ret (d :: ds)) fun ds => ret (d :: ds)) fun ds => newL ds) retS))
def f__law_hand : FM := (runF 3 b__law_hand)
theorem ok__law_hand (hP : P = hd.P) (hC : hd.says K) (hX : K.In h) (hG : h.Ns mainGlobals mg) : OkF P w K mg base 1 (He.ga K "_law_hand") ["_law_script"] f__law_hand := okF_of (N := ["_law_script", "_law_cells", "_law_cell"]) (ps := ["_law_script"]) (k := 0) (b := b__law_hand) (Hd.def_ hC 5 (d := d__law_hand) rfl) sc__law_hand (fun fd F => FunD.bindsA F fun _ _ _ _ _ _ us hl => match us, hl with | [_], _ => rfl) fun cdv A outer s H E hr =>
  (mss_cons (by exact (ms_setcomp (i := 1) (ob := false) (own := [("_law_cell", 2)]) (by rfl) (by exact sc__law_hand.nd) (by rfl) (by rfl) (sw_true (by rfl) (by rfl) (by rfl) (by rfl)) (mi_any (by exact (me_slice (by exact (me_rd (pv 0))) mo_none (mo_some me_int)))) (by exact blk_of (by rfl)) (fun _ _ _ _ _ => (pg_nm (by exact sc__law_hand.nd) (i := 2) (by rfl) (by first | exact .inl rfl | exact .inr rfl))) (fun _ _ _ _ _ => mts_nil) (fun _ _ _ _ _ => (by exact (me_callB bAbs (by rfl) (fr_abs hP hC hX hG) (by decide +kernel) (by exact ma_cons (by exact (me_callTy bInt2 (by rfl) (fr_int hP hC hX hG) (by decide +kernel) (by exact ma_cons (by exact (me_rd (pv 2))) ma_nil))) ma_nil))))))
  (mss_one (by exact (ms_ret (by exact (me_lst (by exact ma_cons (by exact (me_rd (pv 1))) (by exact ma_cons me_int (by exact ma_cons me_int (by exact ma_cons (by exact (me_bin opAdd me_int (by exact (me_callB bLen (by rfl) (fr_len hP hC hX hG) (by decide +kernel) (by exact ma_cons (by exact (me_rd (pv 1))) ma_nil))))) (by exact ma_cons me_int ma_nil)))))))))))
theorem sc__law_is : FnScope ["_law_told_here", "_law_due", "_law_k", "_law_key"] ["_law_told_here", "_law_due"] (defScope (top 20)) := ⟨rfl, rfl, rfl, by decide +kernel, rfl, by decide +kernel, by decide +kernel⟩
def b__law_is (rec : FM) : MS := (seqS (bndS (bnd (bnd (bnd (rd 1) fun d => bnd (bnd (bnd (bnd (ret (.ty "tuple")) fun d => bnd (bnd (ret (.ty "list")) fun d => bnd (ret []) fun ds => ret (d :: ds)) fun ds => ret (d :: ds)) fun ds => lo (mkT ds)) fun d => bnd (ret []) fun ds => ret (d :: ds)) fun ds => ret (d :: ds)) fun ds => lo ((isiF2 TT.tf) ds)) fun d => lo (tb d)) fun x => if x = true then (seqS (bndS (bnd (bnd (bnd (bnd (rd 0) fun d => bnd (bnd (ret (.ty "tuple")) fun d => bnd (ret []) fun ds => ret (d :: ds)) fun ds => ret (d :: ds)) fun ds => lo ((isiF2 TT.tf) ds)) fun x => bnd (bnd (bnd (rd 1) fun d => bnd (bnd (ret (.ty "tuple")) fun d => bnd (ret []) fun ds => ret (d :: ds)) fun ds => ret (d :: ds)) fun ds => lo ((isiF2 TT.tf) ds)) fun y => bnd (lo (neD2 x y)) fun d => lo (tb d)) fun k => if k = true then ret true else (bnd (bnd (bnd (rd 0) fun d => bnd (bnd (ret (.ty "list")) fun d => bnd (ret []) fun ds => ret (d :: ds)) fun ds => ret (d :: ds)) fun ds => lo ((isiF2 TT.tf) ds)) fun x => bnd (bnd (bnd (rd 1) fun d => bnd (bnd (ret (.ty "list")) fun d => bnd (ret []) fun ds => ret (d :: ds)) fun ds => ret (d :: ds)) fun ds => lo ((isiF2 TT.tf) ds)) fun y => bnd (lo (neD2 x y)) fun d => lo (tb d))) fun x => if x = true then (bndS (ret (.bl false)) retS) else nxtS)
  (bndS (bnd (bnd (bnd (bnd (rd 0) fun d => bnd (ret []) fun ds => ret (d :: ds)) fun ds => lo (lenF ds)) fun x => bnd (bnd (bnd (rd 1) fun d => bnd (ret []) fun ds => ret (d :: ds)) fun ds => lo (lenF ds)) fun y => lo (eqD2 x y)) fun x => bnd (lo (tb x)) fun k => if k = true then (bnd (bnd (bnd (bnd (bnd (bnd (bnd (rd 1) fun d => bnd (ret []) fun ds => ret (d :: ds)) fun ds => lo (lenF ds)) fun d => bnd (ret []) fun ds => ret (d :: ds)) fun ds => lo (toRng1 ds)) (compD false (.nm 2) yes (bnd (bnd (bnd (rd 0) fun x => bnd (rd 2) fun y => lo (ixD x y)) fun d => bnd (bnd (bnd (rd 1) fun x => bnd (rd 2) fun y => lo (ixD x y)) fun d => bnd (ret []) fun ds => ret (d :: ds)) fun ds => ret (d :: ds)) (callM 2 rec)) [2])) fun d => bnd (ret []) fun ds => ret (d :: ds)) fun ds => lo (allF ds)) else ret (.bl false)) retS)) else nxtS)
  (seqS (bndS (bnd (bnd (bnd (rd 1) fun d => bnd (bnd (ret (.ty "dict")) fun d => bnd (ret []) fun ds => ret (d :: ds)) fun ds => ret (d :: ds)) fun ds => lo ((isiF2 TT.tf) ds)) fun d => lo (tb d)) fun x => if x = true then (bndS (bnd (bnd (bnd (rd 0) fun d => bnd (bnd (ret (.ty "dict")) fun d => bnd (ret []) fun ds => ret (d :: ds)) fun ds => ret (d :: ds)) fun ds => lo ((isiF2 TT.tf) ds)) fun x => bnd (lo (tb x)) fun k => if k = true then (bnd (bnd (rd 0) fun x => bnd (rd 1) fun y => lo (eqD2 x y)) fun x => bnd (lo (tb x)) fun k => if k = true then (bnd (bnd (bnd (bnd (rd 1) fun d => lo (toSrcA d)) (compD false (.nm 3) yes (bnd (bnd (bnd (rd 0) fun x => bnd (rd 3) fun y => lo (ixD x y)) fun d => bnd (bnd (bnd (rd 1) fun x => bnd (rd 3) fun y => lo (ixD x y)) fun d => bnd (ret []) fun ds => ret (d :: ds)) fun ds => ret (d :: ds)) (callM 2 rec)) [3])) fun d => bnd (ret []) fun ds => ret (d :: ds)) fun ds => lo (allF ds)) else ret (.bl false)) else ret (.bl false)) retS) else nxtS)
  (bndS (bnd (bnd (bnd (bnd (rd 0) fun d => bnd (bnd (ret (.ty "bool")) fun d => bnd (ret []) fun ds => ret (d :: ds)) fun ds => ret (d :: ds)) fun ds => lo ((isiF2 TT.tf) ds)) fun x => bnd (bnd (bnd (rd 1) fun d => bnd (bnd (ret (.ty "bool")) fun d => bnd (ret []) fun ds => ret (d :: ds)) fun ds => ret (d :: ds)) fun ds => lo ((isiF2 TT.tf) ds)) fun y => lo (eqD2 x y)) fun x => bnd (lo (tb x)) fun k => if k = true then (bnd (rd 0) fun x => bnd (rd 1) fun y => lo (eqD2 x y)) else ret (.bl false)) retS)))
def f__law_isr : Nat → FM
  | 0 => runF 4 stkS
  | n + 1 => (runF 4 (b__law_is (f__law_isr n)))
def f__law_is : FM := f__law_isr 5
theorem okr__law_is (hP : P = hd.P) (hC : hd.says K) (hX : K.In h) (hG : h.Ns mainGlobals mg) : ∀ n, OkF P w K mg base (0 + n + 1) (He.ga K "_law_is") ["_law_told_here", "_law_due"] (f__law_isr n)
  | 0 => okF_of (N := ["_law_told_here", "_law_due", "_law_k", "_law_key"]) (ps := ["_law_told_here", "_law_due"]) (k := 0) (b := stkS) (Hd.def_ hC 6 (d := d__law_is) rfl) sc__law_is (fun fd F => FunD.bindsA F fun _ _ _ _ _ _ us hl => match us, hl with | [_, _], _ => rfl) fun cdv A outer s H E hr => mss_stk
  | n + 1 => okF_of (N := ["_law_told_here", "_law_due", "_law_k", "_law_key"]) (ps := ["_law_told_here", "_law_due"]) (k := 0 + (n + 1)) (b := b__law_is (f__law_isr n)) (Hd.def_ hC 6 (d := d__law_is) rfl) sc__law_is (fun fd F => FunD.bindsA F fun _ _ _ _ _ _ us hl => match us, hl with | [_, _], _ => rfl) fun cdv A outer s H E hr =>
    have hrec := okr__law_is hP hC hX hG n
    (mss_cons (by exact (ms_if (by exact (mt_val (by exact (me_callB (bIsiT2 (T := TT.tf) (by exact ⟨(FX hC).toPF, rfl⟩)) (by rfl) (fr_isinstance hP hC hX hG) (by decide +kernel) (by exact ma_cons (by exact (me_rd (pv 1))) (by exact ma_cons (by exact (me_tup (by exact ma_cons (by exact (me_bty (by rfl) (fr_tuple hP hC hX hG) (by decide +kernel))) (by exact ma_cons (by exact (me_bty (by rfl) (fr_list hP hC hX hG) (by decide +kernel))) ma_nil)))) ma_nil)))))) (mss_cons (by exact (ms_if (by exact (mt_w (mw_or (by exact (mt_cmp (opNe2 (by exact hr.units)) (by exact (me_callB (bIsiT2 (T := TT.tf) (by exact ⟨(FX hC).toPF, rfl⟩)) (by rfl) (fr_isinstance hP hC hX hG) (by decide +kernel) (by exact ma_cons (by exact (me_rd (pv 0))) (by exact ma_cons (by exact (me_bty (by rfl) (fr_tuple hP hC hX hG) (by decide +kernel))) ma_nil)))) (by exact (me_callB (bIsiT2 (T := TT.tf) (by exact ⟨(FX hC).toPF, rfl⟩)) (by rfl) (fr_isinstance hP hC hX hG) (by decide +kernel) (by exact ma_cons (by exact (me_rd (pv 1))) (by exact ma_cons (by exact (me_bty (by rfl) (fr_tuple hP hC hX hG) (by decide +kernel))) ma_nil)))) (nomark _))) (mw_or1 (by exact (mt_cmp (opNe2 (by exact hr.units)) (by exact (me_callB (bIsiT2 (T := TT.tf) (by exact ⟨(FX hC).toPF, rfl⟩)) (by rfl) (fr_isinstance hP hC hX hG) (by decide +kernel) (by exact ma_cons (by exact (me_rd (pv 0))) (by exact ma_cons (by exact (me_bty (by rfl) (fr_list hP hC hX hG) (by decide +kernel))) ma_nil)))) (by exact (me_callB (bIsiT2 (T := TT.tf) (by exact ⟨(FX hC).toPF, rfl⟩)) (by rfl) (fr_isinstance hP hC hX hG) (by decide +kernel) (by exact ma_cons (by exact (me_rd (pv 1))) (by exact ma_cons (by exact (me_bty (by rfl) (fr_list hP hC hX hG) (by decide +kernel))) ma_nil)))) (nomark _))))))) (mss_one (by exact (ms_ret me_bl))) mss_nil))
  (mss_one (by exact (ms_ret (by exact (me_and (by exact (me_cmp (opEq2 (by exact hr.units)) (by exact (me_callB bLen (by rfl) (fr_len hP hC hX hG) (by decide +kernel) (by exact ma_cons (by exact (me_rd (pv 0))) ma_nil))) (by exact (me_callB bLen (by rfl) (fr_len hP hC hX hG) (by decide +kernel) (by exact ma_cons (by exact (me_rd (pv 1))) ma_nil))) (nomark _))) (me_one (by exact (me_callB (bAll (by rfl)) (by rfl) (fr_all hP hC hX hG) (by decide +kernel) (by exact ma_cons (by exact (me_comp (ob := false) (own := [("_law_k", 2)]) (by rfl) (by exact sc__law_is.nd) (mi_rng1 (by rfl) (fr_range hP hC hX hG) (by exact ma_cons (by exact (me_callB bLen (by rfl) (fr_len hP hC hX hG) (by decide +kernel) (by exact ma_cons (by exact (me_rd (pv 1))) ma_nil))) ma_nil)) (by exact blk_of (by rfl)) (fun _ _ _ _ _ => (pg_nm (by exact sc__law_is.nd) (i := 2) (by rfl) (by first | exact .inl rfl | exact .inr rfl))) (fun _ _ _ _ _ => mts_nil) (fun _ _ _ _ _ => (by exact (mcl (k := 0 + n + 1) (k' := 0 + (n + 1)) (x := "_law_is") (ps := ["_law_told_here", "_law_due"]) (fm := f__law_isr n) (hk := by omega) hrec hr (by rfl) (g__law_is hP hC hX hG) (by exact tk0) (by exact ma_cons (by exact (me_ix ixOk (by exact (me_rd (pv 0))) (by exact (me_rd (pv 2))) (by intro _ _; rfl))) (by exact ma_cons (by exact (me_ix ixOk (by exact (me_rd (pv 1))) (by exact (me_rd (pv 2))) (by intro _ _; rfl))) ma_nil))))))) ma_nil)))))))))) mss_nil))
  (mss_cons (by exact (ms_if (by exact (mt_val (by exact (me_callB (bIsiT2 (T := TT.tf) (by exact ⟨(FX hC).toPF, rfl⟩)) (by rfl) (fr_isinstance hP hC hX hG) (by decide +kernel) (by exact ma_cons (by exact (me_rd (pv 1))) (by exact ma_cons (by exact (me_bty (by rfl) (fr_dict hP hC hX hG) (by decide +kernel))) ma_nil)))))) (mss_one (by exact (ms_ret (by exact (me_and (by exact (me_callB (bIsiT2 (T := TT.tf) (by exact ⟨(FX hC).toPF, rfl⟩)) (by rfl) (fr_isinstance hP hC hX hG) (by decide +kernel) (by exact ma_cons (by exact (me_rd (pv 0))) (by exact ma_cons (by exact (me_bty (by rfl) (fr_dict hP hC hX hG) (by decide +kernel))) ma_nil)))) (me_and (by exact (me_cmp (opEq2 (by exact hr.units)) (by exact (me_rd (pv 0))) (by exact (me_rd (pv 1))) (nomark _))) (me_one (by exact (me_callB (bAll (by rfl)) (by rfl) (fr_all hP hC hX hG) (by decide +kernel) (by exact ma_cons (by exact (me_comp (ob := false) (own := [("_law_key", 3)]) (by rfl) (by exact sc__law_is.nd) (mi_any (by exact (me_rd (pv 1)))) (by exact blk_of (by rfl)) (fun _ _ _ _ _ => (pg_nm (by exact sc__law_is.nd) (i := 3) (by rfl) (by first | exact .inl rfl | exact .inr rfl))) (fun _ _ _ _ _ => mts_nil) (fun _ _ _ _ _ => (by exact (mcl (k := 0 + n + 1) (k' := 0 + (n + 1)) (x := "_law_is") (ps := ["_law_told_here", "_law_due"]) (fm := f__law_isr n) (hk := by omega) hrec hr (by rfl) (g__law_is hP hC hX hG) (by exact tk0) (by exact ma_cons (by exact (me_ix ixOk (by exact (me_rd (pv 0))) (by exact (me_rd (pv 3))) (by intro _ _; rfl))) (by exact ma_cons (by exact (me_ix ixOk (by exact (me_rd (pv 1))) (by exact (me_rd (pv 3))) (by intro _ _; rfl))) ma_nil))))))) ma_nil)))))))))) mss_nil))
  (mss_one (by exact (ms_ret (by exact (me_and (by exact (me_cmp (opEq2 (by exact hr.units)) (by exact (me_callB (bIsiT2 (T := TT.tf) (by exact ⟨(FX hC).toPF, rfl⟩)) (by rfl) (fr_isinstance hP hC hX hG) (by decide +kernel) (by exact ma_cons (by exact (me_rd (pv 0))) (by exact ma_cons (by exact (me_bty (by rfl) (fr_bool hP hC hX hG) (by decide +kernel))) ma_nil)))) (by exact (me_callB (bIsiT2 (T := TT.tf) (by exact ⟨(FX hC).toPF, rfl⟩)) (by rfl) (fr_isinstance hP hC hX hG) (by decide +kernel) (by exact ma_cons (by exact (me_rd (pv 1))) (by exact ma_cons (by exact (me_bty (by rfl) (fr_bool hP hC hX hG) (by decide +kernel))) ma_nil)))) (nomark _))) (me_one (by exact (me_cmp (opEq2 (by exact hr.units)) (by exact (me_rd (pv 0))) (by exact (me_rd (pv 1))) (nomark _)))))))))))
theorem ok__law_is (hP : P = hd.P) (hC : hd.says K) (hX : K.In h) (hG : h.Ns mainGlobals mg) : OkF P w K mg base 6 (He.ga K "_law_is") ["_law_told_here", "_law_due"] f__law_is := okr__law_is hP hC hX hG 5
theorem sc__law_is_deed : FnScope ["_law_thing", "_law_copy"] ["_law_thing"] (defScope (top 22)) := ⟨rfl, rfl, rfl, by decide +kernel, rfl, by decide +kernel, by decide +kernel⟩
def b__law_is_deed : MS := (seqS (bndS (bnd (bnd (bnd (bnd (bnd (rd 0) fun d => bnd (bnd (ret (.ty "tuple")) fun d => bnd (ret []) fun ds => ret (d :: ds)) fun ds => ret (d :: ds)) fun ds => lo ((isiF2 TT.tf) ds)) fun d => lo (tb d)) fun k => ret (!k)) fun k => if k = true then ret true else (bnd (bnd (bnd (bnd (rd 0) fun d => bnd (ret []) fun ds => ret (d :: ds)) fun ds => lo (lenF ds)) fun x => bnd (ret (.int 2)) fun y => bnd (lo (ltD x y)) fun d => lo (tb d)) fun k => if k = true then ret true else (bnd (bnd (bnd (bnd (bnd (rd 0) fun x => bnd (ret (.int 0)) fun y => lo (ixD x y)) fun d => bnd (bnd (ret (.ty "str")) fun d => bnd (ret []) fun ds => ret (d :: ds)) fun ds => ret (d :: ds)) fun ds => lo ((isiF2 TT.tf) ds)) fun d => lo (tb d)) fun k => ret (!k)))) fun x => if x = true then (bndS (ret (.bl false)) retS) else nxtS)
  (seqS (bndS (bnd (bnd (rd 0) fun x => bnd (bnd (ret (.int 1)) fun d => lo (toI d)) fun l => bnd (ret none) fun u => lo (slD x l u)) fun d => lo (toSrcA d)) (forS (.nm 1) (bndS (bnd (bnd (bnd (bnd (bnd (rd 1) fun d => bnd (bnd (ret (.ty "int")) fun d => bnd (ret []) fun ds => ret (d :: ds)) fun ds => ret (d :: ds)) fun ds => lo ((isiF2 TT.tf) ds)) fun d => lo (tb d)) fun k => ret (!k)) fun k => if k = true then ret true else (bnd (bnd (bnd (bnd (rd 1) fun d => bnd (bnd (ret (.ty "bool")) fun d => bnd (ret []) fun ds => ret (d :: ds)) fun ds => ret (d :: ds)) fun ds => lo ((isiF2 TT.tf) ds)) fun d => lo (tb d)) fun k => if k = true then ret true else (bnd (rd 1) fun x => bnd (ret (.int 0)) fun y => bnd (lo (ltD x y)) fun d => lo (tb d)))) fun x => if x = true then (bndS (ret (.bl false)) retS) else nxtS)))
  (seqS (bndS (bnd (bnd (rd 0) fun x => bnd (ret (.int 0)) fun y => lo (ixD x y)) fun x => bnd (ret (.str "join")) fun y => bnd (lo (eqD2 x y)) fun d => lo (tb d)) fun x => if x = true then (bndS (bnd (bnd (bnd (bnd (rd 0) fun d => bnd (ret []) fun ds => ret (d :: ds)) fun ds => lo (lenF ds)) fun x => bnd (ret (.int 3)) fun y => lo (eqD2 x y)) fun x => bnd (lo (tb x)) fun k => if k = true then (bnd (bnd (rd 0) fun x => bnd (ret (.int 1)) fun y => lo (ixD x y)) fun x => bnd (bnd (rd 0) fun x => bnd (ret (.int 2)) fun y => lo (ixD x y)) fun y => lo (neD2 x y)) else ret (.bl false)) retS) else nxtS)
  (bndS (bnd (bnd (bnd (bnd (rd 0) fun d => bnd (ret []) fun ds => ret (d :: ds)) fun ds => lo (lenF ds)) fun x => bnd (ret (.int 2)) fun y => lo (eqD2 x y)) fun x => bnd (lo (tb x)) fun k => if k = true then (bnd (bnd (rd 0) fun x => bnd (ret (.int 0)) fun y => lo (ixD x y)) fun x => bnd (bnd (bnd (ret (.str "change")) fun d => bnd (bnd (ret (.str "fork")) fun d => bnd (bnd (ret (.str "lose")) fun d => bnd (ret []) fun ds => ret (d :: ds)) fun ds => ret (d :: ds)) fun ds => ret (d :: ds)) fun ds => lo (mkL ds)) fun y => lo ((inS false) x y)) else ret (.bl false)) retS))))
def f__law_is_deed : FM := (runF 2 b__law_is_deed)
theorem ok__law_is_deed (hP : P = hd.P) (hC : hd.says K) (hX : K.In h) (hG : h.Ns mainGlobals mg) : OkF P w K mg base 1 (He.ga K "_law_is_deed") ["_law_thing"] f__law_is_deed := okF_of (N := ["_law_thing", "_law_copy"]) (ps := ["_law_thing"]) (k := 0) (b := b__law_is_deed) (Hd.def_ hC 7 (d := d__law_is_deed) rfl) sc__law_is_deed (fun fd F => FunD.bindsA F fun _ _ _ _ _ _ us hl => match us, hl with | [_], _ => rfl) fun cdv A outer s H E hr =>
  (mss_cons (by exact (ms_if (by exact (mt_w (mw_or (by exact (mt_not (by exact (mt_val (by exact (me_callB (bIsiT2 (T := TT.tf) (by exact ⟨(FX hC).toPF, rfl⟩)) (by rfl) (fr_isinstance hP hC hX hG) (by decide +kernel) (by exact ma_cons (by exact (me_rd (pv 0))) (by exact ma_cons (by exact (me_bty (by rfl) (fr_tuple hP hC hX hG) (by decide +kernel))) ma_nil)))))))) (mw_or (by exact (mt_cmp opLt (by exact (me_callB bLen (by rfl) (fr_len hP hC hX hG) (by decide +kernel) (by exact ma_cons (by exact (me_rd (pv 0))) ma_nil))) me_int (nomark _))) (mw_or1 (by exact (mt_not (by exact (mt_val (by exact (me_callB (bIsiT2 (T := TT.tf) (by exact ⟨(FX hC).toPF, rfl⟩)) (by rfl) (fr_isinstance hP hC hX hG) (by decide +kernel) (by exact ma_cons (by exact (me_ix ixOk (by exact (me_rd (pv 0))) me_int (by intro _ _; rfl))) (by exact ma_cons (by exact (me_bty (by rfl) (fr_str hP hC hX hG) (by decide +kernel))) ma_nil))))))))))))) (mss_one (by exact (ms_ret me_bl))) mss_nil))
  (mss_cons (by exact (ms_for (t := (.nm 1)) (by exact poD) (by rfl) (mi_any (by exact (me_slice (by exact (me_rd (pv 0))) (mo_some me_int) mo_none))) (pg_nm (by exact sc__law_is_deed.nd) (i := 1) (by rfl) (by first | exact .inl rfl | exact .inr rfl)) (mss_one (by exact (ms_if (by exact (mt_w (mw_or (by exact (mt_not (by exact (mt_val (by exact (me_callB (bIsiT2 (T := TT.tf) (by exact ⟨(FX hC).toPF, rfl⟩)) (by rfl) (fr_isinstance hP hC hX hG) (by decide +kernel) (by exact ma_cons (by exact (me_rd (pv 1))) (by exact ma_cons (by exact (me_bty (by rfl) (fr_int hP hC hX hG) (by decide +kernel))) ma_nil)))))))) (mw_or (by exact (mt_val (by exact (me_callB (bIsiT2 (T := TT.tf) (by exact ⟨(FX hC).toPF, rfl⟩)) (by rfl) (fr_isinstance hP hC hX hG) (by decide +kernel) (by exact ma_cons (by exact (me_rd (pv 1))) (by exact ma_cons (by exact (me_bty (by rfl) (fr_bool hP hC hX hG) (by decide +kernel))) ma_nil)))))) (mw_or1 (by exact (mt_cmp opLt (by exact (me_rd (pv 1))) me_int (nomark _)))))))) (mss_one (by exact (ms_ret me_bl))) mss_nil)))))
  (mss_cons (by exact (ms_if (by exact (mt_cmp (opEq2 (by exact hr.units)) (by exact (me_ix ixOk (by exact (me_rd (pv 0))) me_int (by intro _ _; rfl))) me_str (nomark _))) (mss_one (by exact (ms_ret (by exact (me_and (by exact (me_cmp (opEq2 (by exact hr.units)) (by exact (me_callB bLen (by rfl) (fr_len hP hC hX hG) (by decide +kernel) (by exact ma_cons (by exact (me_rd (pv 0))) ma_nil))) me_int (nomark _))) (me_one (by exact (me_cmp (opNe2 (by exact hr.units)) (by exact (me_ix ixOk (by exact (me_rd (pv 0))) me_int (by intro _ _; rfl))) (by exact (me_ix ixOk (by exact (me_rd (pv 0))) me_int (by intro _ _; rfl))) (nomark _))))))))) mss_nil))
  (mss_one (by exact (ms_ret (by exact (me_and (by exact (me_cmp (opEq2 (by exact hr.units)) (by exact (me_callB bLen (by rfl) (fr_len hP hC hX hG) (by decide +kernel) (by exact ma_cons (by exact (me_rd (pv 0))) ma_nil))) me_int (nomark _))) (me_one (by exact (me_cmp opInS (by exact (me_ix ixOk (by exact (me_rd (pv 0))) me_int (by intro _ _; rfl))) (by exact (me_tl (by exact ma_cons me_str (by exact ma_cons me_str (by exact ma_cons me_str ma_nil))))) (by rfl))))))))))))
theorem sc__law_number : FnScope ["_law_word", "_law_sign"] ["_law_word"] (defScope (top 25)) := ⟨rfl, rfl, rfl, by decide +kernel, rfl, by decide +kernel, by decide +kernel⟩
def b__law_number : MS := (seqS (bndS (bnd (bnd (bnd (bnd (ret (.int 1)) fun x => bnd (bnd (bnd (rd 0) fun d => bnd (ret []) fun ds => ret (d :: ds)) fun ds => lo (lenF ds)) fun y => chn leD leD x y (ret (.int 9))) fun d => lo (tb d)) fun k => ret (!k)) fun k => if k = true then ret true else (bnd (bnd (bnd (bnd (bnd (bnd (rd 0) fun d => lo (toSrcA d)) (compD false (.nm 1) yes (bnd (rd 1) fun x => bnd (ret (.str "0123456789")) fun y => lo ((inS false) x y)) [1])) fun d => bnd (ret []) fun ds => ret (d :: ds)) fun ds => lo (allF ds)) fun d => lo (tb d)) fun k => ret (!k))) fun x => if x = true then (bndS (ret .non) retS) else nxtS)
  (bndS (bnd (bnd (bnd (bnd (rd 0) fun x => bnd (ret (.int 0)) fun y => lo (ixD x y)) fun x => bnd (ret (.str "0")) fun y => bnd (lo (eqD2 x y)) fun d => lo (tb d)) fun k => if k = true then (bnd (bnd (bnd (rd 0) fun d => bnd (ret []) fun ds => ret (d :: ds)) fun ds => lo (lenF ds)) fun x => bnd (ret (.int 1)) fun y => bnd (lo (gtD x y)) fun d => lo (tb d)) else ret false) fun k => if k = true then (ret .non) else (bnd (bnd (rd 0) fun d => bnd (ret []) fun ds => ret (d :: ds)) fun ds => lo (intF2 ds))) retS))
def f__law_number : FM := (runF 2 b__law_number)
theorem ok__law_number (hP : P = hd.P) (hC : hd.says K) (hX : K.In h) (hG : h.Ns mainGlobals mg) : OkF P w K mg base 1 (He.ga K "_law_number") ["_law_word"] f__law_number := okF_of (N := ["_law_word", "_law_sign"]) (ps := ["_law_word"]) (k := 0) (b := b__law_number) (Hd.def_ hC 8 (d := d__law_number) rfl) sc__law_number (fun fd F => FunD.bindsA F fun _ _ _ _ _ _ us hl => match us, hl with | [_], _ => rfl) fun cdv A outer s H E hr =>
  (mss_cons (by exact (ms_if (by exact (mt_w (mw_or (by exact (mt_not (by exact (mt_chain opLe opLe me_int (by exact (me_callB bLen (by rfl) (fr_len hP hC hX hG) (by decide +kernel) (by exact ma_cons (by exact (me_rd (pv 0))) ma_nil))) me_int)))) (mw_or1 (by exact (mt_not (by exact (mt_val (by exact (me_callB (bAll (by rfl)) (by rfl) (fr_all hP hC hX hG) (by decide +kernel) (by exact ma_cons (by exact (me_comp (ob := false) (own := [("_law_sign", 1)]) (by rfl) (by exact sc__law_number.nd) (mi_any (by exact (me_rd (pv 0)))) (by exact blk_of (by rfl)) (fun _ _ _ _ _ => (pg_nm (by exact sc__law_number.nd) (i := 1) (by rfl) (by first | exact .inl rfl | exact .inr rfl))) (fun _ _ _ _ _ => mts_nil) (fun _ _ _ _ _ => (by exact (me_cmp opInS (by exact (me_rd (pv 1))) me_str (by rfl)))))) ma_nil))))))))))) (mss_one (by exact (ms_ret me_non))) mss_nil))
  (mss_one (by exact (ms_ret (by exact (me_if (by exact (mt_w (mw_and (by exact (mt_cmp (opEq2 (by exact hr.units)) (by exact (me_ix ixOk (by exact (me_rd (pv 0))) me_int (by intro _ _; rfl))) me_str (nomark _))) (mw_and1 (by exact (mt_cmp opGt (by exact (me_callB bLen (by rfl) (fr_len hP hC hX hG) (by decide +kernel) (by exact ma_cons (by exact (me_rd (pv 0))) ma_nil))) me_int (nomark _))))))) me_non (by exact (me_callTy bInt2 (by rfl) (fr_int hP hC hX hG) (by decide +kernel) (by exact ma_cons (by exact (me_rd (pv 0))) ma_nil)))))))))
theorem sc__law_numbers : FnScope ["_law_words", "_law_many", "_law_found", "_law_word", "_law_number_here"] ["_law_words", "_law_many"] (defScope (top 26)) := ⟨rfl, rfl, rfl, by decide +kernel, rfl, by decide +kernel, by decide +kernel⟩
def b__law_numbers : MS := (seqS (bndS (bnd (bnd (rd 0) fun d => lo (toSrcA d)) (compD false (.nm 3) yes (bnd (bnd (rd 3) fun d => bnd (ret []) fun ds => ret (d :: ds)) (callM 1 f__law_number)) [3])) (setS 2))
  (seqS (bndS (bnd (bnd (ret .non) fun x => bnd (rd 2) fun y => bnd (lo ((inS false) x y)) fun d => lo (tb d)) fun k => if k = true then ret true else (bnd (bnd (bnd (bnd (bnd (bnd (rd 2) fun d => lo (toSrcA d)) (compD false (.nm 4) yes (bnd (rd 4) fun x => bnd (rd 1) fun y => lo (ltD x y)) [4])) fun d => bnd (ret []) fun ds => ret (d :: ds)) fun ds => lo (allF ds)) fun d => lo (tb d)) fun k => ret (!k))) fun x => if x = true then (bndS (ret .non) retS) else nxtS)
  (bndS (bnd (bnd (rd 2) fun d => bnd (ret []) fun ds => ret (d :: ds)) fun ds => lo (tupF ds)) retS)))
def f__law_numbers : FM := (runF 5 b__law_numbers)
theorem ok__law_numbers (hP : P = hd.P) (hC : hd.says K) (hX : K.In h) (hG : h.Ns mainGlobals mg) : OkF P w K mg base 2 (He.ga K "_law_numbers") ["_law_words", "_law_many"] f__law_numbers := okF_of (N := ["_law_words", "_law_many", "_law_found", "_law_word", "_law_number_here"]) (ps := ["_law_words", "_law_many"]) (k := 1) (b := b__law_numbers) (Hd.def_ hC 9 (d := d__law_numbers) rfl) sc__law_numbers (fun fd F => FunD.bindsA F fun _ _ _ _ _ _ us hl => match us, hl with | [_, _], _ => rfl) fun cdv A outer s H E hr =>
  (mss_cons (by exact (ms_setcomp (i := 2) (ob := false) (own := [("_law_word", 3)]) (by rfl) (by exact sc__law_numbers.nd) (by rfl) (by rfl) (sw_true (by rfl) (by rfl) (by rfl) (by rfl)) (mi_any (by exact (me_rd (pv 0)))) (by exact blk_of (by rfl)) (fun _ _ _ _ _ => (pg_nm (by exact sc__law_numbers.nd) (i := 3) (by rfl) (by first | exact .inl rfl | exact .inr rfl))) (fun _ _ _ _ _ => mts_nil) (fun _ _ _ _ _ => (by exact (mcl  (ok__law_number hP hC hX hG) hr (by rfl) (g__law_number hP hC hX hG) (by exact tk0) (by exact ma_cons (by exact (me_rd (pv 3))) ma_nil))))))
  (mss_cons (by exact (ms_if (by exact (mt_w (mw_or (by exact (mt_cmp opInS me_non (by exact (me_rd (pv 2))) (by rfl))) (mw_or1 (by exact (mt_not (by exact (mt_val (by exact (me_callB (bAll (by rfl)) (by rfl) (fr_all hP hC hX hG) (by decide +kernel) (by exact ma_cons (by exact (me_comp (ob := false) (own := [("_law_number_here", 4)]) (by rfl) (by exact sc__law_numbers.nd) (mi_any (by exact (me_rd (pv 2)))) (by exact blk_of (by rfl)) (fun _ _ _ _ _ => (pg_nm (by exact sc__law_numbers.nd) (i := 4) (by rfl) (by first | exact .inl rfl | exact .inr rfl))) (fun _ _ _ _ _ => mts_nil) (fun _ _ _ _ _ => (by exact (me_cmp opLt (by exact (me_rd (pv 4))) (by exact (me_rd (pv 1))) (nomark _)))))) ma_nil))))))))))) (mss_one (by exact (ms_ret me_non))) mss_nil))
  (mss_one (by exact (ms_ret (by exact (me_callTy bTup (by rfl) (fr_tuple hP hC hX hG) (by decide +kernel) (by exact ma_cons (by exact (me_rd (pv 2))) ma_nil))))))))
theorem sc__law_read_run : FnScope ["_law_text", "_law_at", "_law_copies", "_law_deed", "_law_found", "_law_line", "_law_words"] ["_law_text"] (defScope (top 27)) := ⟨rfl, rfl, rfl, by decide +kernel, rfl, by decide +kernel, by decide +kernel⟩
def b__law_read_run : MS := (seqS (bndS (bnd (bnd (bnd (bnd (rd 0) fun d => bnd (bnd (ret (.ty "str")) fun d => bnd (ret []) fun ds => ret (d :: ds)) fun ds => ret (d :: ds)) fun ds => lo ((isiF2 TT.tf) ds)) fun d => lo (tb d)) fun k => ret (!k)) fun x => if x = true then (bndS (bnd (bnd (ret (.str "text")) fun d => bnd (bnd (ret (.int 0)) fun d => bnd (ret []) fun ds => ret (d :: ds)) fun ds => ret (d :: ds)) fun ds => lo (mkT ds)) retS) else nxtS)
  (seqS (bndS (bnd (ret []) fun ds => newL ds) (setS 4))
  (seqS (bndS (bnd (bnd (bnd (bnd (rd 0) fun x => bnd (ret (.str "")) fun y => bnd (lo (neD2 x y)) fun d => lo (tb d)) fun k => if k = true then (bnd (rd 0) fun x => chk (tyOk "str" x) (bnd (bnd (ret (.str "\n")) fun d => bnd (ret []) fun ds => ret (d :: ds)) fun ds => lof (splitF x ds))) else (bnd (ret []) fun ds => lo (mkL ds))) fun d => bnd (ret []) fun ds => ret (d :: ds)) fun ds => lo (toEnm ds)) (forS (.tp [1, 5]) (seqS (bndS (bnd (rd 5) fun x => chk (tyOk "str" x) (bnd (bnd (ret (.str " ")) fun d => bnd (ret []) fun ds => ret (d :: ds)) fun ds => lof (splitF x ds))) (setS 6))
  (seqS (bndS (bnd (bnd (bnd (rd 6) fun x => bnd (bnd (ret (.int 1)) fun d => lo (toI d)) fun l => bnd (ret none) fun u => lo (slD x l u)) fun d => bnd (bnd (bnd (ret (.int 10)) fun x => bnd (ret (.int 9)) fun y => lo (powD x y)) fun d => bnd (ret []) fun ds => ret (d :: ds)) fun ds => ret (d :: ds)) (callM 2 f__law_numbers)) (setS 2))
  (seqS (bndS (bnd (bnd (bnd (bnd (rd 6) fun x => bnd (ret (.int 0)) fun y => lo (ixD x y)) fun d => bnd (ret []) fun ds => ret (d :: ds)) fun ds => lo (mkT ds)) fun x => bnd (bnd (bnd (rd 2) fun x => bnd (ret .non) fun y => bnd (lo (isD x y)) fun d => lo (tb d)) fun k => if k = true then (bnd (ret []) fun ds => lo (mkT ds)) else (rd 2)) fun y => lo (addD x y)) (setS 3))
  (seqS (bndS (bnd (bnd (bnd (bnd (rd 3) fun d => bnd (ret []) fun ds => ret (d :: ds)) (callM 1 f__law_is_deed)) fun d => lo (tb d)) fun k => ret (!k)) fun x => if x = true then (bndS (bnd (bnd (ret (.str "text")) fun d => bnd (bnd (bnd (rd 1) fun x => bnd (ret (.int 1)) fun y => lo (addD x y)) fun d => bnd (ret []) fun ds => ret (d :: ds)) fun ds => ret (d :: ds)) fun ds => lo (mkT ds)) retS) else nxtS)
  (bndS (bnd (rd 4) fun x => chk (tyOk "list" x) (bnd (bnd (rd 3) fun d => bnd (ret []) fun ds => ret (d :: ds)) fun ds => lof (appendF x ds))) fun _ => nxtS)))))))
  (bndS (bnd (bnd (ret (.str "told")) fun d => bnd (bnd (bnd (bnd (rd 4) fun d => bnd (ret []) fun ds => ret (d :: ds)) fun ds => lo (tupF ds)) fun d => bnd (ret []) fun ds => ret (d :: ds)) fun ds => ret (d :: ds)) fun ds => lo (mkT ds)) retS))))
def f__law_read_run : FM := trim 1 (runF 7 b__law_read_run)
theorem ok__law_read_run (hP : P = hd.P) (hC : hd.says K) (hX : K.In h) (hG : h.Ns mainGlobals mg) : OkF P w K mg base 3 (He.ga K "_law_read_run") ["_law_text"] f__law_read_run := OkF.trim 1 <| okF_of (N := ["_law_text", "_law_at", "_law_copies", "_law_deed", "_law_found", "_law_line", "_law_words"]) (ps := ["_law_text"]) (k := 2) (b := b__law_read_run) (Hd.def_ hC 10 (d := d__law_read_run) rfl) sc__law_read_run (fun fd F => FunD.bindsA F fun _ _ _ _ _ _ us hl => match us, hl with | [_], _ => rfl) fun cdv A outer s H E hr =>
  (mss_cons (by exact (ms_if (by exact (mt_not (by exact (mt_val (by exact (me_callB (bIsiT2 (T := TT.tf) (by exact ⟨(FX hC).toPF, rfl⟩)) (by rfl) (fr_isinstance hP hC hX hG) (by decide +kernel) (by exact ma_cons (by exact (me_rd (pv 0))) (by exact ma_cons (by exact (me_bty (by rfl) (fr_str hP hC hX hG) (by decide +kernel))) ma_nil)))))))) (mss_one (by exact (ms_ret (by exact (me_tup (by exact ma_cons me_str (by exact ma_cons me_int ma_nil))))))) mss_nil))
  (mss_cons (by exact (ms_set (i := 4) (by exact sc__law_read_run.nd) (by rfl) (by first | exact .inl rfl | exact .inr rfl) (by exact (me_lst ma_nil))))
  (mss_cons (by exact (ms_for (t := (.tp [1, 5])) (by exact poD) (by rfl) (mi_enum (by rfl) (fr_enumerate hP hC hX hG) (by exact ma_cons (by exact (me_if (by exact (mt_cmp (opNe2 (by exact hr.units)) (by exact (me_rd (pv 0))) me_str (nomark _))) (by exact (me_bm PySem.F.plainAttrs_str PySem.F.slot_str_split PySem.F.type_str_split mSplit (by exact (me_rd (pv 0))) (by exact ma_cons me_str ma_nil))) (by exact (me_tl ma_nil)))) ma_nil)) (pg_tp (by rfl) (pgs_c (by exact sc__law_read_run.nd) (i := 1) (by rfl) (by first | exact .inl rfl | exact .inr rfl) (pgs_c (by exact sc__law_read_run.nd) (i := 5) (by rfl) (by first | exact .inl rfl | exact .inr rfl) pgs_0))) (mss_cons (by exact (ms_set (i := 6) (by exact sc__law_read_run.nd) (by rfl) (by first | exact .inl rfl | exact .inr rfl) (by exact (me_bm PySem.F.plainAttrs_str PySem.F.slot_str_split PySem.F.type_str_split mSplit (by exact (me_rd (pv 5))) (by exact ma_cons me_str ma_nil)))))
  (mss_cons (by exact (ms_set (i := 2) (by exact sc__law_read_run.nd) (by rfl) (by first | exact .inl rfl | exact .inr rfl) (by exact (mcl  (ok__law_numbers hP hC hX hG) hr (by rfl) (g__law_numbers hP hC hX hG) (by exact tkD) (by exact ma_cons (by exact (me_slice (by exact (me_rd (pv 6))) (mo_some me_int) mo_none)) (by exact ma_cons (by exact (me_bin opPow me_int me_int)) ma_nil))))))
  (mss_cons (by exact (ms_set (i := 3) (by exact sc__law_read_run.nd) (by rfl) (by first | exact .inl rfl | exact .inr rfl) (by exact (me_bin opAdd (by exact (me_tup (by exact ma_cons (by exact (me_ix ixOk (by exact (me_rd (pv 6))) me_int (by intro _ _; rfl))) ma_nil))) (by exact (me_if (by exact (mt_cmp opIs (by exact (me_rd (pv 2))) me_non (nomark _))) (by exact (me_tup ma_nil)) (by exact (me_rd (pv 2)))))))))
  (mss_cons (by exact (ms_if (by exact (mt_not (by exact (mt_val (by exact (mcl  (ok__law_is_deed hP hC hX hG) hr (by rfl) (g__law_is_deed hP hC hX hG) (by exact tkD) (by exact ma_cons (by exact (me_rd (pv 3))) ma_nil))))))) (mss_one (by exact (ms_ret (by exact (me_tup (by exact ma_cons me_str (by exact ma_cons (by exact (me_bin opAdd (by exact (me_rd (pv 1))) me_int)) ma_nil))))))) mss_nil))
  (mss_one (by exact (ms_expr (by exact (me_bm PySem.F.plainAttrs_list PySem.F.slot_list_append PySem.F.type_list_append mAppend (by exact (me_rd (pv 4))) (by exact ma_cons (by exact (me_rd (pv 3))) ma_nil))))))))))))
  (mss_one (by exact (ms_ret (by exact (me_tup (by exact ma_cons me_str (by exact ma_cons (by exact (me_callTy bTup (by rfl) (fr_tuple hP hC hX hG) (by decide +kernel) (by exact ma_cons (by exact (me_rd (pv 4))) ma_nil))) ma_nil))))))))))
theorem sc__law_run_drawn : FnScope ["_law_hand_here", "_law_many", "_law_found", "_law_one", "_law_other", "_law_pair", "_law_some_here", "_law_turn"] ["_law_hand_here", "_law_many"] (defScope (top 23)) := ⟨rfl, rfl, rfl, by decide +kernel, rfl, by decide +kernel, by decide +kernel⟩
def b__law_run_drawn : MS := (seqS (bndS (bnd (ret []) fun ds => newL ds) (setS 2))
  (seqS (bndS (bnd (bnd (bnd (bnd (rd 0) fun d => bnd (bnd (bnd (rd 1) fun x => bnd (ret (.int 1)) fun y => lo (addD x y)) fun d => bnd (ret []) fun ds => ret (d :: ds)) fun ds => ret (d :: ds)) (callM 2 f__law_draw)) fun d => bnd (ret []) fun ds => ret (d :: ds)) fun ds => lo (toRng1 ds)) (forS (.nm 7) (seqS (bndS (bnd (bnd (rd 0) fun d => bnd (bnd (bnd (bnd (rd 0) fun d => bnd (bnd (bnd (bnd (ret (.int 3)) fun d => bnd (bnd (ret (.int 12)) fun d => bnd (bnd (bnd (bnd (ret (.int 10)) fun x => bnd (ret (.int 9)) fun y => lo (powD x y)) fun x => bnd (ret (.int 4)) fun y => lo (subD x y)) fun d => bnd (ret []) fun ds => ret (d :: ds)) fun ds => ret (d :: ds)) fun ds => ret (d :: ds)) fun ds => lo (mkL ds)) fun d => bnd (ret []) fun ds => ret (d :: ds)) fun ds => ret (d :: ds)) (callM 2 f__law_some)) fun d => bnd (ret []) fun ds => ret (d :: ds)) fun ds => ret (d :: ds)) (callM 2 f__law_draw)) (setS 3))
  (seqS (bndS (bnd (bnd (rd 3) fun x => bnd (ret (.int 1)) fun y => lo (addD x y)) fun x => bnd (bnd (bnd (rd 0) fun d => bnd (bnd (ret (.int 3)) fun d => bnd (ret []) fun ds => ret (d :: ds)) fun ds => ret (d :: ds)) (callM 2 f__law_draw)) fun y => lo (addD x y)) (setS 4))
  (seqS (bndS (bnd (bnd (rd 0) fun d => bnd (bnd (bnd (bnd (bnd (bnd (rd 3) fun d => bnd (bnd (rd 4) fun d => bnd (ret []) fun ds => ret (d :: ds)) fun ds => ret (d :: ds)) fun ds => lo (mkT ds)) fun d => bnd (bnd (bnd (bnd (rd 4) fun d => bnd (bnd (rd 3) fun d => bnd (ret []) fun ds => ret (d :: ds)) fun ds => ret (d :: ds)) fun ds => lo (mkT ds)) fun d => bnd (ret []) fun ds => ret (d :: ds)) fun ds => ret (d :: ds)) fun ds => lo (mkL ds)) fun d => bnd (ret []) fun ds => ret (d :: ds)) fun ds => ret (d :: ds)) (callM 2 f__law_some)) (setS 5))
  (seqS (bndS (bnd (bnd (bnd (bnd (ret (.str "change")) fun d => bnd (bnd (rd 3) fun d => bnd (ret []) fun ds => ret (d :: ds)) fun ds => ret (d :: ds)) fun ds => lo (mkT ds)) fun d => bnd (bnd (bnd (bnd (ret (.str "fork")) fun d => bnd (bnd (rd 3) fun d => bnd (ret []) fun ds => ret (d :: ds)) fun ds => ret (d :: ds)) fun ds => lo (mkT ds)) fun d => bnd (bnd (bnd (bnd (ret (.str "lose")) fun d => bnd (bnd (rd 3) fun d => bnd (ret []) fun ds => ret (d :: ds)) fun ds => ret (d :: ds)) fun ds => lo (mkT ds)) fun d => bnd (bnd (bnd (bnd (ret (.str "join")) fun d => bnd (bnd (bnd (rd 5) fun x => bnd (ret (.int 0)) fun y => lo (ixD x y)) fun d => bnd (bnd (bnd (rd 5) fun x => bnd (ret (.int 1)) fun y => lo (ixD x y)) fun d => bnd (ret []) fun ds => ret (d :: ds)) fun ds => ret (d :: ds)) fun ds => ret (d :: ds)) fun ds => lo (mkT ds)) fun d => bnd (ret []) fun ds => ret (d :: ds)) fun ds => ret (d :: ds)) fun ds => ret (d :: ds)) fun ds => ret (d :: ds)) fun ds => lo (mkL ds)) (setS 6))
  (bndS (bnd (rd 2) fun x => chk (tyOk "list" x) (bnd (bnd (bnd (bnd (rd 0) fun d => bnd (bnd (rd 6) fun d => bnd (ret []) fun ds => ret (d :: ds)) fun ds => ret (d :: ds)) (callM 2 f__law_some)) fun d => bnd (ret []) fun ds => ret (d :: ds)) fun ds => lof (appendF x ds))) fun _ => nxtS)))))))
  (bndS (bnd (bnd (rd 2) fun d => bnd (ret []) fun ds => ret (d :: ds)) fun ds => lo (tupF ds)) retS)))
def f__law_run_drawn : FM := trim 1 (runF 8 b__law_run_drawn)
theorem ok__law_run_drawn (hP : P = hd.P) (hC : hd.says K) (hX : K.In h) (hG : h.Ns mainGlobals mg) : OkF P w K mg base 3 (He.ga K "_law_run_drawn") ["_law_hand_here", "_law_many"] f__law_run_drawn := OkF.trim 1 <| okF_of (N := ["_law_hand_here", "_law_many", "_law_found", "_law_one", "_law_other", "_law_pair", "_law_some_here", "_law_turn"]) (ps := ["_law_hand_here", "_law_many"]) (k := 2) (b := b__law_run_drawn) (Hd.def_ hC 11 (d := d__law_run_drawn) rfl) sc__law_run_drawn (fun fd F => FunD.bindsA F fun _ _ _ _ _ _ us hl => match us, hl with | [_, _], _ => rfl) fun cdv A outer s H E hr =>
  (mss_cons (by exact (ms_set (i := 2) (by exact sc__law_run_drawn.nd) (by rfl) (by first | exact .inl rfl | exact .inr rfl) (by exact (me_lst ma_nil))))
  (mss_cons (by exact (ms_for (t := (.nm 7)) (by exact poD) (by rfl) (mi_rng1 (by rfl) (fr_range hP hC hX hG) (by exact ma_cons (by exact (mcl  (ok__law_draw hP hC hX hG) hr (by rfl) (g__law_draw hP hC hX hG) (by exact tkD) (by exact ma_cons (by exact (me_rd (pv 0))) (by exact ma_cons (by exact (me_bin opAdd (by exact (me_rd (pv 1))) me_int)) ma_nil)))) ma_nil)) (pg_nm (by exact sc__law_run_drawn.nd) (i := 7) (by rfl) (by first | exact .inl rfl | exact .inr rfl)) (mss_cons (by exact (ms_set (i := 3) (by exact sc__law_run_drawn.nd) (by rfl) (by first | exact .inl rfl | exact .inr rfl) (by exact (mcl  (ok__law_draw hP hC hX hG) hr (by rfl) (g__law_draw hP hC hX hG) (by exact tkD) (by exact ma_cons (by exact (me_rd (pv 0))) (by exact ma_cons (by exact (mcl  (ok__law_some hP hC hX hG) hr (by rfl) (g__law_some hP hC hX hG) (by exact tkD) (by exact ma_cons (by exact (me_rd (pv 0))) (by exact ma_cons (by exact (me_tl (by exact ma_cons me_int (by exact ma_cons me_int (by exact ma_cons (by exact (me_bin opSub (by exact (me_bin opPow me_int me_int)) me_int)) ma_nil))))) ma_nil)))) ma_nil))))))
  (mss_cons (by exact (ms_set (i := 4) (by exact sc__law_run_drawn.nd) (by rfl) (by first | exact .inl rfl | exact .inr rfl) (by exact (me_bin opAdd (by exact (me_bin opAdd (by exact (me_rd (pv 3))) me_int)) (by exact (mcl  (ok__law_draw hP hC hX hG) hr (by rfl) (g__law_draw hP hC hX hG) (by exact tkD) (by exact ma_cons (by exact (me_rd (pv 0))) (by exact ma_cons me_int ma_nil))))))))
  (mss_cons (by exact (ms_set (i := 5) (by exact sc__law_run_drawn.nd) (by rfl) (by first | exact .inl rfl | exact .inr rfl) (by exact (mcl  (ok__law_some hP hC hX hG) hr (by rfl) (g__law_some hP hC hX hG) (by exact tkD) (by exact ma_cons (by exact (me_rd (pv 0))) (by exact ma_cons (by exact (me_tl (by exact ma_cons (by exact (me_tup (by exact ma_cons (by exact (me_rd (pv 3))) (by exact ma_cons (by exact (me_rd (pv 4))) ma_nil)))) (by exact ma_cons (by exact (me_tup (by exact ma_cons (by exact (me_rd (pv 4))) (by exact ma_cons (by exact (me_rd (pv 3))) ma_nil)))) ma_nil)))) ma_nil))))))
  (mss_cons (by exact (ms_set (i := 6) (by exact sc__law_run_drawn.nd) (by rfl) (by first | exact .inl rfl | exact .inr rfl) (by exact (me_tl (by exact ma_cons (by exact (me_tup (by exact ma_cons me_str (by exact ma_cons (by exact (me_rd (pv 3))) ma_nil)))) (by exact ma_cons (by exact (me_tup (by exact ma_cons me_str (by exact ma_cons (by exact (me_rd (pv 3))) ma_nil)))) (by exact ma_cons (by exact (me_tup (by exact ma_cons me_str (by exact ma_cons (by exact (me_rd (pv 3))) ma_nil)))) (by exact ma_cons (by exact (me_tup (by exact ma_cons me_str (by exact ma_cons (by exact (me_ix ixOk (by exact (me_rd (pv 5))) me_int (by intro _ _; rfl))) (by exact ma_cons (by exact (me_ix ixOk (by exact (me_rd (pv 5))) me_int (by intro _ _; rfl))) ma_nil))))) ma_nil))))))))
  (mss_one (by exact (ms_expr (by exact (me_bm PySem.F.plainAttrs_list PySem.F.slot_list_append PySem.F.type_list_append mAppend (by exact (me_rd (pv 2))) (by exact ma_cons (by exact (mcl  (ok__law_some hP hC hX hG) hr (by rfl) (g__law_some hP hC hX hG) (by exact tkD) (by exact ma_cons (by exact (me_rd (pv 0))) (by exact ma_cons (by exact (me_rd (pv 6))) ma_nil)))) ma_nil))))))))))))
  (mss_one (by exact (ms_ret (by exact (me_callTy bTup (by rfl) (fr_tuple hP hC hX hG) (by decide +kernel) (by exact ma_cons (by exact (me_rd (pv 2))) ma_nil))))))))
theorem sc__law_run_text : FnScope ["_law_run", "_law_deed", "_law_copy"] ["_law_run"] (defScope (top 24)) := ⟨rfl, rfl, rfl, by decide +kernel, rfl, by decide +kernel, by decide +kernel⟩
def b__law_run_text : MS := (bndS (bnd (ret (.str "\n")) fun x => chk (tyOk "str" x) (bnd (bnd (bnd (bnd (rd 0) fun d => lo (toSrcA d)) (compD false (.nm 1) yes (bnd (ret (.str " ")) fun x => chk (tyOk "str" x) (bnd (bnd (bnd (bnd (bnd (bnd (rd 1) fun x => bnd (ret (.int 0)) fun y => lo (ixD x y)) fun d => bnd (ret []) fun ds => ret (d :: ds)) fun ds => lo (mkL ds)) fun x => bnd (bnd (bnd (bnd (rd 1) fun x => bnd (bnd (ret (.int 1)) fun d => lo (toI d)) fun l => bnd (ret none) fun u => lo (slD x l u)) fun d => lo (toSrcA d)) (compD false (.nm 2) yes (bnd (bnd (rd 2) fun d => bnd (ret []) fun ds => ret (d :: ds)) fun ds => lo (strF2 ds)) [2])) fun y => lo (addD x y)) fun d => bnd (ret []) fun ds => ret (d :: ds)) fun ds => lof (joinF x ds))) [1])) fun d => bnd (ret []) fun ds => ret (d :: ds)) fun ds => lof (joinF x ds))) retS)
def f__law_run_text : FM := (runF 3 b__law_run_text)
theorem ok__law_run_text (hP : P = hd.P) (hC : hd.says K) (hX : K.In h) (hG : h.Ns mainGlobals mg) : OkF P w K mg base 1 (He.ga K "_law_run_text") ["_law_run"] f__law_run_text := okF_of (N := ["_law_run", "_law_deed", "_law_copy"]) (ps := ["_law_run"]) (k := 0) (b := b__law_run_text) (Hd.def_ hC 12 (d := d__law_run_text) rfl) sc__law_run_text (fun fd F => FunD.bindsA F fun _ _ _ _ _ _ us hl => match us, hl with | [_], _ => rfl) fun cdv A outer s H E hr =>
  (mss_one (by exact (ms_ret (by exact (me_bm PySem.F.plainAttrs_str PySem.F.slot_str_join PySem.F.type_str_join mJoin me_str (by exact ma_cons (by exact (me_comp (ob := false) (own := [("_law_deed", 1)]) (by rfl) (by exact sc__law_run_text.nd) (mi_any (by exact (me_rd (pv 0)))) (by exact blk_of (by rfl)) (fun _ _ _ _ _ => (pg_nm (by exact sc__law_run_text.nd) (i := 1) (by rfl) (by first | exact .inl rfl | exact .inr rfl))) (fun _ _ _ _ _ => mts_nil) (fun _ _ _ _ _ => (by exact (me_bm PySem.F.plainAttrs_str PySem.F.slot_str_join PySem.F.type_str_join mJoin me_str (by exact ma_cons (by exact (me_bin opAdd (by exact (me_tl (by exact ma_cons (by exact (me_ix ixOk (by exact (me_rd (pv 1))) me_int (by intro _ _; rfl))) ma_nil))) (by exact (me_comp (ob := false) (own := [("_law_copy", 2)]) (by rfl) (by exact sc__law_run_text.nd) (mi_any (by exact (me_slice (by exact (me_rd (pv 1))) (mo_some me_int) mo_none))) (by exact blk_of (by rfl)) (fun _ _ _ _ _ => (pg_nm (by exact sc__law_run_text.nd) (i := 2) (by rfl) (by first | exact .inl rfl | exact .inr rfl))) (fun _ _ _ _ _ => mts_nil) (fun _ _ _ _ _ => (by exact (me_callTy bStr2 (by rfl) (fr_str hP hC hX hG) (by decide +kernel) (by exact ma_cons (by exact (me_rd (pv 2))) ma_nil)))))))) ma_nil)))))) ma_nil))))))
theorem sc_is_integer : FnScope ["thing"] ["thing"] (defScope (top 5)) := ⟨rfl, rfl, rfl, by decide +kernel, rfl, by decide +kernel, by decide +kernel⟩
def b_is_integer : MS := (bndS (bnd (bnd (bnd (rd 0) fun d => bnd (bnd (ret (.ty "int")) fun d => bnd (ret []) fun ds => ret (d :: ds)) fun ds => ret (d :: ds)) fun ds => lo ((isiF2 TT.tf) ds)) fun x => bnd (lo (tb x)) fun k => if k = true then (bnd (bnd (bnd (rd 0) fun d => bnd (bnd (ret (.ty "bool")) fun d => bnd (ret []) fun ds => ret (d :: ds)) fun ds => ret (d :: ds)) fun ds => lo ((isiF2 TT.tf) ds)) fun x => bnd (lo (tb x)) fun k => ret (.bl (!k))) else ret (.bl false)) retS)
def f_is_integer : FM := (runF 1 b_is_integer)
theorem ok_is_integer (hP : P = hd.P) (hC : hd.says K) (hX : K.In h) (hG : h.Ns mainGlobals mg) : OkF P w K mg base 1 (He.ga K "is_integer") ["thing"] f_is_integer := okF_of (N := ["thing"]) (ps := ["thing"]) (k := 0) (b := b_is_integer) (Hd.def_ hC 13 (d := d_is_integer) rfl) sc_is_integer (fun fd F => FunD.bindsA F fun _ _ _ _ _ _ us hl => match us, hl with | [_], _ => rfl) fun cdv A outer s H E hr =>
  (mss_one (by exact (ms_ret (by exact (me_and (by exact (me_callB (bIsiT2 (T := TT.tf) (by exact ⟨(FX hC).toPF, rfl⟩)) (by rfl) (fr_isinstance hP hC hX hG) (by decide +kernel) (by exact ma_cons (by exact (me_rd (pv 0))) (by exact ma_cons (by exact (me_bty (by rfl) (fr_int hP hC hX hG) (by decide +kernel))) ma_nil)))) (me_one (by exact (me_not (by exact (me_callB (bIsiT2 (T := TT.tf) (by exact ⟨(FX hC).toPF, rfl⟩)) (by rfl) (fr_isinstance hP hC hX hG) (by decide +kernel) (by exact ma_cons (by exact (me_rd (pv 0))) (by exact ma_cons (by exact (me_bty (by rfl) (fr_bool hP hC hX hG) (by decide +kernel))) ma_nil))))))))))))
theorem sc_is_deed : FnScope ["thing", "copy"] ["thing"] (defScope (top 7)) := ⟨rfl, rfl, rfl, by decide +kernel, rfl, by decide +kernel, by decide +kernel⟩
def b_is_deed : MS := (seqS (bndS (bnd (bnd (bnd (bnd (bnd (rd 0) fun d => bnd (bnd (ret (.ty "tuple")) fun d => bnd (ret []) fun ds => ret (d :: ds)) fun ds => ret (d :: ds)) fun ds => lo ((isiF2 TT.tf) ds)) fun d => lo (tb d)) fun k => ret (!k)) fun k => if k = true then ret true else (bnd (bnd (bnd (bnd (rd 0) fun d => bnd (ret []) fun ds => ret (d :: ds)) fun ds => lo (lenF ds)) fun x => bnd (ret (.int 2)) fun y => bnd (lo (ltD x y)) fun d => lo (tb d)) fun k => if k = true then ret true else (bnd (bnd (bnd (bnd (bnd (rd 0) fun x => bnd (ret (.int 0)) fun y => lo (ixD x y)) fun d => bnd (bnd (ret (.ty "str")) fun d => bnd (ret []) fun ds => ret (d :: ds)) fun ds => ret (d :: ds)) fun ds => lo ((isiF2 TT.tf) ds)) fun d => lo (tb d)) fun k => ret (!k)))) fun x => if x = true then (bndS (ret (.bl false)) retS) else nxtS)
  (seqS (bndS (bnd (bnd (bnd (bnd (bnd (bnd (bnd (rd 0) fun x => bnd (bnd (ret (.int 1)) fun d => lo (toI d)) fun l => bnd (ret none) fun u => lo (slD x l u)) fun d => lo (toSrcA d)) (compD false (.nm 1) yes (bnd (bnd (bnd (rd 1) fun d => bnd (ret []) fun ds => ret (d :: ds)) (callM 1 f_is_integer)) fun x => bnd (lo (tb x)) fun k => if k = true then (bnd (rd 1) fun x => bnd (ret (.int 0)) fun y => lo (geD x y)) else ret (.bl false)) [1])) fun d => bnd (ret []) fun ds => ret (d :: ds)) fun ds => lo (allF ds)) fun d => lo (tb d)) fun k => ret (!k)) fun x => if x = true then (bndS (ret (.bl false)) retS) else nxtS)
  (seqS (bndS (bnd (bnd (rd 0) fun x => bnd (ret (.int 0)) fun y => lo (ixD x y)) fun x => bnd (ret (.str "join")) fun y => bnd (lo (eqD2 x y)) fun d => lo (tb d)) fun x => if x = true then (bndS (bnd (bnd (bnd (bnd (rd 0) fun d => bnd (ret []) fun ds => ret (d :: ds)) fun ds => lo (lenF ds)) fun x => bnd (ret (.int 3)) fun y => lo (eqD2 x y)) fun x => bnd (lo (tb x)) fun k => if k = true then (bnd (bnd (rd 0) fun x => bnd (ret (.int 1)) fun y => lo (ixD x y)) fun x => bnd (bnd (rd 0) fun x => bnd (ret (.int 2)) fun y => lo (ixD x y)) fun y => lo (neD2 x y)) else ret (.bl false)) retS) else nxtS)
  (bndS (bnd (bnd (bnd (rd 0) fun x => bnd (ret (.int 0)) fun y => lo (ixD x y)) fun x => bnd (bnd (bnd (ret (.str "change")) fun d => bnd (bnd (ret (.str "fork")) fun d => bnd (bnd (ret (.str "lose")) fun d => bnd (ret []) fun ds => ret (d :: ds)) fun ds => ret (d :: ds)) fun ds => ret (d :: ds)) fun ds => lo (mkT ds)) fun y => lo ((inS false) x y)) fun x => bnd (lo (tb x)) fun k => if k = true then (bnd (bnd (bnd (rd 0) fun d => bnd (ret []) fun ds => ret (d :: ds)) fun ds => lo (lenF ds)) fun x => bnd (ret (.int 2)) fun y => lo (eqD2 x y)) else ret (.bl false)) retS))))
def f_is_deed : FM := (runF 2 b_is_deed)
theorem ok_is_deed (hP : P = hd.P) (hC : hd.says K) (hX : K.In h) (hG : h.Ns mainGlobals mg) : OkF P w K mg base 2 (He.ga K "is_deed") ["thing"] f_is_deed := okF_of (N := ["thing", "copy"]) (ps := ["thing"]) (k := 1) (b := b_is_deed) (Hd.def_ hC 14 (d := d_is_deed) rfl) sc_is_deed (fun fd F => FunD.bindsA F fun _ _ _ _ _ _ us hl => match us, hl with | [_], _ => rfl) fun cdv A outer s H E hr =>
  (mss_cons (by exact (ms_if (by exact (mt_w (mw_or (by exact (mt_not (by exact (mt_val (by exact (me_callB (bIsiT2 (T := TT.tf) (by exact ⟨(FX hC).toPF, rfl⟩)) (by rfl) (fr_isinstance hP hC hX hG) (by decide +kernel) (by exact ma_cons (by exact (me_rd (pv 0))) (by exact ma_cons (by exact (me_bty (by rfl) (fr_tuple hP hC hX hG) (by decide +kernel))) ma_nil)))))))) (mw_or (by exact (mt_cmp opLt (by exact (me_callB bLen (by rfl) (fr_len hP hC hX hG) (by decide +kernel) (by exact ma_cons (by exact (me_rd (pv 0))) ma_nil))) me_int (nomark _))) (mw_or1 (by exact (mt_not (by exact (mt_val (by exact (me_callB (bIsiT2 (T := TT.tf) (by exact ⟨(FX hC).toPF, rfl⟩)) (by rfl) (fr_isinstance hP hC hX hG) (by decide +kernel) (by exact ma_cons (by exact (me_ix ixOk (by exact (me_rd (pv 0))) me_int (by intro _ _; rfl))) (by exact ma_cons (by exact (me_bty (by rfl) (fr_str hP hC hX hG) (by decide +kernel))) ma_nil))))))))))))) (mss_one (by exact (ms_ret me_bl))) mss_nil))
  (mss_cons (by exact (ms_if (by exact (mt_not (by exact (mt_val (by exact (me_callB (bAll (by rfl)) (by rfl) (fr_all hP hC hX hG) (by decide +kernel) (by exact ma_cons (by exact (me_comp (ob := false) (own := [("copy", 1)]) (by rfl) (by exact sc_is_deed.nd) (mi_any (by exact (me_slice (by exact (me_rd (pv 0))) (mo_some me_int) mo_none))) (by exact blk_of (by rfl)) (fun _ _ _ _ _ => (pg_nm (by exact sc_is_deed.nd) (i := 1) (by rfl) (by first | exact .inl rfl | exact .inr rfl))) (fun _ _ _ _ _ => mts_nil) (fun _ _ _ _ _ => (by exact (me_and (by exact (mcl  (ok_is_integer hP hC hX hG) hr (by rfl) (g_is_integer hP hC hX hG) (by exact tk0) (by exact ma_cons (by exact (me_rd (pv 1))) ma_nil))) (me_one (by exact (me_cmp opGe (by exact (me_rd (pv 1))) me_int (nomark _))))))))) ma_nil))))))) (mss_one (by exact (ms_ret me_bl))) mss_nil))
  (mss_cons (by exact (ms_if (by exact (mt_cmp (opEq2 (by exact hr.units)) (by exact (me_ix ixOk (by exact (me_rd (pv 0))) me_int (by intro _ _; rfl))) me_str (nomark _))) (mss_one (by exact (ms_ret (by exact (me_and (by exact (me_cmp (opEq2 (by exact hr.units)) (by exact (me_callB bLen (by rfl) (fr_len hP hC hX hG) (by decide +kernel) (by exact ma_cons (by exact (me_rd (pv 0))) ma_nil))) me_int (nomark _))) (me_one (by exact (me_cmp (opNe2 (by exact hr.units)) (by exact (me_ix ixOk (by exact (me_rd (pv 0))) me_int (by intro _ _; rfl))) (by exact (me_ix ixOk (by exact (me_rd (pv 0))) me_int (by intro _ _; rfl))) (nomark _))))))))) mss_nil))
  (mss_one (by exact (ms_ret (by exact (me_and (by exact (me_cmp opInS (by exact (me_ix ixOk (by exact (me_rd (pv 0))) me_int (by intro _ _; rfl))) (by exact (me_tup (by exact ma_cons me_str (by exact ma_cons me_str (by exact ma_cons me_str ma_nil))))) (by rfl))) (me_one (by exact (me_cmp (opEq2 (by exact hr.units)) (by exact (me_callB bLen (by rfl) (fr_len hP hC hX hG) (by decide +kernel) (by exact ma_cons (by exact (me_rd (pv 0))) ma_nil))) me_int (nomark _))))))))))))
theorem sc_lines_of : FnScope ["text"] ["text"] (defScope (top 13)) := ⟨rfl, rfl, rfl, by decide +kernel, rfl, by decide +kernel, by decide +kernel⟩
def b_lines_of : MS := (seqS (bndS (bnd (bnd (bnd (bnd (rd 0) fun d => bnd (bnd (ret (.ty "str")) fun d => bnd (ret []) fun ds => ret (d :: ds)) fun ds => ret (d :: ds)) fun ds => lo ((isiF2 TT.tf) ds)) fun d => lo (tb d)) fun k => ret (!k)) fun x => if x = true then (rzS "BadText" "line" (bnd (ret (.int 0)) fun d => bnd (ret []) fun ds => ret (d :: ds))) else nxtS)
  (bndS (bnd (rd 0) fun x => chk (tyOk "str" x) (bnd (bnd (ret (.str "\n")) fun d => bnd (ret []) fun ds => ret (d :: ds)) fun ds => lof (splitF x ds))) retS))
def f_lines_of : FM := (runF 1 b_lines_of)
theorem ok_lines_of (hP : P = hd.P) (hC : hd.says K) (hX : K.In h) (hG : h.Ns mainGlobals mg) : OkF P w K mg base 1 (He.ga K "lines_of") ["text"] f_lines_of := okF_of (N := ["text"]) (ps := ["text"]) (k := 0) (b := b_lines_of) (Hd.def_ hC 15 (d := d_lines_of) rfl) sc_lines_of (fun fd F => FunD.bindsA F fun _ _ _ _ _ _ us hl => match us, hl with | [_], _ => rfl) fun cdv A outer s H E hr =>
  (mss_cons (by exact (ms_if (by exact (mt_not (by exact (mt_val (by exact (me_callB (bIsiT2 (T := TT.tf) (by exact ⟨(FX hC).toPF, rfl⟩)) (by rfl) (fr_isinstance hP hC hX hG) (by decide +kernel) (by exact ma_cons (by exact (me_rd (pv 0))) (by exact ma_cons (by exact (me_bty (by rfl) (fr_str hP hC hX hG) (by decide +kernel))) ma_nil)))))))) (mss_one (by exact (ms_raise1 (by rfl) (by exact tkD) (sup_BadText hP hC hX hG) (g_BadText hP hC hX hG) hr (by rfl) (by exact ma_cons me_int ma_nil)))) mss_nil))
  (mss_one (by exact (ms_ret (by exact (me_bm PySem.F.plainAttrs_str PySem.F.slot_str_split PySem.F.type_str_split mSplit (by exact (me_rd (pv 0))) (by exact ma_cons me_str ma_nil)))))))
theorem sc_number_of : FnScope ["word", "sign"] ["word"] (defScope (top 14)) := ⟨rfl, rfl, rfl, by decide +kernel, rfl, by decide +kernel, by decide +kernel⟩
def b_number_of : MS := (seqS (bndS (bnd (bnd (bnd (bnd (ret (.int 1)) fun x => bnd (bnd (bnd (rd 0) fun d => bnd (ret []) fun ds => ret (d :: ds)) fun ds => lo (lenF ds)) fun y => chn leD leD x y (ret (.int 9))) fun d => lo (tb d)) fun k => ret (!k)) fun k => if k = true then ret true else (bnd (bnd (bnd (bnd (bnd (bnd (rd 0) fun d => lo (toSrcA d)) (compD false (.nm 1) yes (bnd (rd 1) fun x => bnd (ret (.str "0123456789")) fun y => lo ((inS false) x y)) [1])) fun d => bnd (ret []) fun ds => ret (d :: ds)) fun ds => lo (allF ds)) fun d => lo (tb d)) fun k => ret (!k))) fun x => if x = true then (bndS (ret .non) retS) else nxtS)
  (seqS (bndS (bnd (bnd (bnd (bnd (rd 0) fun d => bnd (ret []) fun ds => ret (d :: ds)) fun ds => lo (lenF ds)) fun x => bnd (ret (.int 1)) fun y => bnd (lo (gtD x y)) fun d => lo (tb d)) fun k => if k = true then (bnd (bnd (rd 0) fun x => bnd (ret (.int 0)) fun y => lo (ixD x y)) fun x => bnd (ret (.str "0")) fun y => bnd (lo (eqD2 x y)) fun d => lo (tb d)) else ret false) fun x => if x = true then (bndS (ret .non) retS) else nxtS)
  (bndS (bnd (bnd (rd 0) fun d => bnd (ret []) fun ds => ret (d :: ds)) fun ds => lo (intF2 ds)) retS)))
def f_number_of : FM := (runF 2 b_number_of)
theorem ok_number_of (hP : P = hd.P) (hC : hd.says K) (hX : K.In h) (hG : h.Ns mainGlobals mg) : OkF P w K mg base 1 (He.ga K "number_of") ["word"] f_number_of := okF_of (N := ["word", "sign"]) (ps := ["word"]) (k := 0) (b := b_number_of) (Hd.def_ hC 16 (d := d_number_of) rfl) sc_number_of (fun fd F => FunD.bindsA F fun _ _ _ _ _ _ us hl => match us, hl with | [_], _ => rfl) fun cdv A outer s H E hr =>
  (mss_cons (by exact (ms_if (by exact (mt_w (mw_or (by exact (mt_not (by exact (mt_chain opLe opLe me_int (by exact (me_callB bLen (by rfl) (fr_len hP hC hX hG) (by decide +kernel) (by exact ma_cons (by exact (me_rd (pv 0))) ma_nil))) (by exact (me_gint (by rfl) (g_MOST_FIGURES hP hC hX hG))))))) (mw_or1 (by exact (mt_not (by exact (mt_val (by exact (me_callB (bAll (by rfl)) (by rfl) (fr_all hP hC hX hG) (by decide +kernel) (by exact ma_cons (by exact (me_comp (ob := false) (own := [("sign", 1)]) (by rfl) (by exact sc_number_of.nd) (mi_any (by exact (me_rd (pv 0)))) (by exact blk_of (by rfl)) (fun _ _ _ _ _ => (pg_nm (by exact sc_number_of.nd) (i := 1) (by rfl) (by first | exact .inl rfl | exact .inr rfl))) (fun _ _ _ _ _ => mts_nil) (fun _ _ _ _ _ => (by exact (me_cmp opInS (by exact (me_rd (pv 1))) (by exact (me_gstr (by rfl) (g_FIGURES hP hC hX hG))) (by rfl)))))) ma_nil))))))))))) (mss_one (by exact (ms_ret me_non))) mss_nil))
  (mss_cons (by exact (ms_if (by exact (mt_w (mw_and (by exact (mt_cmp opGt (by exact (me_callB bLen (by rfl) (fr_len hP hC hX hG) (by decide +kernel) (by exact ma_cons (by exact (me_rd (pv 0))) ma_nil))) me_int (nomark _))) (mw_and1 (by exact (mt_cmp (opEq2 (by exact hr.units)) (by exact (me_ix ixOk (by exact (me_rd (pv 0))) me_int (by intro _ _; rfl))) me_str (nomark _))))))) (mss_one (by exact (ms_ret me_non))) mss_nil))
  (mss_one (by exact (ms_ret (by exact (me_callTy bInt2 (by rfl) (fr_int hP hC hX hG) (by decide +kernel) (by exact ma_cons (by exact (me_rd (pv 0))) ma_nil))))))))
theorem sc_read_run : FnScope ["text", "at", "deed", "found", "line", "lines", "words", "word"] ["text"] (defScope (top 15)) := ⟨rfl, rfl, rfl, by decide +kernel, rfl, by decide +kernel, by decide +kernel⟩
def b_read_run : MS := (seqS (bndS (bnd (bnd (rd 0) fun d => bnd (ret []) fun ds => ret (d :: ds)) (callM 1 f_lines_of)) (setS 5))
  (seqS (bndS (bnd (rd 0) fun x => bnd (ret (.str "")) fun y => bnd (lo (eqD2 x y)) fun d => lo (tb d)) fun x => if x = true then (bndS (bnd (ret []) fun ds => lo (mkT ds)) retS) else nxtS)
  (seqS (bndS (bnd (ret []) fun ds => newL ds) (setS 3))
  (seqS (bndS (bnd (bnd (rd 5) fun d => bnd (ret []) fun ds => ret (d :: ds)) fun ds => lo (toEnm ds)) (forS (.tp [1, 4]) (seqS (bndS (bnd (rd 4) fun x => chk (tyOk "str" x) (bnd (bnd (ret (.str " ")) fun d => bnd (ret []) fun ds => ret (d :: ds)) fun ds => lof (splitF x ds))) (setS 6))
  (seqS (bndS (bnd (bnd (bnd (bnd (rd 6) fun x => bnd (ret (.int 0)) fun y => lo (ixD x y)) fun d => bnd (ret []) fun ds => ret (d :: ds)) fun ds => lo (mkT ds)) fun x => bnd (bnd (bnd (bnd (bnd (bnd (rd 6) fun x => bnd (bnd (ret (.int 1)) fun d => lo (toI d)) fun l => bnd (ret none) fun u => lo (slD x l u)) fun d => lo (toSrcA d)) (compD false (.nm 7) yes (bnd (bnd (rd 7) fun d => bnd (ret []) fun ds => ret (d :: ds)) (callM 1 f_number_of)) [7])) fun d => bnd (ret []) fun ds => ret (d :: ds)) fun ds => lo (tupF ds)) fun y => lo (addD x y)) (setS 2))
  (seqS (bndS (bnd (bnd (bnd (bnd (rd 2) fun d => bnd (ret []) fun ds => ret (d :: ds)) (callM 1 f_is_deed)) fun d => lo (tb d)) fun k => ret (!k)) fun x => if x = true then (rzS "BadText" "line" (bnd (bnd (rd 1) fun x => bnd (ret (.int 1)) fun y => lo (addD x y)) fun d => bnd (ret []) fun ds => ret (d :: ds))) else nxtS)
  (bndS (bnd (rd 3) fun x => chk (tyOk "list" x) (bnd (bnd (rd 2) fun d => bnd (ret []) fun ds => ret (d :: ds)) fun ds => lof (appendF x ds))) fun _ => nxtS))))))
  (bndS (bnd (bnd (rd 3) fun d => bnd (ret []) fun ds => ret (d :: ds)) fun ds => lo (tupF ds)) retS)))))
def f_read_run : FM := trim 1 (runF 8 b_read_run)
theorem ok_read_run (hP : P = hd.P) (hC : hd.says K) (hX : K.In h) (hG : h.Ns mainGlobals mg) : OkF P w K mg base 3 (He.ga K "read_run") ["text"] f_read_run := OkF.trim 1 <| okF_of (N := ["text", "at", "deed", "found", "line", "lines", "words", "word"]) (ps := ["text"]) (k := 2) (b := b_read_run) (Hd.def_ hC 17 (d := d_read_run) rfl) sc_read_run (fun fd F => FunD.bindsA F fun _ _ _ _ _ _ us hl => match us, hl with | [_], _ => rfl) fun cdv A outer s H E hr =>
  (mss_cons (by exact (ms_set (i := 5) (by exact sc_read_run.nd) (by rfl) (by first | exact .inl rfl | exact .inr rfl) (by exact (mcl  (ok_lines_of hP hC hX hG) hr (by rfl) (g_lines_of hP hC hX hG) (by exact tkD) (by exact ma_cons (by exact (me_rd (pv 0))) ma_nil)))))
  (mss_cons (by exact (ms_if (by exact (mt_cmp (opEq2 (by exact hr.units)) (by exact (me_rd (pv 0))) me_str (nomark _))) (mss_one (by exact (ms_ret (by exact (me_tup ma_nil))))) mss_nil))
  (mss_cons (by exact (ms_set (i := 3) (by exact sc_read_run.nd) (by rfl) (by first | exact .inl rfl | exact .inr rfl) (by exact (me_lst ma_nil))))
  (mss_cons (by exact (ms_for (t := (.tp [1, 4])) (by exact poD) (by rfl) (mi_enum (by rfl) (fr_enumerate hP hC hX hG) (by exact ma_cons (by exact (me_rd (pv 5))) ma_nil)) (pg_tp (by rfl) (pgs_c (by exact sc_read_run.nd) (i := 1) (by rfl) (by first | exact .inl rfl | exact .inr rfl) (pgs_c (by exact sc_read_run.nd) (i := 4) (by rfl) (by first | exact .inl rfl | exact .inr rfl) pgs_0))) (mss_cons (by exact (ms_set (i := 6) (by exact sc_read_run.nd) (by rfl) (by first | exact .inl rfl | exact .inr rfl) (by exact (me_bm PySem.F.plainAttrs_str PySem.F.slot_str_split PySem.F.type_str_split mSplit (by exact (me_rd (pv 4))) (by exact ma_cons me_str ma_nil)))))
  (mss_cons (by exact (ms_set (i := 2) (by exact sc_read_run.nd) (by rfl) (by first | exact .inl rfl | exact .inr rfl) (by exact (me_bin opAdd (by exact (me_tup (by exact ma_cons (by exact (me_ix ixOk (by exact (me_rd (pv 6))) me_int (by intro _ _; rfl))) ma_nil))) (by exact (me_callTy bTup (by rfl) (fr_tuple hP hC hX hG) (by decide +kernel) (by exact ma_cons (by exact (me_comp (ob := false) (own := [("word", 7)]) (by rfl) (by exact sc_read_run.nd) (mi_any (by exact (me_slice (by exact (me_rd (pv 6))) (mo_some me_int) mo_none))) (by exact blk_of (by rfl)) (fun _ _ _ _ _ => (pg_nm (by exact sc_read_run.nd) (i := 7) (by rfl) (by first | exact .inl rfl | exact .inr rfl))) (fun _ _ _ _ _ => mts_nil) (fun _ _ _ _ _ => (by exact (mcl  (ok_number_of hP hC hX hG) hr (by rfl) (g_number_of hP hC hX hG) (by exact tk0) (by exact ma_cons (by exact (me_rd (pv 7))) ma_nil)))))) ma_nil)))))))
  (mss_cons (by exact (ms_if (by exact (mt_not (by exact (mt_val (by exact (mcl  (ok_is_deed hP hC hX hG) hr (by rfl) (g_is_deed hP hC hX hG) (by exact tkD) (by exact ma_cons (by exact (me_rd (pv 2))) ma_nil))))))) (mss_one (by exact (ms_raise1 (by rfl) (by exact tkD) (sup_BadText hP hC hX hG) (g_BadText hP hC hX hG) hr (by rfl) (by exact ma_cons (by exact (me_bin opAdd (by exact (me_rd (pv 1))) me_int)) ma_nil)))) mss_nil))
  (mss_one (by exact (ms_expr (by exact (me_bm PySem.F.plainAttrs_list PySem.F.slot_list_append PySem.F.type_list_append mAppend (by exact (me_rd (pv 3))) (by exact ma_cons (by exact (me_rd (pv 2))) ma_nil)))))))))))
  (mss_one (by exact (ms_ret (by exact (me_callTy bTup (by rfl) (fr_tuple hP hC hX hG) (by decide +kernel) (by exact ma_cons (by exact (me_rd (pv 3))) ma_nil))))))))))
theorem sc__law_told : FnScope ["_law_text", "_law_found", "e"] ["_law_text"] (defScope (top 28)) := ⟨rfl, rfl, rfl, by decide +kernel, rfl, by decide +kernel, by decide +kernel⟩
def b__law_told : MS := (seqS (bndS (bnd (bnd (ret (.str "other")) fun d => bnd (bnd (ret .non) fun d => bnd (ret []) fun ds => ret (d :: ds)) fun ds => ret (d :: ds)) fun ds => lo (mkT ds)) (setS 1))
  (seqS (tryS (TT.emF (.inr "CopyError")) 2 (bndS (bnd (bnd (ret (.str "told")) fun d => bnd (bnd (bnd (bnd (rd 0) fun d => bnd (ret []) fun ds => ret (d :: ds)) (callM 1 f_read_run)) fun d => bnd (ret []) fun ds => ret (d :: ds)) fun ds => ret (d :: ds)) fun ds => lo (mkT ds)) (setS 1)) (fun e => (bndS (bnd (bnd (bnd (ret (.glo "BadText")) fun x => lo (isE TT.tf e.c x)) fun d => lo (tb d)) fun k => if k = true then (bnd (bnd (ret (.ty "ValueError")) fun x => lo (isE TT.tf e.c x)) fun d => lo (tb d)) else ret false) fun x => if x = true then (bndS (bnd (bnd (ret (.str "text")) fun d => bnd (bnd (lo (xfE TT.tf e "line")) fun d => bnd (ret []) fun ds => ret (d :: ds)) fun ds => ret (d :: ds)) fun ds => lo (mkT ds)) (setS 1)) else nxtS)))
  (bndS (rd 1) retS)))
def f__law_told : FM := (runF 3 b__law_told)
theorem ok__law_told (hP : P = hd.P) (hC : hd.says K) (hX : K.In h) (hG : h.Ns mainGlobals mg) : OkF P w K mg base 4 (He.ga K "_law_told") ["_law_text"] f__law_told := okF_of (N := ["_law_text", "_law_found", "e"]) (ps := ["_law_text"]) (k := 3) (b := b__law_told) (Hd.def_ hC 18 (d := d__law_told) rfl) sc__law_told (fun fd F => FunD.bindsA F fun _ _ _ _ _ _ us hl => match us, hl with | [_], _ => rfl) fun cdv A outer s H E hr =>
  (mss_cons (by exact (ms_set (i := 1) (by exact sc__law_told.nd) (by rfl) (by first | exact .inl rfl | exact .inr rfl) (by exact (me_tup (by exact ma_cons me_str (by exact ma_cons me_non ma_nil))))))
  (mss_cons (by exact (ms_try_as (i := 2) (by rfl) (by intros; trivial) (by rfl) (by rfl) (by exact sc__law_told.nd) (by rfl) (by rfl) (by exact ⟨rfl, by decide, .inl (g_CopyError hP hC hX hG)⟩) (by exact tkD) (Tab.em_ok (Hd.tok hC)) (fun w pn xe t o => (mss_one (by exact (ms_set (i := 1) (by exact sc__law_told.nd) (by rfl) (by first | exact .inl rfl | exact .inr rfl) (by exact (me_tup (by exact ma_cons me_str (by exact ma_cons (by exact (mcl  (ok_read_run hP hC hX hG) hr (by rfl) (g_read_run hP hC hX hG) (by exact t) (by exact ma_cons (by exact (me_rd (pv 0))) ma_nil))) ma_nil)))))))) (fun a oe cls d pn e hz hd hcl hke => have hkE : ∀ C, TT.emF (.inr "CopyError") C = some true → (FX hC).T.ec C = true := hk_CopyError hC; (mss_one (by exact (ms_if (by exact (mt_w (mw_and (by exact (mt_val (by exact (me_isE (FX hC) hz hd hcl (hkE _ hke) (by rfl) (by first | exact Or.inl rfl | exact Or.inr (Or.inl rfl) | exact Or.inr (Or.inr rfl)) (by rfl) (fr_isinstance hP hC hX hG) (by exact (me_glo (by rfl) (g_BadText hP hC hX hG))))))) (mw_and1 (by exact (mt_val (by exact (me_isE (FX hC) hz hd hcl (hkE _ hke) (by rfl) (by first | exact Or.inl rfl | exact Or.inr (Or.inl rfl) | exact Or.inr (Or.inr rfl)) (by rfl) (fr_isinstance hP hC hX hG) (by exact (me_bty (by rfl) (fr_ValueError hP hC hX hG) (by decide +kernel))))))))))) (mss_one (by exact (ms_set (i := 1) (by exact sc__law_told.nd) (by rfl) (by first | exact .inl rfl | exact .inr rfl) (by exact (me_tup (by exact ma_cons me_str (by exact ma_cons (by exact (me_xfE (FX hC) hz hd hcl (by rfl) (by first | exact Or.inl rfl | exact Or.inr (Or.inl rfl) | exact Or.inr (Or.inr rfl)))) ma_nil)))) (hfx := by intro p hp; cases hp with | head => exact Nat.ne_of_beq_eq_false rfl | tail _ z => cases z)))) mss_nil))))))
  (mss_one (by exact (ms_ret (by exact (me_rd (pv 1))))))))
theorem sc_is_run : FnScope ["thing", "deed"] ["thing"] (defScope (top 8)) := ⟨rfl, rfl, rfl, by decide +kernel, rfl, by decide +kernel, by decide +kernel⟩
def b_is_run : MS := (bndS (bnd (bnd (bnd (rd 0) fun d => bnd (bnd (ret (.ty "tuple")) fun d => bnd (ret []) fun ds => ret (d :: ds)) fun ds => ret (d :: ds)) fun ds => lo ((isiF2 TT.tf) ds)) fun x => bnd (lo (tb x)) fun k => if k = true then (bnd (bnd (bnd (bnd (rd 0) fun d => lo (toSrcA d)) (compD false (.nm 1) yes (bnd (bnd (rd 1) fun d => bnd (ret []) fun ds => ret (d :: ds)) (callM 1 f_is_deed)) [1])) fun d => bnd (ret []) fun ds => ret (d :: ds)) fun ds => lo (allF ds)) else ret (.bl false)) retS)
def f_is_run : FM := (runF 2 b_is_run)
theorem ok_is_run (hP : P = hd.P) (hC : hd.says K) (hX : K.In h) (hG : h.Ns mainGlobals mg) : OkF P w K mg base 3 (He.ga K "is_run") ["thing"] f_is_run := okF_of (N := ["thing", "deed"]) (ps := ["thing"]) (k := 2) (b := b_is_run) (Hd.def_ hC 19 (d := d_is_run) rfl) sc_is_run (fun fd F => FunD.bindsA F fun _ _ _ _ _ _ us hl => match us, hl with | [_], _ => rfl) fun cdv A outer s H E hr =>
  (mss_one (by exact (ms_ret (by exact (me_and (by exact (me_callB (bIsiT2 (T := TT.tf) (by exact ⟨(FX hC).toPF, rfl⟩)) (by rfl) (fr_isinstance hP hC hX hG) (by decide +kernel) (by exact ma_cons (by exact (me_rd (pv 0))) (by exact ma_cons (by exact (me_bty (by rfl) (fr_tuple hP hC hX hG) (by decide +kernel))) ma_nil)))) (me_one (by exact (me_callB (bAll (by rfl)) (by rfl) (fr_all hP hC hX hG) (by decide +kernel) (by exact ma_cons (by exact (me_comp (ob := false) (own := [("deed", 1)]) (by rfl) (by exact sc_is_run.nd) (mi_any (by exact (me_rd (pv 0)))) (by exact blk_of (by rfl)) (fun _ _ _ _ _ => (pg_nm (by exact sc_is_run.nd) (i := 1) (by rfl) (by first | exact .inl rfl | exact .inr rfl))) (fun _ _ _ _ _ => mts_nil) (fun _ _ _ _ _ => (by exact (mcl  (ok_is_deed hP hC hX hG) hr (by rfl) (g_is_deed hP hC hX hG) (by exact tk0) (by exact ma_cons (by exact (me_rd (pv 1))) ma_nil)))))) ma_nil)))))))))
theorem sc_run_text : FnScope ["run", "deed", "part"] ["run"] (defScope (top 12)) := ⟨rfl, rfl, rfl, by decide +kernel, rfl, by decide +kernel, by decide +kernel⟩
def b_run_text : MS := (seqS (bndS (bnd (bnd (bnd (bnd (rd 0) fun d => bnd (ret []) fun ds => ret (d :: ds)) (callM 1 f_is_run)) fun d => lo (tb d)) fun k => ret (!k)) fun x => if x = true then (rzS0 "NoRun") else nxtS)
  (bndS (bnd (ret (.str "\n")) fun x => chk (tyOk "str" x) (bnd (bnd (bnd (bnd (rd 0) fun d => lo (toSrcA d)) (compD false (.nm 1) yes (bnd (ret (.str " ")) fun x => chk (tyOk "str" x) (bnd (bnd (bnd (bnd (rd 1) fun d => lo (toSrcA d)) (compD false (.nm 2) yes (bnd (bnd (rd 2) fun d => bnd (ret []) fun ds => ret (d :: ds)) fun ds => lo (strF2 ds)) [2])) fun d => bnd (ret []) fun ds => ret (d :: ds)) fun ds => lof (joinF x ds))) [1])) fun d => bnd (ret []) fun ds => ret (d :: ds)) fun ds => lof (joinF x ds))) retS))
def f_run_text : FM := (runF 3 b_run_text)
theorem ok_run_text (hP : P = hd.P) (hC : hd.says K) (hX : K.In h) (hG : h.Ns mainGlobals mg) : OkF P w K mg base 4 (He.ga K "run_text") ["run"] f_run_text := okF_of (N := ["run", "deed", "part"]) (ps := ["run"]) (k := 3) (b := b_run_text) (Hd.def_ hC 20 (d := d_run_text) rfl) sc_run_text (fun fd F => FunD.bindsA F fun _ _ _ _ _ _ us hl => match us, hl with | [_], _ => rfl) fun cdv A outer s H E hr =>
  (mss_cons (by exact (ms_if (by exact (mt_not (by exact (mt_val (by exact (mcl  (ok_is_run hP hC hX hG) hr (by rfl) (g_is_run hP hC hX hG) (by exact tkD) (by exact ma_cons (by exact (me_rd (pv 0))) ma_nil))))))) (mss_one (by exact (ms_raise0 (by rfl) (by exact tkD) PySem.F.excBase_ValueError (ex_NoRun hC).1 (g_NoRun hP hC hX hG) (ex_NoRun hC).2.1 (raises_own (ex_NoRun hC).2.2.1 (ex_NoRun hC).2.2.2) (by rfl)))) mss_nil))
  (mss_one (by exact (ms_ret (by exact (me_bm PySem.F.plainAttrs_str PySem.F.slot_str_join PySem.F.type_str_join mJoin me_str (by exact ma_cons (by exact (me_comp (ob := false) (own := [("deed", 1)]) (by rfl) (by exact sc_run_text.nd) (mi_any (by exact (me_rd (pv 0)))) (by exact blk_of (by rfl)) (fun _ _ _ _ _ => (pg_nm (by exact sc_run_text.nd) (i := 1) (by rfl) (by first | exact .inl rfl | exact .inr rfl))) (fun _ _ _ _ _ => mts_nil) (fun _ _ _ _ _ => (by exact (me_bm PySem.F.plainAttrs_str PySem.F.slot_str_join PySem.F.type_str_join mJoin me_str (by exact ma_cons (by exact (me_comp (ob := false) (own := [("part", 2)]) (by rfl) (by exact sc_run_text.nd) (mi_any (by exact (me_rd (pv 1)))) (by exact blk_of (by rfl)) (fun _ _ _ _ _ => (pg_nm (by exact sc_run_text.nd) (i := 2) (by rfl) (by first | exact .inl rfl | exact .inr rfl))) (fun _ _ _ _ _ => mts_nil) (fun _ _ _ _ _ => (by exact (me_callTy bStr2 (by rfl) (fr_str hP hC hX hG) (by decide +kernel) (by exact ma_cons (by exact (me_rd (pv 2))) ma_nil)))))) ma_nil)))))) ma_nil)))))))
theorem sc__law_written : FnScope ["_law_thing", "_law_found", "e"] ["_law_thing"] (defScope (top 29)) := ⟨rfl, rfl, rfl, by decide +kernel, rfl, by decide +kernel, by decide +kernel⟩
def b__law_written : MS := (seqS (bndS (ret (.str "other")) (setS 1))
  (seqS (tryS (TT.emF (.inr "CopyError")) 2 (bndS (bnd (bnd (rd 0) fun d => bnd (ret []) fun ds => ret (d :: ds)) (callM 1 f_run_text)) (setS 1)) (fun e => (bndS (bnd (bnd (bnd (bnd (ret (.glo "NoRun")) fun x => lo (isE TT.tf e.c x)) fun d => lo (tb d)) fun k => if k = true then (bnd (bnd (ret (.ty "ValueError")) fun x => lo (isE TT.tf e.c x)) fun d => lo (tb d)) else ret false) fun k => if k = true then (ret (.int 0)) else (ret (.str "other"))) (setS 1))))
  (bndS (rd 1) retS)))
def f__law_written : FM := (runF 3 b__law_written)
theorem ok__law_written (hP : P = hd.P) (hC : hd.says K) (hX : K.In h) (hG : h.Ns mainGlobals mg) : OkF P w K mg base 5 (He.ga K "_law_written") ["_law_thing"] f__law_written := okF_of (N := ["_law_thing", "_law_found", "e"]) (ps := ["_law_thing"]) (k := 4) (b := b__law_written) (Hd.def_ hC 21 (d := d__law_written) rfl) sc__law_written (fun fd F => FunD.bindsA F fun _ _ _ _ _ _ us hl => match us, hl with | [_], _ => rfl) fun cdv A outer s H E hr =>
  (mss_cons (by exact (ms_set (i := 1) (by exact sc__law_written.nd) (by rfl) (by first | exact .inl rfl | exact .inr rfl) me_str))
  (mss_cons (by exact (ms_try_as (i := 2) (by rfl) (by intros; trivial) (by rfl) (by rfl) (by exact sc__law_written.nd) (by rfl) (by rfl) (by exact ⟨rfl, by decide, .inl (g_CopyError hP hC hX hG)⟩) (by exact tkD) (Tab.em_ok (Hd.tok hC)) (fun w pn xe t o => (mss_one (by exact (ms_set (i := 1) (by exact sc__law_written.nd) (by rfl) (by first | exact .inl rfl | exact .inr rfl) (by exact (mcl  (ok_run_text hP hC hX hG) hr (by rfl) (g_run_text hP hC hX hG) (by exact t) (by exact ma_cons (by exact (me_rd (pv 0))) ma_nil))))))) (fun a oe cls d pn e hz hd hcl hke => have hkE : ∀ C, TT.emF (.inr "CopyError") C = some true → (FX hC).T.ec C = true := hk_CopyError hC; (mss_one (by exact (ms_set (i := 1) (by exact sc__law_written.nd) (by rfl) (by first | exact .inl rfl | exact .inr rfl) (by exact (me_if (by exact (mt_w (mw_and (by exact (mt_val (by exact (me_isE (FX hC) hz hd hcl (hkE _ hke) (by rfl) (by first | exact Or.inl rfl | exact Or.inr (Or.inl rfl) | exact Or.inr (Or.inr rfl)) (by rfl) (fr_isinstance hP hC hX hG) (by exact (me_glo (by rfl) (g_NoRun hP hC hX hG))))))) (mw_and1 (by exact (mt_val (by exact (me_isE (FX hC) hz hd hcl (hkE _ hke) (by rfl) (by first | exact Or.inl rfl | exact Or.inr (Or.inl rfl) | exact Or.inr (Or.inr rfl)) (by rfl) (fr_isinstance hP hC hX hG) (by exact (me_bty (by rfl) (fr_ValueError hP hC hX hG) (by decide +kernel))))))))))) me_int me_str)) (hfx := by intro p hp; cases hp with | head => exact Nat.ne_of_beq_eq_false rfl | tail _ z => cases z)))))))
  (mss_one (by exact (ms_ret (by exact (me_rd (pv 1))))))))
theorem sc_law : FnScope ["_law_script", "_law_again", "_law_bent_here", "_law_change", "_law_hand_here", "_law_odd", "_law_right", "_law_run", "_law_text", "_law_thing", "_law_turn", "_law_deed"] ["_law_script"] (defScope (top 32)) := ⟨rfl, rfl, rfl, by decide +kernel, rfl, by decide +kernel, by decide +kernel⟩
def b_law : MS := (seqS (bndS (bnd (bnd (rd 0) fun d => bnd (ret []) fun ds => ret (d :: ds)) (callM 1 f__law_hand)) (setS 4))
  (seqS (bndS (bnd (bnd (ret (.int 3)) fun d => bnd (ret []) fun ds => ret (d :: ds)) fun ds => lo (toRng1 ds)) (forS (.nm 10) (seqS (bndS (bnd (bnd (rd 4) fun d => bnd (bnd (ret (.int 12)) fun d => bnd (ret []) fun ds => ret (d :: ds)) fun ds => ret (d :: ds)) (callM 2 f__law_run_drawn)) (setS 7))
  (seqS (bndS (bnd (bnd (rd 7) fun d => bnd (ret []) fun ds => ret (d :: ds)) (callM 1 f__law_run_text)) (setS 8))
  (seqS (bndS (bnd (bnd (bnd (bnd (bnd (bnd (bnd (rd 7) fun d => bnd (ret []) fun ds => ret (d :: ds)) (callM 1 f_run_text)) fun d => bnd (bnd (rd 8) fun d => bnd (ret []) fun ds => ret (d :: ds)) fun ds => ret (d :: ds)) (callM 2 f__law_is)) fun d => lo (tb d)) fun k => ret (!k)) fun k => if k = true then ret true else (bnd (bnd (bnd (bnd (bnd (bnd (rd 8) fun d => bnd (ret []) fun ds => ret (d :: ds)) (callM 1 f_read_run)) fun d => bnd (bnd (rd 7) fun d => bnd (ret []) fun ds => ret (d :: ds)) fun ds => ret (d :: ds)) (callM 2 f__law_is)) fun d => lo (tb d)) fun k => ret (!k))) fun x => if x = true then (bndS (ret (.bl false)) retS) else nxtS)
  (seqS (bndS (bnd (bnd (ret (.int 3)) fun d => bnd (ret []) fun ds => ret (d :: ds)) fun ds => lo (toRng1 ds)) (forS (.nm 1) (seqS (bndS (rd 8) (setS 2))
  (seqS (bndS (bnd (bnd (bnd (ret (.int 1)) fun x => bnd (bnd (bnd (rd 4) fun d => bnd (bnd (ret (.int 2)) fun d => bnd (ret []) fun ds => ret (d :: ds)) fun ds => ret (d :: ds)) (callM 2 f__law_draw)) fun y => lo (addD x y)) fun d => bnd (ret []) fun ds => ret (d :: ds)) fun ds => lo (toRng1 ds)) (forS (.nm 3) (bndS (bnd (bnd (rd 4) fun d => bnd (bnd (rd 2) fun d => bnd (ret []) fun ds => ret (d :: ds)) fun ds => ret (d :: ds)) (callM 2 f__law_bent)) (setS 2))))
  (bndS (bnd (bnd (bnd (bnd (bnd (bnd (rd 2) fun d => bnd (ret []) fun ds => ret (d :: ds)) (callM 1 f__law_told)) fun d => bnd (bnd (bnd (bnd (rd 2) fun d => bnd (ret []) fun ds => ret (d :: ds)) (callM 1 f__law_read_run)) fun d => bnd (ret []) fun ds => ret (d :: ds)) fun ds => ret (d :: ds)) (callM 2 f__law_is)) fun d => lo (tb d)) fun k => ret (!k)) fun x => if x = true then (bndS (ret (.bl false)) retS) else nxtS)))))
  (seqS (bndS (bnd (bnd (rd 4) fun d => bnd (bnd (rd 7) fun d => bnd (ret []) fun ds => ret (d :: ds)) fun ds => ret (d :: ds)) (callM 2 f__law_bent_run)) (setS 9))
  (seqS (bndS (bnd (bnd (bnd (rd 9) fun d => bnd (bnd (ret (.ty "tuple")) fun d => bnd (ret []) fun ds => ret (d :: ds)) fun ds => ret (d :: ds)) fun ds => lo ((isiF2 TT.tf) ds)) fun x => bnd (lo (tb x)) fun k => if k = true then (bnd (bnd (bnd (bnd (rd 9) fun d => lo (toSrcA d)) (compD false (.nm 11) yes (bnd (bnd (rd 11) fun d => bnd (ret []) fun ds => ret (d :: ds)) (callM 1 f__law_is_deed)) [11])) fun d => bnd (ret []) fun ds => ret (d :: ds)) fun ds => lo (allF ds)) else ret (.bl false)) (setS 6))
  (seqS (bndS (bnd (bnd (bnd (bnd (bnd (bnd (rd 9) fun d => bnd (ret []) fun ds => ret (d :: ds)) (callM 1 f__law_written)) fun d => bnd (bnd (bnd (bnd (rd 6) fun d => lo (tb d)) fun k => if k = true then (bnd (bnd (rd 9) fun d => bnd (ret []) fun ds => ret (d :: ds)) (callM 1 f__law_run_text)) else (ret (.int 0))) fun d => bnd (ret []) fun ds => ret (d :: ds)) fun ds => ret (d :: ds)) (callM 2 f__law_is)) fun d => lo (tb d)) fun k => ret (!k)) fun x => if x = true then (bndS (ret (.bl false)) retS) else nxtS)
  (seqS (bndS (bnd (bnd (rd 4) fun d => bnd (bnd (bnd (bnd (ret .non) fun d => bnd (bnd (ret (.int 0)) fun d => bnd (bnd (ret (.bl true)) fun d => bnd (bnd (bnd (bnd (rd 8) fun d => bnd (ret []) fun ds => ret (d :: ds)) fun ds => lo (mkL ds)) fun d => bnd (bnd (bnd (bnd (rd 8) fun d => bnd (ret []) fun ds => ret (d :: ds)) fun ds => lo (mkT ds)) fun d => bnd (bnd mkD0 fun d => bnd (bnd (rd 7) fun d => bnd (bnd (bnd (bnd (ret (.int 0)) fun d => bnd (ret []) fun ds => ret (d :: ds)) (callM 1 f__law_deep)) fun d => bnd (bnd (bnd (ret (.int 10)) fun x => bnd (ret (.int 30)) fun y => lo (powD x y)) fun d => bnd (ret []) fun ds => ret (d :: ds)) fun ds => ret (d :: ds)) fun ds => ret (d :: ds)) fun ds => ret (d :: ds)) fun ds => ret (d :: ds)) fun ds => ret (d :: ds)) fun ds => ret (d :: ds)) fun ds => ret (d :: ds)) fun ds => ret (d :: ds)) fun ds => lo (mkL ds)) fun d => bnd (ret []) fun ds => ret (d :: ds)) fun ds => ret (d :: ds)) (callM 2 f__law_some)) (setS 5))
  (bndS (bnd (bnd (bnd (bnd (bnd (bnd (rd 5) fun d => bnd (ret []) fun ds => ret (d :: ds)) (callM 1 f__law_told)) fun d => bnd (bnd (bnd (bnd (ret (.str "text")) fun d => bnd (bnd (ret (.int 0)) fun d => bnd (ret []) fun ds => ret (d :: ds)) fun ds => ret (d :: ds)) fun ds => lo (mkT ds)) fun d => bnd (ret []) fun ds => ret (d :: ds)) fun ds => ret (d :: ds)) (callM 2 f__law_is)) fun d => lo (tb d)) fun k => ret (!k)) fun x => if x = true then (bndS (ret (.bl false)) retS) else nxtS)))))))))))
  (bndS (ret (.bl true)) retS)))
def f_law : FM := (runF 12 b_law)
theorem ok_law (hP : P = hd.P) (hC : hd.says K) (hX : K.In h) (hG : h.Ns mainGlobals mg) : OkF P w K mg base 7 (He.ga K "law") ["_law_script"] f_law := okF_of (N := ["_law_script", "_law_again", "_law_bent_here", "_law_change", "_law_hand_here", "_law_odd", "_law_right", "_law_run", "_law_text", "_law_thing", "_law_turn", "_law_deed"]) (ps := ["_law_script"]) (k := 6) (b := b_law) (Hd.def_ hC 22 (d := d_law) rfl) sc_law (fun fd F => FunD.bindsA F fun _ _ _ _ _ _ us hl => match us, hl with | [_], _ => rfl) fun cdv A outer s H E hr =>
  (mss_cons (by exact (ms_set (i := 4) (by exact sc_law.nd) (by rfl) (by first | exact .inl rfl | exact .inr rfl) (by exact (mcl  (ok__law_hand hP hC hX hG) hr (by rfl) (g__law_hand hP hC hX hG) (by exact tkD) (by exact ma_cons (by exact (me_rd (pv 0))) ma_nil)))))
  (mss_cons (by exact (ms_for (t := (.nm 10)) (by exact poD) (by rfl) (mi_rng1 (by rfl) (fr_range hP hC hX hG) (by exact ma_cons me_int ma_nil)) (pg_nm (by exact sc_law.nd) (i := 10) (by rfl) (by first | exact .inl rfl | exact .inr rfl)) (mss_cons (by exact (ms_set (i := 7) (by exact sc_law.nd) (by rfl) (by first | exact .inl rfl | exact .inr rfl) (by exact (mcl  (ok__law_run_drawn hP hC hX hG) hr (by rfl) (g__law_run_drawn hP hC hX hG) (by exact tkD) (by exact ma_cons (by exact (me_rd (pv 4))) (by exact ma_cons me_int ma_nil))))))
  (mss_cons (by exact (ms_set (i := 8) (by exact sc_law.nd) (by rfl) (by first | exact .inl rfl | exact .inr rfl) (by exact (mcl  (ok__law_run_text hP hC hX hG) hr (by rfl) (g__law_run_text hP hC hX hG) (by exact tkD) (by exact ma_cons (by exact (me_rd (pv 7))) ma_nil)))))
  (mss_cons (by exact (ms_if (by exact (mt_w (mw_or (by exact (mt_not (by exact (mt_val (by exact (mcl  (ok__law_is hP hC hX hG) hr (by rfl) (g__law_is hP hC hX hG) (by exact tkD) (by exact ma_cons (by exact (mcl  (ok_run_text hP hC hX hG) hr (by rfl) (g_run_text hP hC hX hG) (by exact tkD) (by exact ma_cons (by exact (me_rd (pv 7))) ma_nil))) (by exact ma_cons (by exact (me_rd (pv 8))) ma_nil)))))))) (mw_or1 (by exact (mt_not (by exact (mt_val (by exact (mcl  (ok__law_is hP hC hX hG) hr (by rfl) (g__law_is hP hC hX hG) (by exact tkD) (by exact ma_cons (by exact (mcl  (ok_read_run hP hC hX hG) hr (by rfl) (g_read_run hP hC hX hG) (by exact tkD) (by exact ma_cons (by exact (me_rd (pv 8))) ma_nil))) (by exact ma_cons (by exact (me_rd (pv 7))) ma_nil)))))))))))) (mss_one (by exact (ms_ret me_bl))) mss_nil))
  (mss_cons (by exact (ms_for (t := (.nm 1)) (by exact poD) (by rfl) (mi_rng1 (by rfl) (fr_range hP hC hX hG) (by exact ma_cons me_int ma_nil)) (pg_nm (by exact sc_law.nd) (i := 1) (by rfl) (by first | exact .inl rfl | exact .inr rfl)) (mss_cons (by exact (ms_set (i := 2) (by exact sc_law.nd) (by rfl) (by first | exact .inl rfl | exact .inr rfl) (by exact (me_rd (pv 8)))))
  (mss_cons (by exact (ms_for (t := (.nm 3)) (by exact poD) (by rfl) (mi_rng1 (by rfl) (fr_range hP hC hX hG) (by exact ma_cons (by exact (me_bin opAdd me_int (by exact (mcl  (ok__law_draw hP hC hX hG) hr (by rfl) (g__law_draw hP hC hX hG) (by exact tkD) (by exact ma_cons (by exact (me_rd (pv 4))) (by exact ma_cons me_int ma_nil)))))) ma_nil)) (pg_nm (by exact sc_law.nd) (i := 3) (by rfl) (by first | exact .inl rfl | exact .inr rfl)) (mss_one (by exact (ms_set (i := 2) (by exact sc_law.nd) (by rfl) (by first | exact .inl rfl | exact .inr rfl) (by exact (mcl  (ok__law_bent hP hC hX hG) hr (by rfl) (g__law_bent hP hC hX hG) (by exact tkD) (by exact ma_cons (by exact (me_rd (pv 4))) (by exact ma_cons (by exact (me_rd (pv 2))) ma_nil)))))))))
  (mss_one (by exact (ms_if (by exact (mt_not (by exact (mt_val (by exact (mcl  (ok__law_is hP hC hX hG) hr (by rfl) (g__law_is hP hC hX hG) (by exact tkD) (by exact ma_cons (by exact (mcl  (ok__law_told hP hC hX hG) hr (by rfl) (g__law_told hP hC hX hG) (by exact tkD) (by exact ma_cons (by exact (me_rd (pv 2))) ma_nil))) (by exact ma_cons (by exact (mcl  (ok__law_read_run hP hC hX hG) hr (by rfl) (g__law_read_run hP hC hX hG) (by exact tkD) (by exact ma_cons (by exact (me_rd (pv 2))) ma_nil))) ma_nil)))))))) (mss_one (by exact (ms_ret me_bl))) mss_nil)))))))
  (mss_cons (by exact (ms_set (i := 9) (by exact sc_law.nd) (by rfl) (by first | exact .inl rfl | exact .inr rfl) (by exact (mcl  (ok__law_bent_run hP hC hX hG) hr (by rfl) (g__law_bent_run hP hC hX hG) (by exact tkD) (by exact ma_cons (by exact (me_rd (pv 4))) (by exact ma_cons (by exact (me_rd (pv 7))) ma_nil))))))
  (mss_cons (by exact (ms_set (i := 6) (by exact sc_law.nd) (by rfl) (by first | exact .inl rfl | exact .inr rfl) (by exact (me_and (by exact (me_callB (bIsiT2 (T := TT.tf) (by exact ⟨(FX hC).toPF, rfl⟩)) (by rfl) (fr_isinstance hP hC hX hG) (by decide +kernel) (by exact ma_cons (by exact (me_rd (pv 9))) (by exact ma_cons (by exact (me_bty (by rfl) (fr_tuple hP hC hX hG) (by decide +kernel))) ma_nil)))) (me_one (by exact (me_callB (bAll (by rfl)) (by rfl) (fr_all hP hC hX hG) (by decide +kernel) (by exact ma_cons (by exact (me_comp (ob := false) (own := [("_law_deed", 11)]) (by rfl) (by exact sc_law.nd) (mi_any (by exact (me_rd (pv 9)))) (by exact blk_of (by rfl)) (fun _ _ _ _ _ => (pg_nm (by exact sc_law.nd) (i := 11) (by rfl) (by first | exact .inl rfl | exact .inr rfl))) (fun _ _ _ _ _ => mts_nil) (fun _ _ _ _ _ => (by exact (mcl  (ok__law_is_deed hP hC hX hG) hr (by rfl) (g__law_is_deed hP hC hX hG) (by exact tk0) (by exact ma_cons (by exact (me_rd (pv 11))) ma_nil)))))) ma_nil))))))))
  (mss_cons (by exact (ms_if (by exact (mt_not (by exact (mt_val (by exact (mcl  (ok__law_is hP hC hX hG) hr (by rfl) (g__law_is hP hC hX hG) (by exact tkD) (by exact ma_cons (by exact (mcl  (ok__law_written hP hC hX hG) hr (by rfl) (g__law_written hP hC hX hG) (by exact tkD) (by exact ma_cons (by exact (me_rd (pv 9))) ma_nil))) (by exact ma_cons (by exact (me_if (by exact (mt_val (by exact (me_rd (pv 6))))) (by exact (mcl  (ok__law_run_text hP hC hX hG) hr (by rfl) (g__law_run_text hP hC hX hG) (by exact tkD) (by exact ma_cons (by exact (me_rd (pv 9))) ma_nil))) me_int)) ma_nil)))))))) (mss_one (by exact (ms_ret me_bl))) mss_nil))
  (mss_cons (by exact (ms_set (i := 5) (by exact sc_law.nd) (by rfl) (by first | exact .inl rfl | exact .inr rfl) (by exact (mcl  (ok__law_some hP hC hX hG) hr (by rfl) (g__law_some hP hC hX hG) (by exact tkD) (by exact ma_cons (by exact (me_rd (pv 4))) (by exact ma_cons (by exact (me_tl (by exact ma_cons me_non (by exact ma_cons me_int (by exact ma_cons me_bl (by exact ma_cons (by exact (me_tl (by exact ma_cons (by exact (me_rd (pv 8))) ma_nil))) (by exact ma_cons (by exact (me_tup (by exact ma_cons (by exact (me_rd (pv 8))) ma_nil))) (by exact ma_cons me_d0 (by exact ma_cons (by exact (me_rd (pv 7))) (by exact ma_cons (by exact (mcl  (ok__law_deep hP hC hX hG) hr (by rfl) (g__law_deep hP hC hX hG) (by exact tkD) (by exact ma_cons me_int ma_nil))) (by exact ma_cons (by exact (me_bin opPow me_int me_int)) ma_nil))))))))))) ma_nil))))))
  (mss_one (by exact (ms_if (by exact (mt_not (by exact (mt_val (by exact (mcl  (ok__law_is hP hC hX hG) hr (by rfl) (g__law_is hP hC hX hG) (by exact tkD) (by exact ma_cons (by exact (mcl  (ok__law_told hP hC hX hG) hr (by rfl) (g__law_told hP hC hX hG) (by exact tkD) (by exact ma_cons (by exact (me_rd (pv 5))) ma_nil))) (by exact ma_cons (by exact (me_tup (by exact ma_cons me_str (by exact ma_cons me_int ma_nil)))) ma_nil)))))))) (mss_one (by exact (ms_ret me_bl))) mss_nil)))))))))))))
  (mss_one (by exact (ms_ret me_bl)))))
end
end K53
end M3
end L2

set_option Elab.async false
set_option linter.all false
set_option maxRecDepth 100000
set_option maxHeartbeats 2000000
namespace L2
namespace M3
namespace K53
open PySem PySem.Spec PyProof.Rows
/-- the hand -/
structure HS where
  cs : List Int
  i : Int
  big : Int
  s : Int
  t : Int
def gH (h : HS) : MO := .lst [.tl (h.cs.map D.int), .int h.i, .int h.big, .int h.s, .int h.t]
structure Hd (h : HS) : Prop where
  i0 : 0 ≤ h.i
  n : h.cs.length ≤ 63
theorem log9 {n : Int} (h0 : 0 < n) (h1 : n ≤ 2 ^ 40) : n.natAbs.log2 < 9000 := by
  have h2 : n.natAbs < 2 ^ 41 := by omega
  have := (Nat.log2_lt (n := n.natAbs) (k := 41) (by omega)).mpr h2
  omega
section
variable {X : Exc → Gs → Prop}
theorem pow18 {G : Gs} : powD (.int 10) (.int 18) G = some (.int 1000000000000000000) := by
  show (if 0 ≤ (18 : Int) ∧ (18 : Int) ≤ 1000000 ∧ (10 : Int).natAbs < 2 ^ 64 then some (D.int ((10 : Int) ^ (18 : Int).toNat)) else none) = _
  rw [if_pos ⟨by omega, by omega, by show 10 < 2 ^ 64; omega⟩]
  rfl
theorem emb {a p : Int} (h0 : 0 < p) (h1 : p < 2 ^ 64) : (a % p).natAbs < 2 ^ 64 := by
  have := Int.emod_nonneg a (show p ≠ 0 by omega)
  have := Int.emod_lt_of_pos a h0
  omega
theorem w_hand {ns : List Int} : wR (f__law_hand [.fz (ns.map D.int)] []) X (fun d G' => d = .obj 0 ∧ ∃ h, Hd h ∧ G' = [gH h]) := by
  unfold f__law_hand b__law_hand
  simp only [wR_bnd, wR_ret, wR_rd, wR_lo, wR_lof, wR_chk, wR_ite, wR_call, wR_runF, wR_newL, wR_chn, wS_seq, wS_bnd, wS_nxt, wS_ret, wS_set, wS_brk, wS_cnt, wS_rz0, wS_rz, wS_ite, wS_setIx, wS_try, wS_end, wR_ok, startD, wipeD, List.map_cons, List.map_nil, List.length_cons, List.length_nil, List.replicate, List.cons_append, List.nil_append, List.getElem?_cons_zero, List.getElem?_cons_succ, List.set_cons_zero, List.set_cons_succ, Option.some.injEq, exists_eq_left', Nat.reduceAdd, Nat.reduceSub, Nat.reduceLeDiff, D.int.injEq, D.bl.injEq, addD_i, subD_i, mulD_i, fdivD_i, modD_i, ltD_i, leD_i, gtD_i, geD_i, tb_b, toI_i, intF_i, intF2_i, absF_i, ixD_o, ixD_tl, ixD_tup, ixD_fz, lenF_o, lenF_tl, lenF_tup, lenF_fz, objL_o, tyOk_o, lstO_0, lstO_s, negD_i, eqD2_i, neD2_i, eqD2_s, neD2_s, eqD2_b, neD2_b, Option.bind_some, Option.map_some, Option.isSome_some, Prod.mk.injEq, and_assoc, exists_and_left, decide_eq_true_eq, Option.ite_none_right_eq_some, true_and, and_true, slD_fl (show (0 : Int) ≤ 63 by decide), srcA_l]
  have hz : ((ns.map D.int).take (63 : Int).toNat).length ≤ 63 := by
    rw [List.length_take]
    exact Nat.min_le_left _ _
  have e : ((ns.map D.int).take (63 : Int).toNat).map (fun d => match d with | .int i => D.int (if i < 0 then -i else i) | _ => .non) = ((ns.take 63).map fun i => if i < 0 then -i else i).map D.int := by
    rw [List.map_take, List.map_map, List.map_take, List.map_take, List.map_map]
    rfl
  rw [compE ((ns.map D.int).take (63 : Int).toNat) (fun d => match d with | .int i => .int (if i < 0 then -i else i) | _ => .non) rfl (by omega) (fun x hx => ?_), e]
  · simp only [wR_bnd, wR_ret, wR_rd, wR_lo, wR_lof, wR_chk, wR_ite, wR_call, wR_runF, wR_newL, wR_chn, wS_seq, wS_bnd, wS_nxt, wS_ret, wS_set, wS_brk, wS_cnt, wS_rz0, wS_rz, wS_ite, wS_setIx, wS_try, wS_end, wR_ok, startD, wipeD, List.map_cons, List.map_nil, List.length_cons, List.length_nil, List.replicate, List.cons_append, List.nil_append, List.getElem?_cons_zero, List.getElem?_cons_succ, List.set_cons_zero, List.set_cons_succ, Option.some.injEq, exists_eq_left', Nat.reduceAdd, Nat.reduceSub, Nat.reduceLeDiff, D.int.injEq, D.bl.injEq, addD_i, subD_i, mulD_i, fdivD_i, modD_i, ltD_i, leD_i, gtD_i, geD_i, tb_b, toI_i, intF_i, intF2_i, absF_i, ixD_o, ixD_tl, ixD_tup, ixD_fz, lenF_o, lenF_tl, lenF_tup, lenF_fz, objL_o, tyOk_o, lstO_0, lstO_s, negD_i, eqD2_i, neD2_i, eqD2_s, neD2_s, eqD2_b, neD2_b, Option.bind_some, Option.map_some, Option.isSome_some, Prod.mk.injEq, and_assoc, exists_and_left, decide_eq_true_eq, Option.ite_none_right_eq_some, true_and, and_true]
    refine ⟨sz 5 (by decide), ⟨(ns.take 63).map fun i => if i < 0 then -i else i, 0, 0, 1 + (((ns.take 63).map fun i => if i < 0 then -i else i).map D.int).length, 0⟩, ⟨Int.le_refl _, ?_⟩, rfl⟩
    rw [List.length_map, List.length_take]; exact Nat.min_le_left _ _
  · obtain ⟨i, _, rfl⟩ := List.mem_map.mp (List.mem_of_mem_take hx)
    refine eq_of_wR ?_
    simp only [wR_bnd, wR_ret, wR_rd, wR_lo, wR_lof, wR_chk, wR_ite, wR_call, wR_runF, wR_newL, wR_chn, wS_seq, wS_bnd, wS_nxt, wS_ret, wS_set, wS_brk, wS_cnt, wS_rz0, wS_rz, wS_ite, wS_setIx, wS_try, wS_end, wR_ok, startD, wipeD, List.map_cons, List.map_nil, List.length_cons, List.length_nil, List.replicate, List.cons_append, List.nil_append, List.getElem?_cons_zero, List.getElem?_cons_succ, List.set_cons_zero, List.set_cons_succ, Option.some.injEq, exists_eq_left', Nat.reduceAdd, Nat.reduceSub, Nat.reduceLeDiff, D.int.injEq, D.bl.injEq, addD_i, subD_i, mulD_i, fdivD_i, modD_i, ltD_i, leD_i, gtD_i, geD_i, tb_b, toI_i, intF_i, intF2_i, absF_i, ixD_o, ixD_tl, ixD_tup, ixD_fz, lenF_o, lenF_tl, lenF_tup, lenF_fz, objL_o, tyOk_o, lstO_0, lstO_s, negD_i, eqD2_i, neD2_i, eqD2_s, neD2_s, eqD2_b, neD2_b, Option.bind_some, Option.map_some, Option.isSome_some, Prod.mk.injEq, and_assoc, exists_and_left, decide_eq_true_eq, Option.ite_none_right_eq_some, true_and, and_true, and_self]
theorem w_draw {h : HS} {r : Gs} {many : Int} (H : Hd h) (h0 : 0 < many) (h1 : many.natAbs.log2 < 9000) :
    wR (f__law_draw [.obj 0, .int many] (gH h :: r)) X (fun d G' => ∃ v h', d = .int v ∧ 0 ≤ v ∧ v < many ∧ Hd h' ∧ G' = gH h' :: r) := by
  obtain ⟨cs, i, big, s, t⟩ := h
  obtain ⟨hi, hn⟩ := H
  dsimp only at hi hn
  have n0 : ixN 5 0 = some 0 := rfl
  have n1 : ixN 5 1 = some 1 := rfl
  have n2 : ixN 5 2 = some 2 := rfl
  have n3 : ixN 5 3 = some 3 := rfl
  have n4 : ixN 5 4 = some 4 := rfl
  have a0 : ∀ a b c d e : D, atI [a, b, c, d, e] 0 = some a := fun _ _ _ _ _ => rfl
  have a1 : ∀ a b c d e : D, atI [a, b, c, d, e] 1 = some b := fun _ _ _ _ _ => rfl
  have a2 : ∀ a b c d e : D, atI [a, b, c, d, e] 2 = some c := fun _ _ _ _ _ => rfl
  have a3 : ∀ a b c d e : D, atI [a, b, c, d, e] 3 = some d := fun _ _ _ _ _ => rfl
  have a4 : ∀ a b c d e : D, atI [a, b, c, d, e] 4 = some e := fun _ _ _ _ _ => rfl
  unfold f__law_draw b__law_draw
  rw [wR_runF, wS_seq]
  refine wS_imp (E := ⟨fun l G => ∃ i big s t c, 0 ≤ i ∧ l = [some (.obj 0), some (.int many), c, none, none] ∧ G = gH ⟨cs, i, big, s, t⟩ :: r, fun _ _ => False, fun _ _ => False, fun _ _ => False, fun _ _ _ => False⟩) ?_ ?_ (fun _ _ z => z.elim) (fun _ _ z => z.elim) (fun _ _ z => z.elim) (fun _ _ _ z => z.elim)
  · by_cases c1 : big = 0
    · by_cases c2 : i < (cs.map D.int).length
      · have am : atI (cs.map D.int) i = some (.int (cs[i.toNat]'(by rw [List.length_map] at c2; omega))) := by
          rw [atI_n hi (by omega)]
          simp
        by_cases c3 : 1000000000000000000 ≤ cs[i.toNat]'(by rw [List.length_map] at c2; omega)
        · simp only [wR_bnd, wR_ret, wR_rd, wR_lo, wR_lof, wR_chk, wR_ite, wR_call, wR_runF, wR_newL, wR_chn, wS_seq, wS_bnd, wS_nxt, wS_ret, wS_set, wS_brk, wS_cnt, wS_rz0, wS_rz, wS_ite, wS_setIx, wS_try, wS_end, wR_ok, startD, wipeD, List.map_cons, List.map_nil, List.length_cons, List.length_nil, List.replicate, List.cons_append, List.nil_append, List.getElem?_cons_zero, List.getElem?_cons_succ, List.set_cons_zero, List.set_cons_succ, Option.some.injEq, exists_eq_left', Nat.reduceAdd, Nat.reduceSub, Nat.reduceLeDiff, D.int.injEq, D.bl.injEq, addD_i, subD_i, mulD_i, fdivD_i, modD_i, ltD_i, leD_i, gtD_i, geD_i, tb_b, toI_i, intF_i, intF2_i, absF_i, ixD_o, ixD_tl, ixD_tup, ixD_fz, lenF_o, lenF_tl, lenF_tup, lenF_fz, objL_o, tyOk_o, lstO_0, lstO_s, negD_i, eqD2_i, neD2_i, eqD2_s, neD2_s, eqD2_b, neD2_b, Option.bind_some, Option.map_some, Option.isSome_some, Prod.mk.injEq, and_assoc, exists_and_left, decide_eq_true_eq, Option.ite_none_right_eq_some, true_and, and_true, gH, a0, a1, a2, a3, n1, n2, n3, c1, decide_true, if_true, c2, am, pow18, c3]
          exact ⟨.inr (.inl (by decide)), by decide, _, by omega, _, _, _, _, rfl, rfl⟩
        · simp only [wR_bnd, wR_ret, wR_rd, wR_lo, wR_lof, wR_chk, wR_ite, wR_call, wR_runF, wR_newL, wR_chn, wS_seq, wS_bnd, wS_nxt, wS_ret, wS_set, wS_brk, wS_cnt, wS_rz0, wS_rz, wS_ite, wS_setIx, wS_try, wS_end, wR_ok, startD, wipeD, List.map_cons, List.map_nil, List.length_cons, List.length_nil, List.replicate, List.cons_append, List.nil_append, List.getElem?_cons_zero, List.getElem?_cons_succ, List.set_cons_zero, List.set_cons_succ, Option.some.injEq, exists_eq_left', Nat.reduceAdd, Nat.reduceSub, Nat.reduceLeDiff, D.int.injEq, D.bl.injEq, addD_i, subD_i, mulD_i, fdivD_i, modD_i, ltD_i, leD_i, gtD_i, geD_i, tb_b, toI_i, intF_i, intF2_i, absF_i, ixD_o, ixD_tl, ixD_tup, ixD_fz, lenF_o, lenF_tl, lenF_tup, lenF_fz, objL_o, tyOk_o, lstO_0, lstO_s, negD_i, eqD2_i, neD2_i, eqD2_s, neD2_s, eqD2_b, neD2_b, Option.bind_some, Option.map_some, Option.isSome_some, Prod.mk.injEq, and_assoc, exists_and_left, decide_eq_true_eq, Option.ite_none_right_eq_some, true_and, and_true, gH, a0, a1, a2, a3, n1, n2, n3, c1, decide_true, if_true, c2, am, pow18, c3, decide_false, Bool.false_eq_true, if_false]
          exact ⟨.inr (.inl (by decide)), by decide, _, by omega, _, _, _, _, rfl, rfl⟩
      · simp only [wR_bnd, wR_ret, wR_rd, wR_lo, wR_lof, wR_chk, wR_ite, wR_call, wR_runF, wR_newL, wR_chn, wS_seq, wS_bnd, wS_nxt, wS_ret, wS_set, wS_brk, wS_cnt, wS_rz0, wS_rz, wS_ite, wS_setIx, wS_try, wS_end, wR_ok, startD, wipeD, List.map_cons, List.map_nil, List.length_cons, List.length_nil, List.replicate, List.cons_append, List.nil_append, List.getElem?_cons_zero, List.getElem?_cons_succ, List.set_cons_zero, List.set_cons_succ, Option.some.injEq, exists_eq_left', Nat.reduceAdd, Nat.reduceSub, Nat.reduceLeDiff, D.int.injEq, D.bl.injEq, addD_i, subD_i, mulD_i, fdivD_i, modD_i, ltD_i, leD_i, gtD_i, geD_i, tb_b, toI_i, intF_i, intF2_i, absF_i, ixD_o, ixD_tl, ixD_tup, ixD_fz, lenF_o, lenF_tl, lenF_tup, lenF_fz, objL_o, tyOk_o, lstO_0, lstO_s, negD_i, eqD2_i, neD2_i, eqD2_s, neD2_s, eqD2_b, neD2_b, Option.bind_some, Option.map_some, Option.isSome_some, Prod.mk.injEq, and_assoc, exists_and_left, decide_eq_true_eq, Option.ite_none_right_eq_some, true_and, and_true, gH, a0, a1, a2, a3, n1, n2, n3, c1, decide_true, if_true, c2, decide_false, Bool.false_eq_true, if_false]
        exact ⟨_, hi, _, _, _, _, rfl, rfl⟩
    · simp only [wR_bnd, wR_ret, wR_rd, wR_lo, wR_lof, wR_chk, wR_ite, wR_call, wR_runF, wR_newL, wR_chn, wS_seq, wS_bnd, wS_nxt, wS_ret, wS_set, wS_brk, wS_cnt, wS_rz0, wS_rz, wS_ite, wS_setIx, wS_try, wS_end, wR_ok, startD, wipeD, List.map_cons, List.map_nil, List.length_cons, List.length_nil, List.replicate, List.cons_append, List.nil_append, List.getElem?_cons_zero, List.getElem?_cons_succ, List.set_cons_zero, List.set_cons_succ, Option.some.injEq, exists_eq_left', Nat.reduceAdd, Nat.reduceSub, Nat.reduceLeDiff, D.int.injEq, D.bl.injEq, addD_i, subD_i, mulD_i, fdivD_i, modD_i, ltD_i, leD_i, gtD_i, geD_i, tb_b, toI_i, intF_i, intF2_i, absF_i, ixD_o, ixD_tl, ixD_tup, ixD_fz, lenF_o, lenF_tl, lenF_tup, lenF_fz, objL_o, tyOk_o, lstO_0, lstO_s, negD_i, eqD2_i, neD2_i, eqD2_s, neD2_s, eqD2_b, neD2_b, Option.bind_some, Option.map_some, Option.isSome_some, Prod.mk.injEq, and_assoc, exists_and_left, decide_eq_true_eq, Option.ite_none_right_eq_some, true_and, and_true, gH, a0, a1, a2, a3, n1, n2, n3, c1, decide_false, Bool.false_eq_true, if_false]
      exact ⟨_, hi, _, _, _, _, rfl, rfl⟩
  · rintro l G ⟨i, big, s, t, c, hi, rfl, rfl⟩
    by_cases hb : 0 < big
    · simp only [wR_bnd, wR_ret, wR_rd, wR_lo, wR_lof, wR_chk, wR_ite, wR_call, wR_runF, wR_newL, wR_chn, wS_seq, wS_bnd, wS_nxt, wS_ret, wS_set, wS_brk, wS_cnt, wS_rz0, wS_rz, wS_ite, wS_setIx, wS_try, wS_end, wR_ok, startD, wipeD, List.map_cons, List.map_nil, List.length_cons, List.length_nil, List.replicate, List.cons_append, List.nil_append, List.getElem?_cons_zero, List.getElem?_cons_succ, List.set_cons_zero, List.set_cons_succ, Option.some.injEq, exists_eq_left', Nat.reduceAdd, Nat.reduceSub, Nat.reduceLeDiff, D.int.injEq, D.bl.injEq, addD_i, subD_i, mulD_i, fdivD_i, modD_i, ltD_i, leD_i, gtD_i, geD_i, tb_b, toI_i, intF_i, intF2_i, absF_i, ixD_o, ixD_tl, ixD_tup, ixD_fz, lenF_o, lenF_tl, lenF_tup, lenF_fz, objL_o, tyOk_o, lstO_0, lstO_s, negD_i, eqD2_i, neD2_i, eqD2_s, neD2_s, eqD2_b, neD2_b, Option.bind_some, Option.map_some, Option.isSome_some, Prod.mk.injEq, and_assoc, exists_and_left, decide_eq_true_eq, Option.ite_none_right_eq_some, true_and, and_true, gH, a2, hb, decide_true, if_true, n2]
      exact ⟨h0, h0, h1, Int.emod_nonneg _ (by omega), Int.emod_lt_of_pos _ h0, ⟨cs, i, big / many, s, t⟩, ⟨hi, hn⟩, rfl⟩
    · simp only [wR_bnd, wR_ret, wR_rd, wR_lo, wR_lof, wR_chk, wR_ite, wR_call, wR_runF, wR_newL, wR_chn, wS_seq, wS_bnd, wS_nxt, wS_ret, wS_set, wS_brk, wS_cnt, wS_rz0, wS_rz, wS_ite, wS_setIx, wS_try, wS_end, wR_ok, startD, wipeD, List.map_cons, List.map_nil, List.length_cons, List.length_nil, List.replicate, List.cons_append, List.nil_append, List.getElem?_cons_zero, List.getElem?_cons_succ, List.set_cons_zero, List.set_cons_succ, Option.some.injEq, exists_eq_left', Nat.reduceAdd, Nat.reduceSub, Nat.reduceLeDiff, D.int.injEq, D.bl.injEq, addD_i, subD_i, mulD_i, fdivD_i, modD_i, ltD_i, leD_i, gtD_i, geD_i, tb_b, toI_i, intF_i, intF2_i, absF_i, ixD_o, ixD_tl, ixD_tup, ixD_fz, lenF_o, lenF_tl, lenF_tup, lenF_fz, objL_o, tyOk_o, lstO_0, lstO_s, negD_i, eqD2_i, neD2_i, eqD2_s, neD2_s, eqD2_b, neD2_b, Option.bind_some, Option.map_some, Option.isSome_some, Prod.mk.injEq, and_assoc, exists_and_left, decide_eq_true_eq, Option.ite_none_right_eq_some, true_and, and_true, gH, a2, a3, a4, hb, decide_false, Bool.false_eq_true, if_false, n4]
      exact ⟨.inl (by decide), .inr (.inl (by decide)), by decide, by decide, by decide, .inl (emb (by decide) (by decide)), by decide, by decide, by decide, .inl (emb (by decide) (by decide)), by decide, by decide, by decide, h0, Int.emod_nonneg _ (by omega), Int.emod_lt_of_pos _ h0, ⟨cs, i, big, s, t + 1⟩, ⟨hi, hn⟩, rfl⟩
theorem w_some {h : HS} {r : Gs} {its : List D} (H : Hd h) (h0 : 0 < its.length) (h1 : its.length ≤ 1000) :
    wR (f__law_some [.obj 0, .tl its] (gH h :: r)) X (fun d G' => d ∈ its ∧ ∃ h', Hd h' ∧ G' = gH h' :: r) := by
  unfold f__law_some b__law_some
  simp only [wR_bnd, wR_ret, wR_rd, wR_lo, wR_lof, wR_chk, wR_ite, wR_call, wR_runF, wR_newL, wR_chn, wS_seq, wS_bnd, wS_nxt, wS_ret, wS_set, wS_brk, wS_cnt, wS_rz0, wS_rz, wS_ite, wS_setIx, wS_try, wS_end, wR_ok, startD, wipeD, List.map_cons, List.map_nil, List.length_cons, List.length_nil, List.replicate, List.cons_append, List.nil_append, List.getElem?_cons_zero, List.getElem?_cons_succ, List.set_cons_zero, List.set_cons_succ, Option.some.injEq, exists_eq_left', Nat.reduceAdd, Nat.reduceSub, Nat.reduceLeDiff, D.int.injEq, D.bl.injEq, addD_i, subD_i, mulD_i, fdivD_i, modD_i, ltD_i, leD_i, gtD_i, geD_i, tb_b, toI_i, intF_i, intF2_i, absF_i, ixD_o, ixD_tl, ixD_tup, ixD_fz, lenF_o, lenF_tl, lenF_tup, lenF_fz, objL_o, tyOk_o, lstO_0, lstO_s, negD_i, eqD2_i, neD2_i, eqD2_s, neD2_s, eqD2_b, neD2_b, Option.bind_some, Option.map_some, Option.isSome_some, Prod.mk.injEq, and_assoc, exists_and_left, decide_eq_true_eq, Option.ite_none_right_eq_some, true_and, and_true]
  refine wR_imp (w_draw H (by omega) (log9 (by omega) (by omega))) (fun _ _ z => z) fun d G1 ⟨v, h', e, a, b, H', eG⟩ => ?_
  subst e eG
  have hv : v.toNat < its.length := by omega
  simp only [startD, wipeD, List.map_cons, List.map_nil, List.length_cons, List.length_nil, List.replicate, List.cons_append, List.nil_append, List.getElem?_cons_zero, List.getElem?_cons_succ, List.set_cons_zero, List.set_cons_succ, Option.some.injEq, exists_eq_left', Nat.reduceAdd, Nat.reduceSub, Nat.reduceLeDiff, D.int.injEq, D.bl.injEq, addD_i, subD_i, mulD_i, fdivD_i, modD_i, ltD_i, leD_i, gtD_i, geD_i, tb_b, toI_i, intF_i, intF2_i, absF_i, ixD_o, ixD_tl, ixD_tup, ixD_fz, lenF_o, lenF_tl, lenF_tup, lenF_fz, objL_o, tyOk_o, lstO_0, lstO_s, negD_i, eqD2_i, neD2_i, eqD2_s, neD2_s, eqD2_b, neD2_b, Option.bind_some, Option.map_some, Option.isSome_some, Prod.mk.injEq, and_assoc, exists_and_left, decide_eq_true_eq, Option.ite_none_right_eq_some, true_and, and_true]
  exact ⟨its[v.toNat], atI_n a hv, List.getElem_mem hv, h', H', rfl⟩
end

end K53
end M3
end L2

set_option Elab.async false
set_option linter.all false
set_option maxRecDepth 100000
set_option maxHeartbeats 2000000
namespace L2
namespace M3
namespace K53
open PySem PySem.Spec PyProof.Rows
def isI : D → Bool
  | .int _ => true
  | _ => false
def nn : D → Bool
  | .int i => decide (0 ≤ i)
  | _ => false
def inW (w : Str) : Bool := inV (.str w) [.str "change", .str "fork", .str "lose"]
def neI : D → D → Bool
  | .int i, .int j => !decide (i = j)
  | _, _ => false
def deedB : D → Bool
  | .tup (.str w :: x :: r) => (x :: r).all nn && (if w = "join" then (match r with
    | [y] => neI x y
    | _ => false) else inW w && decide (r.length = 0))
  | _ => false
section
variable {k : Nat} {d : D} {G : Gs} {X : Exc → Gs → Prop}
theorem bTi : "int" ∈ bT := by decide
theorem bTb : "bool" ∈ bT := by decide
theorem bTt : "tuple" ∈ bT := by decide
theorem bTl : "list" ∈ bT := by decide
theorem bTs : "str" ∈ bT := by decide
theorem bTd : "dict" ∈ bT := by decide
theorem is_i (h : tyB d ≠ "") : isiF2 TT.tf [d, .ty "int"] G = some (.bl (isB d "int")) := isi2_b h bTi (by decide)
theorem is_b (h : tyB d ≠ "") : isiF2 TT.tf [d, .ty "bool"] G = some (.bl (isB d "bool")) := isi2_b h bTb (by decide)
theorem is_t (h : tyB d ≠ "") : isiF2 TT.tf [d, .ty "tuple"] G = some (.bl (isB d "tuple")) := isi2_b h bTt (by decide)
theorem is_l (h : tyB d ≠ "") : isiF2 TT.tf [d, .ty "list"] G = some (.bl (isB d "list")) := isi2_b h bTl (by decide)
theorem is_s (h : tyB d ≠ "") : isiF2 TT.tf [d, .ty "str"] G = some (.bl (isB d "str")) := isi2_b h bTs (by decide)
theorem is_d (h : tyB d ≠ "") : isiF2 TT.tf [d, .ty "dict"] G = some (.bl (isB d "dict")) := isi2_b h bTd (by decide)
theorem w_isint (h : tyB d ≠ "") : f_is_integer [d] G = .ok (.bl (isI d)) G := by
  refine eq_of_wR ?_
  unfold f_is_integer b_is_integer
  simp only [wR_bnd, wR_ret, wR_rd, wR_lo, wR_lof, wR_chk, wR_ite, wR_call, wR_runF, wR_newL, wR_chn, wS_seq, wS_bnd, wS_nxt, wS_ret, wS_set, wS_brk, wS_cnt, wS_rz0, wS_rz, wS_ite, wS_setIx, wS_try, wS_end, wR_ok, startD, wipeD, List.map_cons, List.map_nil, List.length_cons, List.length_nil, List.replicate, List.cons_append, List.nil_append, List.getElem?_cons_zero, List.getElem?_cons_succ, List.set_cons_zero, List.set_cons_succ, Option.some.injEq, exists_eq_left', Nat.reduceAdd, Nat.reduceSub, Nat.reduceLeDiff, D.int.injEq, D.bl.injEq, addD_i, subD_i, mulD_i, fdivD_i, modD_i, ltD_i, leD_i, gtD_i, geD_i, tb_b, toI_i, intF_i, intF2_i, absF_i, ixD_o, ixD_tl, ixD_tup, ixD_fz, lenF_o, lenF_tl, lenF_tup, lenF_fz, objL_o, tyOk_o, lstO_0, lstO_s, negD_i, eqD2_i, neD2_i, eqD2_s, neD2_s, eqD2_b, neD2_b, Option.bind_some, Option.map_some, Option.isSome_some, Prod.mk.injEq, and_assoc, exists_and_left, decide_eq_true_eq, Option.ite_none_right_eq_some, true_and, and_true, is_i h, is_b h]
  cases d <;> simp [isB, tyB, isI, wR_ret] at h ⊢
theorem isB_tup {d : D} (h : isB d "tuple" = true) : ∃ ds, d = .tup ds := by
  cases d <;> first | exact ⟨_, rfl⟩ | (simp [isB, tyB] at h)
theorem isB_str {d : D} (h : isB d "str" = true) : ∃ w, d = .str w := by
  cases d <;> first | exact ⟨_, rfl⟩ | (simp [isB, tyB] at h)
theorem deed_nt {d : D} (h : isB d "tuple" = false) : deedB d = false := by
  cases d <;> first | rfl | (simp [isB, tyB] at h)
theorem deed_ns {a : D} {r : List D} (h : isB a "str" = false) : deedB (.tup (a :: r)) = false := by
  cases a <;> first | rfl | (simp [isB, tyB] at h)
theorem nn_int {x : D} (h : nn x = true) : ∃ i, x = .int i := by
  cases x <;> first | exact ⟨_, rfl⟩ | (simp [nn] at h)
theorem flat3 : allOf flat [.str "change", .str "fork", .str "lose"] = some [.str "change", .str "fork", .str "lose"] := rfl
theorem in3 {w : Str} {ds : List D} (h : ds = [.str "change", .str "fork", .str "lose"]) : inS false (.str w) (.tup ds) G = some (.bl (inW w)) := by
  subst h
  rfl
theorem in3l {w : Str} {ds : List D} (h : ds = [.str "change", .str "fork", .str "lose"]) : inS false (.str w) (.tl ds) G = some (.bl (inW w)) := by
  subst h
  rfl
/-- what comes behind the looks at the kinds -/
theorem deed_end {w : Str} {x : D} {r : List D} (h : (x :: r).all nn = true) : deedB (.tup (.str w :: x :: r)) = (if w = "join" then decide (r.length = 1) && (match r with | [y] => neI x y | _ => false) else inW w && decide (r.length = 0)) := by
  show ((x :: r).all nn && _) = _
  rw [h, Bool.true_and]
  by_cases c : w = "join"
  · rw [if_pos c, if_pos c]
    match r with
    | [] => rfl
    | [y] => simp
    | _ :: _ :: _ => simp
  · rw [if_neg c, if_neg c]
theorem w_isdeed (hk : k ≤ 100000) (h : pd k d = true) : f_is_deed [d] G = .ok (.bl (deedB d)) G := by
  refine eq_of_wR ?_
  unfold f_is_deed b_is_deed
  have ht := pd_ty h
  by_cases c0 : isB d "tuple" = true
  case neg =>
    have c0' : isB d "tuple" = false := by simpa using c0
    simp only [wR_bnd, wR_ret, wR_rd, wR_lo, wR_lof, wR_chk, wR_ite, wR_call, wR_runF, wR_newL, wR_chn, wS_seq, wS_bnd, wS_nxt, wS_ret, wS_set, wS_brk, wS_cnt, wS_rz0, wS_rz, wS_ite, wS_setIx, wS_try, wS_end, wR_ok, startD, wipeD, List.map_cons, List.map_nil, List.length_cons, List.length_nil, List.replicate, List.cons_append, List.nil_append, List.getElem?_cons_zero, List.getElem?_cons_succ, List.set_cons_zero, List.set_cons_succ, Option.some.injEq, exists_eq_left', Nat.reduceAdd, Nat.reduceSub, Nat.reduceLeDiff, D.int.injEq, D.bl.injEq, addD_i, subD_i, mulD_i, fdivD_i, modD_i, ltD_i, leD_i, gtD_i, geD_i, tb_b, toI_i, intF_i, intF2_i, absF_i, ixD_o, ixD_tl, ixD_tup, ixD_fz, lenF_o, lenF_tl, lenF_tup, lenF_fz, objL_o, tyOk_o, lstO_0, lstO_s, negD_i, eqD2_i, neD2_i, eqD2_s, neD2_s, eqD2_b, neD2_b, Option.bind_some, Option.map_some, Option.isSome_some, Prod.mk.injEq, and_assoc, exists_and_left, decide_eq_true_eq, Option.ite_none_right_eq_some, true_and, and_true, is_t ht, c0', Bool.not_false, if_true, deed_nt c0', and_self]
  obtain ⟨ds, rfl⟩ := isB_tup c0
  obtain ⟨hl, hm⟩ := pd_tp.mp h
  match ds, hl, hm with
  | [], _, _ =>
    have c1 : ((0 : Nat) : Int) < 2 := by decide
    simp only [wR_bnd, wR_ret, wR_rd, wR_lo, wR_lof, wR_chk, wR_ite, wR_call, wR_runF, wR_newL, wR_chn, wS_seq, wS_bnd, wS_nxt, wS_ret, wS_set, wS_brk, wS_cnt, wS_rz0, wS_rz, wS_ite, wS_setIx, wS_try, wS_end, wR_ok, startD, wipeD, List.map_cons, List.map_nil, List.length_cons, List.length_nil, List.replicate, List.cons_append, List.nil_append, List.getElem?_cons_zero, List.getElem?_cons_succ, List.set_cons_zero, List.set_cons_succ, Option.some.injEq, exists_eq_left', Nat.reduceAdd, Nat.reduceSub, Nat.reduceLeDiff, D.int.injEq, D.bl.injEq, addD_i, subD_i, mulD_i, fdivD_i, modD_i, ltD_i, leD_i, gtD_i, geD_i, tb_b, toI_i, intF_i, intF2_i, absF_i, ixD_o, ixD_tl, ixD_tup, ixD_fz, lenF_o, lenF_tl, lenF_tup, lenF_fz, objL_o, tyOk_o, lstO_0, lstO_s, negD_i, eqD2_i, neD2_i, eqD2_s, neD2_s, eqD2_b, neD2_b, Option.bind_some, Option.map_some, Option.isSome_some, Prod.mk.injEq, and_assoc, exists_and_left, decide_eq_true_eq, Option.ite_none_right_eq_some, true_and, and_true, is_t ht, c0, Bool.not_true, Bool.false_eq_true, if_false, c1, decide_true, if_true, deedB, and_self]
  | [a], _, _ =>
    have c1 : ((0 + 1 : Nat) : Int) < 2 := by decide
    simp only [wR_bnd, wR_ret, wR_rd, wR_lo, wR_lof, wR_chk, wR_ite, wR_call, wR_runF, wR_newL, wR_chn, wS_seq, wS_bnd, wS_nxt, wS_ret, wS_set, wS_brk, wS_cnt, wS_rz0, wS_rz, wS_ite, wS_setIx, wS_try, wS_end, wR_ok, startD, wipeD, List.map_cons, List.map_nil, List.length_cons, List.length_nil, List.replicate, List.cons_append, List.nil_append, List.getElem?_cons_zero, List.getElem?_cons_succ, List.set_cons_zero, List.set_cons_succ, Option.some.injEq, exists_eq_left', Nat.reduceAdd, Nat.reduceSub, Nat.reduceLeDiff, D.int.injEq, D.bl.injEq, addD_i, subD_i, mulD_i, fdivD_i, modD_i, ltD_i, leD_i, gtD_i, geD_i, tb_b, toI_i, intF_i, intF2_i, absF_i, ixD_o, ixD_tl, ixD_tup, ixD_fz, lenF_o, lenF_tl, lenF_tup, lenF_fz, objL_o, tyOk_o, lstO_0, lstO_s, negD_i, eqD2_i, neD2_i, eqD2_s, neD2_s, eqD2_b, neD2_b, Option.bind_some, Option.map_some, Option.isSome_some, Prod.mk.injEq, and_assoc, exists_and_left, decide_eq_true_eq, Option.ite_none_right_eq_some, true_and, and_true, is_t ht, c0, Bool.not_true, Bool.false_eq_true, if_false, c1, decide_true, if_true, deedB, and_self]
  | a :: x :: r, hl, hm =>
    have ha := pd_ty (hm a (by simp))
    have c2 : ¬ ((r.length + 1 + 1 : Nat) : Int) < 2 := by omega
    by_cases c3 : isB a "str" = true
    case neg =>
      have c3' : isB a "str" = false := by simpa using c3
      simp only [wR_bnd, wR_ret, wR_rd, wR_lo, wR_lof, wR_chk, wR_ite, wR_call, wR_runF, wR_newL, wR_chn, wS_seq, wS_bnd, wS_nxt, wS_ret, wS_set, wS_brk, wS_cnt, wS_rz0, wS_rz, wS_ite, wS_setIx, wS_try, wS_end, wR_ok, startD, wipeD, List.map_cons, List.map_nil, List.length_cons, List.length_nil, List.replicate, List.cons_append, List.nil_append, List.getElem?_cons_zero, List.getElem?_cons_succ, List.set_cons_zero, List.set_cons_succ, Option.some.injEq, exists_eq_left', Nat.reduceAdd, Nat.reduceSub, Nat.reduceLeDiff, D.int.injEq, D.bl.injEq, addD_i, subD_i, mulD_i, fdivD_i, modD_i, ltD_i, leD_i, gtD_i, geD_i, tb_b, toI_i, intF_i, intF2_i, absF_i, ixD_o, ixD_tl, ixD_tup, ixD_fz, lenF_o, lenF_tl, lenF_tup, lenF_fz, objL_o, tyOk_o, lstO_0, lstO_s, negD_i, eqD2_i, neD2_i, eqD2_s, neD2_s, eqD2_b, neD2_b, Option.bind_some, Option.map_some, Option.isSome_some, Prod.mk.injEq, and_assoc, exists_and_left, decide_eq_true_eq, Option.ite_none_right_eq_some, true_and, and_true, is_t ht, c0, Bool.not_true, Bool.false_eq_true, if_false, c2, decide_false, atI_0, is_s ha, c3', Bool.not_false, if_true, deed_ns c3', and_self]
    obtain ⟨w, rfl⟩ := isB_str c3
    have q1 : ∀ G, slD (.tup (.str w :: x :: r)) (some 1) none G = some (.tup (x :: r)) := fun G => slD_tr (by decide)
    have m3 : ∀ G, mkT [.str "change", .str "fork", .str "lose"] G = some (.tup [.str "change", .str "fork", .str "lose"]) := fun G => mkT_c (by decide)
    simp only [wR_bnd, wR_ret, wR_rd, wR_lo, wR_lof, wR_chk, wR_ite, wR_call, wR_runF, wR_newL, wR_chn, wS_seq, wS_bnd, wS_nxt, wS_ret, wS_set, wS_brk, wS_cnt, wS_rz0, wS_rz, wS_ite, wS_setIx, wS_try, wS_end, wR_ok, startD, wipeD, List.map_cons, List.map_nil, List.length_cons, List.length_nil, List.replicate, List.cons_append, List.nil_append, List.getElem?_cons_zero, List.getElem?_cons_succ, List.set_cons_zero, List.set_cons_succ, Option.some.injEq, exists_eq_left', Nat.reduceAdd, Nat.reduceSub, Nat.reduceLeDiff, D.int.injEq, D.bl.injEq, addD_i, subD_i, mulD_i, fdivD_i, modD_i, ltD_i, leD_i, gtD_i, geD_i, tb_b, toI_i, intF_i, intF2_i, absF_i, ixD_o, ixD_tl, ixD_tup, ixD_fz, lenF_o, lenF_tl, lenF_tup, lenF_fz, objL_o, tyOk_o, lstO_0, lstO_s, negD_i, eqD2_i, neD2_i, eqD2_s, neD2_s, eqD2_b, neD2_b, Option.bind_some, Option.map_some, Option.isSome_some, Prod.mk.injEq, and_assoc, exists_and_left, decide_eq_true_eq, Option.ite_none_right_eq_some, true_and, and_true, is_t ht, c0, Bool.not_true, Bool.false_eq_true, if_false, c2, decide_false, atI_0, is_s ha, c3, q1, srcA_t]
    rw [compB (x :: r) nn rfl (by simp only [List.length_cons] at hl ⊢; omega) (fun y hy => eq_of_wR ?_)]
    rotate_left
    · have hy' := pd_ty (hm y (List.mem_cons_of_mem _ hy))
      simp only [wR_bnd, wR_ret, wR_rd, wR_lo, wR_lof, wR_chk, wR_ite, wR_call, wR_runF, wR_newL, wR_chn, wS_seq, wS_bnd, wS_nxt, wS_ret, wS_set, wS_brk, wS_cnt, wS_rz0, wS_rz, wS_ite, wS_setIx, wS_try, wS_end, wR_ok, startD, wipeD, List.map_cons, List.map_nil, List.length_cons, List.length_nil, List.replicate, List.cons_append, List.nil_append, List.getElem?_cons_zero, List.getElem?_cons_succ, List.set_cons_zero, List.set_cons_succ, Option.some.injEq, exists_eq_left', Nat.reduceAdd, Nat.reduceSub, Nat.reduceLeDiff, D.int.injEq, D.bl.injEq, addD_i, subD_i, mulD_i, fdivD_i, modD_i, ltD_i, leD_i, gtD_i, geD_i, tb_b, toI_i, intF_i, intF2_i, absF_i, ixD_o, ixD_tl, ixD_tup, ixD_fz, lenF_o, lenF_tl, lenF_tup, lenF_fz, objL_o, tyOk_o, lstO_0, lstO_s, negD_i, eqD2_i, neD2_i, eqD2_s, neD2_s, eqD2_b, neD2_b, Option.bind_some, Option.map_some, Option.isSome_some, Prod.mk.injEq, and_assoc, exists_and_left, decide_eq_true_eq, Option.ite_none_right_eq_some, true_and, and_true, w_isint hy']
      cases y <;> simp only [isI, nn, Bool.false_eq_true, if_false, if_true, wR_bnd, wR_ret, wR_rd, wR_lo, wR_lof, wR_chk, wR_ite, wR_call, wR_runF, wR_newL, wR_chn, wS_seq, wS_bnd, wS_nxt, wS_ret, wS_set, wS_brk, wS_cnt, wS_rz0, wS_rz, wS_ite, wS_setIx, wS_try, wS_end, wR_ok, startD, wipeD, List.map_cons, List.map_nil, List.length_cons, List.length_nil, List.replicate, List.cons_append, List.nil_append, List.getElem?_cons_zero, List.getElem?_cons_succ, List.set_cons_zero, List.set_cons_succ, Option.some.injEq, exists_eq_left', Nat.reduceAdd, Nat.reduceSub, Nat.reduceLeDiff, D.int.injEq, D.bl.injEq, addD_i, subD_i, mulD_i, fdivD_i, modD_i, ltD_i, leD_i, gtD_i, geD_i, tb_b, toI_i, intF_i, intF2_i, absF_i, ixD_o, ixD_tl, ixD_tup, ixD_fz, lenF_o, lenF_tl, lenF_tup, lenF_fz, objL_o, tyOk_o, lstO_0, lstO_s, negD_i, eqD2_i, neD2_i, eqD2_s, neD2_s, eqD2_b, neD2_b, Option.bind_some, Option.map_some, Option.isSome_some, Prod.mk.injEq, and_assoc, exists_and_left, decide_eq_true_eq, Option.ite_none_right_eq_some, true_and, and_true, and_self]
    simp only [allF_map, Option.some.injEq, exists_eq_left', tb_b, and_true]
    by_cases c4 : (x :: r).all nn = true
    case neg =>
      have c4' : (x :: r).all nn = false := by simpa using c4
      simp only [c4', Bool.not_false, if_true]
      show false = ((x :: r).all nn && _)
      rw [c4', Bool.false_and]
    simp only [c4, Bool.not_true, Bool.false_eq_true, if_false]
    rw [deed_end c4]
    by_cases c5 : w = "join"
    · rw [if_pos c5, if_pos (show w = "join" from c5)]
      by_cases c6 : r.length = 1
      · obtain ⟨y, rfl⟩ := List.length_eq_one_iff.mp c6
        have hx := List.all_eq_true.mp c4 x (by simp)
        have hy := List.all_eq_true.mp c4 y (by simp)
        obtain ⟨i, rfl⟩ := nn_int hx
        obtain ⟨j, rfl⟩ := nn_int hy
        rw [if_pos (by rw [c6]; rfl)]
        refine ⟨_, rfl, _, rfl, _, neD2_i, ?_⟩
        simp [neI]
      · rw [if_neg (by omega)]
        simp [c6]
    · rw [if_neg c5, if_neg (show ¬ w = "join" from c5)]
      refine ⟨_, m3 G, _, in3 rfl, _, rfl, ?_⟩
      by_cases c6 : inW w = true
      · rw [if_pos c6, c6, Bool.true_and]
        rw [decide_eq_decide]
        omega
      · have c6' : inW w = false := by simpa using c6
        rw [if_neg c6, c6']
        rfl
end

end K53
end M3
end L2

set_option Elab.async false
set_option linter.all false
set_option maxRecDepth 100000
set_option maxHeartbeats 2000000
namespace L2
namespace M3
namespace K53
open PySem PySem.Spec PyProof.Rows
section
variable {k : Nat} {d : D} {G : Gs} {X : Exc → Gs → Prop}
theorem w_ldeed (hk : k ≤ 100000) (h : pd k d = true) : f__law_is_deed [d] G = .ok (.bl (deedB d)) G := by
  refine eq_of_wR ?_
  unfold f__law_is_deed b__law_is_deed
  have ht := pd_ty h
  by_cases c0 : isB d "tuple" = true
  case neg =>
    have c0' : isB d "tuple" = false := by simpa using c0
    simp only [wR_bnd, wR_ret, wR_rd, wR_lo, wR_lof, wR_chk, wR_ite, wR_call, wR_runF, wR_newL, wR_chn, wS_seq, wS_bnd, wS_nxt, wS_ret, wS_set, wS_brk, wS_cnt, wS_rz0, wS_rz, wS_ite, wS_setIx, wS_try, wS_end, wR_ok, startD, wipeD, List.map_cons, List.map_nil, List.length_cons, List.length_nil, List.replicate, List.cons_append, List.nil_append, List.getElem?_cons_zero, List.getElem?_cons_succ, List.set_cons_zero, List.set_cons_succ, Option.some.injEq, exists_eq_left', Nat.reduceAdd, Nat.reduceSub, Nat.reduceLeDiff, D.int.injEq, D.bl.injEq, addD_i, subD_i, mulD_i, fdivD_i, modD_i, ltD_i, leD_i, gtD_i, geD_i, tb_b, toI_i, intF_i, intF2_i, absF_i, ixD_o, ixD_tl, ixD_tup, ixD_fz, lenF_o, lenF_tl, lenF_tup, lenF_fz, objL_o, tyOk_o, lstO_0, lstO_s, negD_i, eqD2_i, neD2_i, eqD2_s, neD2_s, eqD2_b, neD2_b, Option.bind_some, Option.map_some, Option.isSome_some, Prod.mk.injEq, and_assoc, exists_and_left, decide_eq_true_eq, Option.ite_none_right_eq_some, true_and, and_true, is_t ht, c0', Bool.not_false, if_true, deed_nt c0', and_self]
  obtain ⟨ds, rfl⟩ := isB_tup c0
  obtain ⟨hl, hm⟩ := pd_tp.mp h
  match ds, hl, hm with
  | [], _, _ =>
    have c1 : ((0 : Nat) : Int) < 2 := by decide
    simp only [wR_bnd, wR_ret, wR_rd, wR_lo, wR_lof, wR_chk, wR_ite, wR_call, wR_runF, wR_newL, wR_chn, wS_seq, wS_bnd, wS_nxt, wS_ret, wS_set, wS_brk, wS_cnt, wS_rz0, wS_rz, wS_ite, wS_setIx, wS_try, wS_end, wR_ok, startD, wipeD, List.map_cons, List.map_nil, List.length_cons, List.length_nil, List.replicate, List.cons_append, List.nil_append, List.getElem?_cons_zero, List.getElem?_cons_succ, List.set_cons_zero, List.set_cons_succ, Option.some.injEq, exists_eq_left', Nat.reduceAdd, Nat.reduceSub, Nat.reduceLeDiff, D.int.injEq, D.bl.injEq, addD_i, subD_i, mulD_i, fdivD_i, modD_i, ltD_i, leD_i, gtD_i, geD_i, tb_b, toI_i, intF_i, intF2_i, absF_i, ixD_o, ixD_tl, ixD_tup, ixD_fz, lenF_o, lenF_tl, lenF_tup, lenF_fz, objL_o, tyOk_o, lstO_0, lstO_s, negD_i, eqD2_i, neD2_i, eqD2_s, neD2_s, eqD2_b, neD2_b, Option.bind_some, Option.map_some, Option.isSome_some, Prod.mk.injEq, and_assoc, exists_and_left, decide_eq_true_eq, Option.ite_none_right_eq_some, true_and, and_true, is_t ht, c0, Bool.not_true, Bool.false_eq_true, if_false, c1, decide_true, if_true, deedB, and_self]
  | [a], _, _ =>
    have c1 : ((0 + 1 : Nat) : Int) < 2 := by decide
    simp only [wR_bnd, wR_ret, wR_rd, wR_lo, wR_lof, wR_chk, wR_ite, wR_call, wR_runF, wR_newL, wR_chn, wS_seq, wS_bnd, wS_nxt, wS_ret, wS_set, wS_brk, wS_cnt, wS_rz0, wS_rz, wS_ite, wS_setIx, wS_try, wS_end, wR_ok, startD, wipeD, List.map_cons, List.map_nil, List.length_cons, List.length_nil, List.replicate, List.cons_append, List.nil_append, List.getElem?_cons_zero, List.getElem?_cons_succ, List.set_cons_zero, List.set_cons_succ, Option.some.injEq, exists_eq_left', Nat.reduceAdd, Nat.reduceSub, Nat.reduceLeDiff, D.int.injEq, D.bl.injEq, addD_i, subD_i, mulD_i, fdivD_i, modD_i, ltD_i, leD_i, gtD_i, geD_i, tb_b, toI_i, intF_i, intF2_i, absF_i, ixD_o, ixD_tl, ixD_tup, ixD_fz, lenF_o, lenF_tl, lenF_tup, lenF_fz, objL_o, tyOk_o, lstO_0, lstO_s, negD_i, eqD2_i, neD2_i, eqD2_s, neD2_s, eqD2_b, neD2_b, Option.bind_some, Option.map_some, Option.isSome_some, Prod.mk.injEq, and_assoc, exists_and_left, decide_eq_true_eq, Option.ite_none_right_eq_some, true_and, and_true, is_t ht, c0, Bool.not_true, Bool.false_eq_true, if_false, c1, decide_true, if_true, deedB, and_self]
  | a :: x :: r, hl, hm =>
    have ha := pd_ty (hm a (by simp))
    have c2 : ¬ ((r.length + 1 + 1 : Nat) : Int) < 2 := by omega
    by_cases c3 : isB a "str" = true
    case neg =>
      have c3' : isB a "str" = false := by simpa using c3
      simp only [wR_bnd, wR_ret, wR_rd, wR_lo, wR_lof, wR_chk, wR_ite, wR_call, wR_runF, wR_newL, wR_chn, wS_seq, wS_bnd, wS_nxt, wS_ret, wS_set, wS_brk, wS_cnt, wS_rz0, wS_rz, wS_ite, wS_setIx, wS_try, wS_end, wR_ok, startD, wipeD, List.map_cons, List.map_nil, List.length_cons, List.length_nil, List.replicate, List.cons_append, List.nil_append, List.getElem?_cons_zero, List.getElem?_cons_succ, List.set_cons_zero, List.set_cons_succ, Option.some.injEq, exists_eq_left', Nat.reduceAdd, Nat.reduceSub, Nat.reduceLeDiff, D.int.injEq, D.bl.injEq, addD_i, subD_i, mulD_i, fdivD_i, modD_i, ltD_i, leD_i, gtD_i, geD_i, tb_b, toI_i, intF_i, intF2_i, absF_i, ixD_o, ixD_tl, ixD_tup, ixD_fz, lenF_o, lenF_tl, lenF_tup, lenF_fz, objL_o, tyOk_o, lstO_0, lstO_s, negD_i, eqD2_i, neD2_i, eqD2_s, neD2_s, eqD2_b, neD2_b, Option.bind_some, Option.map_some, Option.isSome_some, Prod.mk.injEq, and_assoc, exists_and_left, decide_eq_true_eq, Option.ite_none_right_eq_some, true_and, and_true, is_t ht, c0, Bool.not_true, Bool.false_eq_true, if_false, c2, decide_false, atI_0, is_s ha, c3', Bool.not_false, if_true, deed_ns c3', and_self]
    obtain ⟨w, rfl⟩ := isB_str c3
    have q1 : ∀ G, slD (.tup (.str w :: x :: r)) (some 1) none G = some (.tup (x :: r)) := fun G => slD_tr (by decide)
    have m3 : ∀ G, mkL [.str "change", .str "fork", .str "lose"] G = some (.tl [.str "change", .str "fork", .str "lose"]) := fun G => mkL_c (by decide)
    simp only [wR_bnd, wR_ret, wR_rd, wR_lo, wR_lof, wR_chk, wR_ite, wR_call, wR_runF, wR_newL, wR_chn, wS_seq, wS_bnd, wS_nxt, wS_ret, wS_set, wS_brk, wS_cnt, wS_rz0, wS_rz, wS_ite, wS_setIx, wS_try, wS_end, wR_ok, startD, wipeD, List.map_cons, List.map_nil, List.length_cons, List.length_nil, List.replicate, List.cons_append, List.nil_append, List.getElem?_cons_zero, List.getElem?_cons_succ, List.set_cons_zero, List.set_cons_succ, Option.some.injEq, exists_eq_left', Nat.reduceAdd, Nat.reduceSub, Nat.reduceLeDiff, D.int.injEq, D.bl.injEq, addD_i, subD_i, mulD_i, fdivD_i, modD_i, ltD_i, leD_i, gtD_i, geD_i, tb_b, toI_i, intF_i, intF2_i, absF_i, ixD_o, ixD_tl, ixD_tup, ixD_fz, lenF_o, lenF_tl, lenF_tup, lenF_fz, objL_o, tyOk_o, lstO_0, lstO_s, negD_i, eqD2_i, neD2_i, eqD2_s, neD2_s, eqD2_b, neD2_b, Option.bind_some, Option.map_some, Option.isSome_some, Prod.mk.injEq, and_assoc, exists_and_left, decide_eq_true_eq, Option.ite_none_right_eq_some, true_and, and_true, is_t ht, c0, Bool.not_true, Bool.false_eq_true, if_false, c2, decide_false, atI_0, is_s ha, c3, q1, srcA_t]
    refine wS_for (its := x :: r) (fun q l G' => G' = G ∧ (∃ z, l = [some (.tup (.str w :: x :: r)), z]) ∧ ∃ p, x :: r = p ++ q ∧ p.all nn = true) rfl ⟨rfl, ⟨_, rfl⟩, [], rfl, rfl⟩ (fun _ _ G' h => by rw [h.1]; rfl) ?_ ?_
    · rintro y q l G' ⟨rfl, ⟨z, rfl⟩, p, ep, hp⟩
      have hy : y ∈ x :: r := by rw [ep]; simp
      have hy' := pd_ty (hm y (List.mem_cons_of_mem _ hy))
      have bad : nn y = false → deedB (.tup (.str w :: x :: r)) = false := fun e => by
        have : (x :: r).all nn = false := by
          rw [ep, List.all_append, List.all_cons, e]
          simp
        show ((x :: r).all nn && _) = _
        rw [this, Bool.false_and]
      simp only [wS_nm, List.set_cons_zero, List.set_cons_succ, wR_bnd, wR_ret, wR_rd, wR_lo, wR_lof, wR_chk, wR_ite, wR_call, wR_runF, wR_newL, wR_chn, wS_seq, wS_bnd, wS_nxt, wS_ret, wS_set, wS_brk, wS_cnt, wS_rz0, wS_rz, wS_ite, wS_setIx, wS_try, wS_end, wR_ok, startD, wipeD, List.map_cons, List.map_nil, List.length_cons, List.length_nil, List.replicate, List.cons_append, List.nil_append, List.getElem?_cons_zero, List.getElem?_cons_succ, List.set_cons_zero, List.set_cons_succ, Option.some.injEq, exists_eq_left', Nat.reduceAdd, Nat.reduceSub, Nat.reduceLeDiff, D.int.injEq, D.bl.injEq, addD_i, subD_i, mulD_i, fdivD_i, modD_i, ltD_i, leD_i, gtD_i, geD_i, tb_b, toI_i, intF_i, intF2_i, absF_i, ixD_o, ixD_tl, ixD_tup, ixD_fz, lenF_o, lenF_tl, lenF_tup, lenF_fz, objL_o, tyOk_o, lstO_0, lstO_s, negD_i, eqD2_i, neD2_i, eqD2_s, neD2_s, eqD2_b, neD2_b, Option.bind_some, Option.map_some, Option.isSome_some, Prod.mk.injEq, and_assoc, exists_and_left, decide_eq_true_eq, Option.ite_none_right_eq_some, true_and, and_true, is_i hy', is_b hy']
      cases y with
      | int i =>
        by_cases c : i < 0
        · have e : nn (.int i) = false := by simp only [nn, decide_eq_false_iff_not]; omega
          simp [isB, tyB, c, wR_bnd, wR_ret, wR_rd, wR_lo, wR_lof, wR_chk, wR_ite, wR_call, wR_runF, wR_newL, wR_chn, wS_seq, wS_bnd, wS_nxt, wS_ret, wS_set, wS_brk, wS_cnt, wS_rz0, wS_rz, wS_ite, wS_setIx, wS_try, wS_end, wR_ok, startD, wipeD, List.map_cons, List.map_nil, List.length_cons, List.length_nil, List.replicate, List.cons_append, List.nil_append, List.getElem?_cons_zero, List.getElem?_cons_succ, List.set_cons_zero, List.set_cons_succ, Option.some.injEq, exists_eq_left', Nat.reduceAdd, Nat.reduceSub, Nat.reduceLeDiff, D.int.injEq, D.bl.injEq, addD_i, subD_i, mulD_i, fdivD_i, modD_i, ltD_i, leD_i, gtD_i, geD_i, tb_b, toI_i, intF_i, intF2_i, absF_i, ixD_o, ixD_tl, ixD_tup, ixD_fz, lenF_o, lenF_tl, lenF_tup, lenF_fz, objL_o, tyOk_o, lstO_0, lstO_s, negD_i, eqD2_i, neD2_i, eqD2_s, neD2_s, eqD2_b, neD2_b, Option.bind_some, Option.map_some, Option.isSome_some, Prod.mk.injEq, and_assoc, exists_and_left, decide_eq_true_eq, Option.ite_none_right_eq_some, true_and, and_true, bad e]
        · have e : nn (.int i) = true := by simp only [nn, decide_eq_true_eq]; omega
          simp only [isB, tyB, c, wR_bnd, wR_ret, wR_rd, wR_lo, wR_lof, wR_chk, wR_ite, wR_call, wR_runF, wR_newL, wR_chn, wS_seq, wS_bnd, wS_nxt, wS_ret, wS_set, wS_brk, wS_cnt, wS_rz0, wS_rz, wS_ite, wS_setIx, wS_try, wS_end, wR_ok, startD, wipeD, List.map_cons, List.map_nil, List.length_cons, List.length_nil, List.replicate, List.cons_append, List.nil_append, List.getElem?_cons_zero, List.getElem?_cons_succ, List.set_cons_zero, List.set_cons_succ, Option.some.injEq, exists_eq_left', Nat.reduceAdd, Nat.reduceSub, Nat.reduceLeDiff, D.int.injEq, D.bl.injEq, addD_i, subD_i, mulD_i, fdivD_i, modD_i, ltD_i, leD_i, gtD_i, geD_i, tb_b, toI_i, intF_i, intF2_i, absF_i, ixD_o, ixD_tl, ixD_tup, ixD_fz, lenF_o, lenF_tl, lenF_tup, lenF_fz, objL_o, tyOk_o, lstO_0, lstO_s, negD_i, eqD2_i, neD2_i, eqD2_s, neD2_s, eqD2_b, neD2_b, Option.bind_some, Option.map_some, Option.isSome_some, Prod.mk.injEq, and_assoc, exists_and_left, decide_eq_true_eq, Option.ite_none_right_eq_some, true_and, and_true]
          exact ⟨⟨_, rfl⟩, p ++ [.int i], by rw [ep]; simp, by rw [List.all_append, hp]; simp [e]⟩
      | _ => simp [isB, tyB, wR_bnd, wR_ret, wR_rd, wR_lo, wR_lof, wR_chk, wR_ite, wR_call, wR_runF, wR_newL, wR_chn, wS_seq, wS_bnd, wS_nxt, wS_ret, wS_set, wS_brk, wS_cnt, wS_rz0, wS_rz, wS_ite, wS_setIx, wS_try, wS_end, wR_ok, startD, wipeD, List.map_cons, List.map_nil, List.length_cons, List.length_nil, List.replicate, List.cons_append, List.nil_append, List.getElem?_cons_zero, List.getElem?_cons_succ, List.set_cons_zero, List.set_cons_succ, Option.some.injEq, exists_eq_left', Nat.reduceAdd, Nat.reduceSub, Nat.reduceLeDiff, D.int.injEq, D.bl.injEq, addD_i, subD_i, mulD_i, fdivD_i, modD_i, ltD_i, leD_i, gtD_i, geD_i, tb_b, toI_i, intF_i, intF2_i, absF_i, ixD_o, ixD_tl, ixD_tup, ixD_fz, lenF_o, lenF_tl, lenF_tup, lenF_fz, objL_o, tyOk_o, lstO_0, lstO_s, negD_i, eqD2_i, neD2_i, eqD2_s, neD2_s, eqD2_b, neD2_b, Option.bind_some, Option.map_some, Option.isSome_some, Prod.mk.injEq, and_assoc, exists_and_left, decide_eq_true_eq, Option.ite_none_right_eq_some, true_and, and_true, bad rfl]
    · rintro l G' ⟨rfl, ⟨z, rfl⟩, p, ep, hp⟩
      rw [List.append_nil] at ep
      have c4 : (x :: r).all nn = true := by rw [ep]; exact hp
      simp only [wR_bnd, wR_ret, wR_rd, wR_lo, wR_lof, wR_chk, wR_ite, wR_call, wR_runF, wR_newL, wR_chn, wS_seq, wS_bnd, wS_nxt, wS_ret, wS_set, wS_brk, wS_cnt, wS_rz0, wS_rz, wS_ite, wS_setIx, wS_try, wS_end, wR_ok, startD, wipeD, List.map_cons, List.map_nil, List.length_cons, List.length_nil, List.replicate, List.cons_append, List.nil_append, List.getElem?_cons_zero, List.getElem?_cons_succ, List.set_cons_zero, List.set_cons_succ, Option.some.injEq, exists_eq_left', Nat.reduceAdd, Nat.reduceSub, Nat.reduceLeDiff, D.int.injEq, D.bl.injEq, addD_i, subD_i, mulD_i, fdivD_i, modD_i, ltD_i, leD_i, gtD_i, geD_i, tb_b, toI_i, intF_i, intF2_i, absF_i, ixD_o, ixD_tl, ixD_tup, ixD_fz, lenF_o, lenF_tl, lenF_tup, lenF_fz, objL_o, tyOk_o, lstO_0, lstO_s, negD_i, eqD2_i, neD2_i, eqD2_s, neD2_s, eqD2_b, neD2_b, Option.bind_some, Option.map_some, Option.isSome_some, Prod.mk.injEq, and_assoc, exists_and_left, decide_eq_true_eq, Option.ite_none_right_eq_some, true_and, and_true, atI_0]
      rw [deed_end c4]
      by_cases c5 : w = "join"
      · rw [if_pos c5, if_pos (show w = "join" from c5)]
        by_cases c6 : r.length = 1
        · obtain ⟨y, rfl⟩ := List.length_eq_one_iff.mp c6
          have hx := List.all_eq_true.mp c4 x (by simp)
          have hy := List.all_eq_true.mp c4 y (by simp)
          obtain ⟨i, rfl⟩ := nn_int hx
          obtain ⟨j, rfl⟩ := nn_int hy
          rw [if_pos (by rw [c6]; rfl)]
          refine ⟨_, rfl, _, rfl, _, neD2_i, ?_⟩
          simp [neI]
        · rw [if_neg (by omega)]
          simp [c6]
      · rw [if_neg c5, if_neg (show ¬ w = "join" from c5)]
        by_cases c6 : r.length = 0
        · rw [if_pos (by omega)]
          refine ⟨_, m3 _, _, in3l rfl, ?_⟩
          simp [c6]
        · rw [if_neg (by omega)]
          simp [c6]
def runB : D → Bool
  | .tup ds => ds.all deedB
  | _ => false
theorem w_isrun (hk : k ≤ 100000) (h : pd k d = true) : f_is_run [d] G = .ok (.bl (runB d)) G := by
  refine eq_of_wR ?_
  unfold f_is_run b_is_run
  have ht := pd_ty h
  by_cases c0 : isB d "tuple" = true
  case neg =>
    have c0' : isB d "tuple" = false := by simpa using c0
    have e : runB d = false := by
      cases d <;> first | rfl | (simp [isB, tyB] at c0)
    simp only [wR_bnd, wR_ret, wR_rd, wR_lo, wR_lof, wR_chk, wR_ite, wR_call, wR_runF, wR_newL, wR_chn, wS_seq, wS_bnd, wS_nxt, wS_ret, wS_set, wS_brk, wS_cnt, wS_rz0, wS_rz, wS_ite, wS_setIx, wS_try, wS_end, wR_ok, startD, wipeD, List.map_cons, List.map_nil, List.length_cons, List.length_nil, List.replicate, List.cons_append, List.nil_append, List.getElem?_cons_zero, List.getElem?_cons_succ, List.set_cons_zero, List.set_cons_succ, Option.some.injEq, exists_eq_left', Nat.reduceAdd, Nat.reduceSub, Nat.reduceLeDiff, D.int.injEq, D.bl.injEq, addD_i, subD_i, mulD_i, fdivD_i, modD_i, ltD_i, leD_i, gtD_i, geD_i, tb_b, toI_i, intF_i, intF2_i, absF_i, ixD_o, ixD_tl, ixD_tup, ixD_fz, lenF_o, lenF_tl, lenF_tup, lenF_fz, objL_o, tyOk_o, lstO_0, lstO_s, negD_i, eqD2_i, neD2_i, eqD2_s, neD2_s, eqD2_b, neD2_b, Option.bind_some, Option.map_some, Option.isSome_some, Prod.mk.injEq, and_assoc, exists_and_left, decide_eq_true_eq, Option.ite_none_right_eq_some, true_and, and_true, is_t ht, c0', Bool.false_eq_true, if_false, e]
  obtain ⟨ds, rfl⟩ := isB_tup c0
  obtain ⟨hl, hm⟩ := pd_tp.mp h
  simp only [wR_bnd, wR_ret, wR_rd, wR_lo, wR_lof, wR_chk, wR_ite, wR_call, wR_runF, wR_newL, wR_chn, wS_seq, wS_bnd, wS_nxt, wS_ret, wS_set, wS_brk, wS_cnt, wS_rz0, wS_rz, wS_ite, wS_setIx, wS_try, wS_end, wR_ok, startD, wipeD, List.map_cons, List.map_nil, List.length_cons, List.length_nil, List.replicate, List.cons_append, List.nil_append, List.getElem?_cons_zero, List.getElem?_cons_succ, List.set_cons_zero, List.set_cons_succ, Option.some.injEq, exists_eq_left', Nat.reduceAdd, Nat.reduceSub, Nat.reduceLeDiff, D.int.injEq, D.bl.injEq, addD_i, subD_i, mulD_i, fdivD_i, modD_i, ltD_i, leD_i, gtD_i, geD_i, tb_b, toI_i, intF_i, intF2_i, absF_i, ixD_o, ixD_tl, ixD_tup, ixD_fz, lenF_o, lenF_tl, lenF_tup, lenF_fz, objL_o, tyOk_o, lstO_0, lstO_s, negD_i, eqD2_i, neD2_i, eqD2_s, neD2_s, eqD2_b, neD2_b, Option.bind_some, Option.map_some, Option.isSome_some, Prod.mk.injEq, and_assoc, exists_and_left, decide_eq_true_eq, Option.ite_none_right_eq_some, true_and, and_true, is_t ht, c0, if_true, srcA_t]
  rw [compB ds deedB rfl (by omega) (fun y hy => eq_of_wR ?_)]
  · simp only [allF_map, startD, wipeD, List.map_cons, List.map_nil, List.length_cons, List.length_nil, List.replicate, List.cons_append, List.nil_append, List.getElem?_cons_zero, List.getElem?_cons_succ, List.set_cons_zero, List.set_cons_succ, Option.some.injEq, exists_eq_left', Nat.reduceAdd, Nat.reduceSub, Nat.reduceLeDiff, D.int.injEq, D.bl.injEq, addD_i, subD_i, mulD_i, fdivD_i, modD_i, ltD_i, leD_i, gtD_i, geD_i, tb_b, toI_i, intF_i, intF2_i, absF_i, ixD_o, ixD_tl, ixD_tup, ixD_fz, lenF_o, lenF_tl, lenF_tup, lenF_fz, objL_o, tyOk_o, lstO_0, lstO_s, negD_i, eqD2_i, neD2_i, eqD2_s, neD2_s, eqD2_b, neD2_b, Option.bind_some, Option.map_some, Option.isSome_some, Prod.mk.injEq, and_assoc, exists_and_left, decide_eq_true_eq, Option.ite_none_right_eq_some, true_and, and_true, runB]
  · simp only [wR_bnd, wR_ret, wR_rd, wR_lo, wR_lof, wR_chk, wR_ite, wR_call, wR_runF, wR_newL, wR_chn, wS_seq, wS_bnd, wS_nxt, wS_ret, wS_set, wS_brk, wS_cnt, wS_rz0, wS_rz, wS_ite, wS_setIx, wS_try, wS_end, wR_ok, startD, wipeD, List.map_cons, List.map_nil, List.length_cons, List.length_nil, List.replicate, List.cons_append, List.nil_append, List.getElem?_cons_zero, List.getElem?_cons_succ, List.set_cons_zero, List.set_cons_succ, Option.some.injEq, exists_eq_left', Nat.reduceAdd, Nat.reduceSub, Nat.reduceLeDiff, D.int.injEq, D.bl.injEq, addD_i, subD_i, mulD_i, fdivD_i, modD_i, ltD_i, leD_i, gtD_i, geD_i, tb_b, toI_i, intF_i, intF2_i, absF_i, ixD_o, ixD_tl, ixD_tup, ixD_fz, lenF_o, lenF_tl, lenF_tup, lenF_fz, objL_o, tyOk_o, lstO_0, lstO_s, negD_i, eqD2_i, neD2_i, eqD2_s, neD2_s, eqD2_b, neD2_b, Option.bind_some, Option.map_some, Option.isSome_some, Prod.mk.injEq, and_assoc, exists_and_left, decide_eq_true_eq, Option.ite_none_right_eq_some, true_and, and_true, w_isdeed hk (hm y hy), and_self]
/-! numbers -/
def dgs (l : List Nat) : Bool := l.all fun c => decide (48 ≤ c) && decide (c ≤ 57)
def dv (w : Str) : Int := ((NumText.digitsVal w.cps.toList : Nat) : Int)
def numO (w : Str) : Option Int := if (decide (1 ≤ w.length) && decide (w.length ≤ 9) && dgs w.cps.toList && !(decide (1 < w.length) && decide (w.cps.toList.head? = some 48))) = true then some (dv w) else none
def oD : Option Int → D
  | some i => .int i
  | none => .non
theorem fig_in {c : Nat} : inS false (.str ⟨#[c]⟩) (.str "0123456789") G = some (.bl (decide (48 ≤ c) && decide (c ≤ 57))) := by
  show some (D.bl (decide (c ∈ ("0123456789" : Str).cps.toList))) = _
  have e : ("0123456789" : Str).cps.toList = [48, 49, 50, 51, 52, 53, 54, 55, 56, 57] := by decide
  rw [e]
  congr 2
  rw [Bool.eq_iff_iff]
  simp only [List.mem_cons, List.not_mem_nil, or_false, decide_eq_true_eq, Bool.and_eq_true]
  omega
theorem sign_of (x : D) (w : Str) (hx : x ∈ w.cps.toList.map fun c => D.str ⟨#[c]⟩) : ∃ c, x = .str ⟨#[c]⟩ := by
  obtain ⟨c, _, rfl⟩ := List.mem_map.mp hx
  exact ⟨c, rfl⟩
def sg : D → Bool
  | .str w => dgs w.cps.toList
  | _ => false
theorem sg_all (w : Str) : (w.cps.toList.map fun c => D.str ⟨#[c]⟩).all sg = dgs w.cps.toList := by
  rw [List.all_map]
  unfold dgs
  congr 1
  funext c
  simp [sg, dgs]
theorem len_tl' (w : Str) : w.length = w.cps.toList.length := by
  show w.cps.size = _
  simp
theorem w_number {w : Str} (hw : w.length ≤ 1000000) : f_number_of [.str w] G = .ok (oD (numO w)) G := by
  refine eq_of_wR ?_
  unfold f_number_of b_number_of
  have hl : ∀ G, lenF [.str w] G = some (.int w.length) := fun G => lenF_str (by omega)
  have hs : ∀ G, toSrcA (.str w) G = some (.str w) := fun G => srcA_s (by omega)
  by_cases c1 : 1 ≤ w.length
  case neg =>
    have c1' : ¬ (1 : Int) ≤ w.length := by omega
    have e : numO w = none := by simp [numO, c1]
    simp only [wR_bnd, wR_ret, wR_rd, wR_lo, wR_lof, wR_chk, wR_ite, wR_call, wR_runF, wR_newL, wR_chn, wS_seq, wS_bnd, wS_nxt, wS_ret, wS_set, wS_brk, wS_cnt, wS_rz0, wS_rz, wS_ite, wS_setIx, wS_try, wS_end, wR_ok, startD, wipeD, List.map_cons, List.map_nil, List.length_cons, List.length_nil, List.replicate, List.cons_append, List.nil_append, List.getElem?_cons_zero, List.getElem?_cons_succ, List.set_cons_zero, List.set_cons_succ, Option.some.injEq, exists_eq_left', Nat.reduceAdd, Nat.reduceSub, Nat.reduceLeDiff, D.int.injEq, D.bl.injEq, addD_i, subD_i, mulD_i, fdivD_i, modD_i, ltD_i, leD_i, gtD_i, geD_i, tb_b, toI_i, intF_i, intF2_i, absF_i, ixD_o, ixD_tl, ixD_tup, ixD_fz, lenF_o, lenF_tl, lenF_tup, lenF_fz, objL_o, tyOk_o, lstO_0, lstO_s, negD_i, eqD2_i, neD2_i, eqD2_s, neD2_s, eqD2_b, neD2_b, Option.bind_some, Option.map_some, Option.isSome_some, Prod.mk.injEq, and_assoc, exists_and_left, decide_eq_true_eq, Option.ite_none_right_eq_some, true_and, and_true, hl, c1', decide_false, Bool.false_eq_true, if_false, Bool.not_false, if_true, e, oD, and_self]
  by_cases c2 : w.length ≤ 9
  case neg =>
    have c1' : (1 : Int) ≤ w.length := by omega
    have c2' : ¬ (w.length : Int) ≤ 9 := by omega
    have e : numO w = none := by simp [numO, c2]
    simp only [wR_bnd, wR_ret, wR_rd, wR_lo, wR_lof, wR_chk, wR_ite, wR_call, wR_runF, wR_newL, wR_chn, wS_seq, wS_bnd, wS_nxt, wS_ret, wS_set, wS_brk, wS_cnt, wS_rz0, wS_rz, wS_ite, wS_setIx, wS_try, wS_end, wR_ok, startD, wipeD, List.map_cons, List.map_nil, List.length_cons, List.length_nil, List.replicate, List.cons_append, List.nil_append, List.getElem?_cons_zero, List.getElem?_cons_succ, List.set_cons_zero, List.set_cons_succ, Option.some.injEq, exists_eq_left', Nat.reduceAdd, Nat.reduceSub, Nat.reduceLeDiff, D.int.injEq, D.bl.injEq, addD_i, subD_i, mulD_i, fdivD_i, modD_i, ltD_i, leD_i, gtD_i, geD_i, tb_b, toI_i, intF_i, intF2_i, absF_i, ixD_o, ixD_tl, ixD_tup, ixD_fz, lenF_o, lenF_tl, lenF_tup, lenF_fz, objL_o, tyOk_o, lstO_0, lstO_s, negD_i, eqD2_i, neD2_i, eqD2_s, neD2_s, eqD2_b, neD2_b, Option.bind_some, Option.map_some, Option.isSome_some, Prod.mk.injEq, and_assoc, exists_and_left, decide_eq_true_eq, Option.ite_none_right_eq_some, true_and, and_true, hl, c1', c2', decide_true, decide_false, Bool.false_eq_true, if_false, Bool.not_false, if_true, e, oD, and_self]
  have c1' : (1 : Int) ≤ w.length := by omega
  have c2' : (w.length : Int) ≤ 9 := by omega
  simp only [wR_bnd, wR_ret, wR_rd, wR_lo, wR_lof, wR_chk, wR_ite, wR_call, wR_runF, wR_newL, wR_chn, wS_seq, wS_bnd, wS_nxt, wS_ret, wS_set, wS_brk, wS_cnt, wS_rz0, wS_rz, wS_ite, wS_setIx, wS_try, wS_end, wR_ok, startD, wipeD, List.map_cons, List.map_nil, List.length_cons, List.length_nil, List.replicate, List.cons_append, List.nil_append, List.getElem?_cons_zero, List.getElem?_cons_succ, List.set_cons_zero, List.set_cons_succ, Option.some.injEq, exists_eq_left', Nat.reduceAdd, Nat.reduceSub, Nat.reduceLeDiff, D.int.injEq, D.bl.injEq, addD_i, subD_i, mulD_i, fdivD_i, modD_i, ltD_i, leD_i, gtD_i, geD_i, tb_b, toI_i, intF_i, intF2_i, absF_i, ixD_o, ixD_tl, ixD_tup, ixD_fz, lenF_o, lenF_tl, lenF_tup, lenF_fz, objL_o, tyOk_o, lstO_0, lstO_s, negD_i, eqD2_i, neD2_i, eqD2_s, neD2_s, eqD2_b, neD2_b, Option.bind_some, Option.map_some, Option.isSome_some, Prod.mk.injEq, and_assoc, exists_and_left, decide_eq_true_eq, Option.ite_none_right_eq_some, true_and, and_true, hl, c1', c2', decide_true, if_true, Bool.not_true, Bool.false_eq_true, if_false, hs]
  rw [compB (w.cps.toList.map fun c => D.str ⟨#[c]⟩) sg (itemsS (by omega)) (by rw [List.length_map, ← len_tl']; omega) (fun y hy => eq_of_wR ?_)]
  rotate_left
  · obtain ⟨c, rfl⟩ := sign_of y w hy
    simp only [wR_bnd, wR_ret, wR_rd, wR_lo, wR_lof, wR_chk, wR_ite, wR_call, wR_runF, wR_newL, wR_chn, wS_seq, wS_bnd, wS_nxt, wS_ret, wS_set, wS_brk, wS_cnt, wS_rz0, wS_rz, wS_ite, wS_setIx, wS_try, wS_end, wR_ok, startD, wipeD, List.map_cons, List.map_nil, List.length_cons, List.length_nil, List.replicate, List.cons_append, List.nil_append, List.getElem?_cons_zero, List.getElem?_cons_succ, List.set_cons_zero, List.set_cons_succ, Option.some.injEq, exists_eq_left', Nat.reduceAdd, Nat.reduceSub, Nat.reduceLeDiff, D.int.injEq, D.bl.injEq, addD_i, subD_i, mulD_i, fdivD_i, modD_i, ltD_i, leD_i, gtD_i, geD_i, tb_b, toI_i, intF_i, intF2_i, absF_i, ixD_o, ixD_tl, ixD_tup, ixD_fz, lenF_o, lenF_tl, lenF_tup, lenF_fz, objL_o, tyOk_o, lstO_0, lstO_s, negD_i, eqD2_i, neD2_i, eqD2_s, neD2_s, eqD2_b, neD2_b, Option.bind_some, Option.map_some, Option.isSome_some, Prod.mk.injEq, and_assoc, exists_and_left, decide_eq_true_eq, Option.ite_none_right_eq_some, true_and, and_true, fig_in]
    simp [sg, dgs]
  simp only [allF_map, Option.some.injEq, exists_eq_left', tb_b, sg_all]
  by_cases c3 : dgs w.cps.toList = true
  case neg =>
    have c3' : dgs w.cps.toList = false := by simpa using c3
    have e : numO w = none := by simp [numO, c3']
    simp only [c3', Bool.not_false, if_true, e, oD, and_self]
  simp only [c3, Bool.not_true, Bool.false_eq_true, if_false]
  have hne : w.cps.toList ≠ [] := fun z => by rw [len_tl', z] at c1; simp at c1
  obtain ⟨c, t, et⟩ := List.exists_cons_of_ne_nil hne
  have hx : ∀ G, ixD (.str w) (.int 0) G = some (.str ⟨#[c]⟩) := fun G => by
    rw [ixD_s (by omega), et, atI_0]
    rfl
  have hv : intF2 [.str w] G = some (.int (dv w)) := by
    show (if w.length ≤ 640 then (PySem.intText? w).map D.int else none) = _
    rw [if_pos (by omega), intText_digits ?_ hne (by omega)]
    · rfl
    · intro z hz
      have := List.all_eq_true.mp c3 z hz
      simp only [Bool.and_eq_true, decide_eq_true_eq] at this
      exact this
  have e0 : ((⟨#[c]⟩ : Str) = "0") ↔ c = 48 := by
    constructor
    · intro h
      have := congrArg (fun s : Str => s.cps.toList) h
      have e : ("0" : Str).cps.toList = [48] := by decide
      simp only [e] at this
      simpa using this
    · rintro rfl
      decide
  by_cases c4 : 1 < w.length
  · have c4' : (1 : Int) < w.length := by omega
    by_cases c5 : c = 48
    · have e : numO w = none := by simp [numO, c4, et, c5]
      simp only [wR_bnd, wR_ret, wR_rd, wR_lo, wR_lof, wR_chk, wR_ite, wR_call, wR_runF, wR_newL, wR_chn, wS_seq, wS_bnd, wS_nxt, wS_ret, wS_set, wS_brk, wS_cnt, wS_rz0, wS_rz, wS_ite, wS_setIx, wS_try, wS_end, wR_ok, startD, wipeD, List.map_cons, List.map_nil, List.length_cons, List.length_nil, List.replicate, List.cons_append, List.nil_append, List.getElem?_cons_zero, List.getElem?_cons_succ, List.set_cons_zero, List.set_cons_succ, Option.some.injEq, exists_eq_left', Nat.reduceAdd, Nat.reduceSub, Nat.reduceLeDiff, D.int.injEq, D.bl.injEq, addD_i, subD_i, mulD_i, fdivD_i, modD_i, ltD_i, leD_i, gtD_i, geD_i, tb_b, toI_i, intF_i, intF2_i, absF_i, ixD_o, ixD_tl, ixD_tup, ixD_fz, lenF_o, lenF_tl, lenF_tup, lenF_fz, objL_o, tyOk_o, lstO_0, lstO_s, negD_i, eqD2_i, neD2_i, eqD2_s, neD2_s, eqD2_b, neD2_b, Option.bind_some, Option.map_some, Option.isSome_some, Prod.mk.injEq, and_assoc, exists_and_left, decide_eq_true_eq, Option.ite_none_right_eq_some, true_and, and_true, hl, c4', decide_true, if_true, hx, eq_true (e0.mpr c5), e, oD, and_self]
    · have e : numO w = some (dv w) := by
        unfold numO
        rw [if_pos (by rw [c3]; simp [c1, c2, et, c5])]
      simp only [wR_bnd, wR_ret, wR_rd, wR_lo, wR_lof, wR_chk, wR_ite, wR_call, wR_runF, wR_newL, wR_chn, wS_seq, wS_bnd, wS_nxt, wS_ret, wS_set, wS_brk, wS_cnt, wS_rz0, wS_rz, wS_ite, wS_setIx, wS_try, wS_end, wR_ok, startD, wipeD, List.map_cons, List.map_nil, List.length_cons, List.length_nil, List.replicate, List.cons_append, List.nil_append, List.getElem?_cons_zero, List.getElem?_cons_succ, List.set_cons_zero, List.set_cons_succ, Option.some.injEq, exists_eq_left', Nat.reduceAdd, Nat.reduceSub, Nat.reduceLeDiff, D.int.injEq, D.bl.injEq, addD_i, subD_i, mulD_i, fdivD_i, modD_i, ltD_i, leD_i, gtD_i, geD_i, tb_b, toI_i, intF_i, intF2_i, absF_i, ixD_o, ixD_tl, ixD_tup, ixD_fz, lenF_o, lenF_tl, lenF_tup, lenF_fz, objL_o, tyOk_o, lstO_0, lstO_s, negD_i, eqD2_i, neD2_i, eqD2_s, neD2_s, eqD2_b, neD2_b, Option.bind_some, Option.map_some, Option.isSome_some, Prod.mk.injEq, and_assoc, exists_and_left, decide_eq_true_eq, Option.ite_none_right_eq_some, true_and, and_true, hl, c4', decide_true, if_true, hx, eq_false (fun z => c5 (e0.mp z)), decide_false, Bool.false_eq_true, if_false, hv, e, oD, and_self]
  · have c4' : ¬ (1 : Int) < w.length := by omega
    have e : numO w = some (dv w) := by
      unfold numO
      rw [if_pos (by simp [c1, c2, c3, c4])]
    simp only [wR_bnd, wR_ret, wR_rd, wR_lo, wR_lof, wR_chk, wR_ite, wR_call, wR_runF, wR_newL, wR_chn, wS_seq, wS_bnd, wS_nxt, wS_ret, wS_set, wS_brk, wS_cnt, wS_rz0, wS_rz, wS_ite, wS_setIx, wS_try, wS_end, wR_ok, startD, wipeD, List.map_cons, List.map_nil, List.length_cons, List.length_nil, List.replicate, List.cons_append, List.nil_append, List.getElem?_cons_zero, List.getElem?_cons_succ, List.set_cons_zero, List.set_cons_succ, Option.some.injEq, exists_eq_left', Nat.reduceAdd, Nat.reduceSub, Nat.reduceLeDiff, D.int.injEq, D.bl.injEq, addD_i, subD_i, mulD_i, fdivD_i, modD_i, ltD_i, leD_i, gtD_i, geD_i, tb_b, toI_i, intF_i, intF2_i, absF_i, ixD_o, ixD_tl, ixD_tup, ixD_fz, lenF_o, lenF_tl, lenF_tup, lenF_fz, objL_o, tyOk_o, lstO_0, lstO_s, negD_i, eqD2_i, neD2_i, eqD2_s, neD2_s, eqD2_b, neD2_b, Option.bind_some, Option.map_some, Option.isSome_some, Prod.mk.injEq, and_assoc, exists_and_left, decide_eq_true_eq, Option.ite_none_right_eq_some, true_and, and_true, hl, c4', decide_false, Bool.false_eq_true, if_false, hv, e, oD, and_self]
end

end K53
end M3
end L2

set_option Elab.async false
set_option linter.all false
set_option maxRecDepth 100000
set_option maxHeartbeats 2000000
namespace L2
namespace M3
namespace K53
open PySem PySem.Spec PyProof.Rows
section
variable {k : Nat} {d : D} {G : Gs} {X : Exc → Gs → Prop}
theorem numO_hd {w : Str} {c : Nat} {t : List Nat} (et : w.cps.toList = c :: t) (h1 : 1 ≤ w.length) (h2 : w.length ≤ 9) (h3 : dgs w.cps.toList = true) : numO w = if c = 48 ∧ 1 < w.length then none else some (dv w) := by
  unfold numO
  by_cases c4 : 1 < w.length
  · by_cases c5 : c = 48
    · simp [c4, et, c5]
    · rw [if_pos (by rw [h3]; simp [h1, h2, et, c5]), if_neg (fun z => c5 z.1)]
  · rw [if_pos (by rw [h3]; simp [h1, h2, c4]), if_neg (fun z => c4 z.2)]
theorem zero_iff {c : Nat} : ((⟨#[c]⟩ : Str) = "0") ↔ c = 48 := by
  constructor
  · intro h
    have := congrArg (fun s : Str => s.cps.toList) h
    have e : ("0" : Str).cps.toList = [48] := by decide
    simp only [e] at this
    simpa using this
  · rintro rfl
    decide
theorem int_dg {w : Str} (h1 : 1 ≤ w.length) (h2 : w.length ≤ 9) (h3 : dgs w.cps.toList = true) : intF2 [.str w] G = some (.int (dv w)) := by
  show (if w.length ≤ 640 then (PySem.intText? w).map D.int else none) = _
  have hne : w.cps.toList ≠ [] := fun z => by rw [len_tl', z] at h1; simp at h1
  rw [if_pos (by omega), intText_digits ?_ hne (by omega)]
  · rfl
  · intro z hz
    have := List.all_eq_true.mp h3 z hz
    simp only [Bool.and_eq_true, decide_eq_true_eq] at this
    exact this
theorem w_lnumber {w : Str} (hw : w.length ≤ 1000000) : f__law_number [.str w] G = .ok (oD (numO w)) G := by
  refine eq_of_wR ?_
  unfold f__law_number b__law_number
  have hl : ∀ G, lenF [.str w] G = some (.int w.length) := fun G => lenF_str (by omega)
  have hs : ∀ G, toSrcA (.str w) G = some (.str w) := fun G => srcA_s (by omega)
  by_cases c1 : 1 ≤ w.length
  case neg =>
    have c1' : ¬ (1 : Int) ≤ w.length := by omega
    have e : numO w = none := by simp [numO, c1]
    simp only [wR_bnd, wR_ret, wR_rd, wR_lo, wR_lof, wR_chk, wR_ite, wR_call, wR_runF, wR_newL, wR_chn, wS_seq, wS_bnd, wS_nxt, wS_ret, wS_set, wS_brk, wS_cnt, wS_rz0, wS_rz, wS_ite, wS_setIx, wS_try, wS_end, wR_ok, startD, wipeD, List.map_cons, List.map_nil, List.length_cons, List.length_nil, List.replicate, List.cons_append, List.nil_append, List.getElem?_cons_zero, List.getElem?_cons_succ, List.set_cons_zero, List.set_cons_succ, Option.some.injEq, exists_eq_left', Nat.reduceAdd, Nat.reduceSub, Nat.reduceLeDiff, D.int.injEq, D.bl.injEq, addD_i, subD_i, mulD_i, fdivD_i, modD_i, ltD_i, leD_i, gtD_i, geD_i, tb_b, toI_i, intF_i, intF2_i, absF_i, ixD_o, ixD_tl, ixD_tup, ixD_fz, lenF_o, lenF_tl, lenF_tup, lenF_fz, objL_o, tyOk_o, lstO_0, lstO_s, negD_i, eqD2_i, neD2_i, eqD2_s, neD2_s, eqD2_b, neD2_b, Option.bind_some, Option.map_some, Option.isSome_some, Prod.mk.injEq, and_assoc, exists_and_left, decide_eq_true_eq, Option.ite_none_right_eq_some, true_and, and_true, hl, c1', decide_false, Bool.false_eq_true, if_false, Bool.not_false, if_true, e, oD, and_self]
  by_cases c2 : w.length ≤ 9
  case neg =>
    have c1' : (1 : Int) ≤ w.length := by omega
    have c2' : ¬ (w.length : Int) ≤ 9 := by omega
    have e : numO w = none := by simp [numO, c2]
    simp only [wR_bnd, wR_ret, wR_rd, wR_lo, wR_lof, wR_chk, wR_ite, wR_call, wR_runF, wR_newL, wR_chn, wS_seq, wS_bnd, wS_nxt, wS_ret, wS_set, wS_brk, wS_cnt, wS_rz0, wS_rz, wS_ite, wS_setIx, wS_try, wS_end, wR_ok, startD, wipeD, List.map_cons, List.map_nil, List.length_cons, List.length_nil, List.replicate, List.cons_append, List.nil_append, List.getElem?_cons_zero, List.getElem?_cons_succ, List.set_cons_zero, List.set_cons_succ, Option.some.injEq, exists_eq_left', Nat.reduceAdd, Nat.reduceSub, Nat.reduceLeDiff, D.int.injEq, D.bl.injEq, addD_i, subD_i, mulD_i, fdivD_i, modD_i, ltD_i, leD_i, gtD_i, geD_i, tb_b, toI_i, intF_i, intF2_i, absF_i, ixD_o, ixD_tl, ixD_tup, ixD_fz, lenF_o, lenF_tl, lenF_tup, lenF_fz, objL_o, tyOk_o, lstO_0, lstO_s, negD_i, eqD2_i, neD2_i, eqD2_s, neD2_s, eqD2_b, neD2_b, Option.bind_some, Option.map_some, Option.isSome_some, Prod.mk.injEq, and_assoc, exists_and_left, decide_eq_true_eq, Option.ite_none_right_eq_some, true_and, and_true, hl, c1', c2', decide_true, decide_false, Bool.false_eq_true, if_false, Bool.not_false, if_true, e, oD, and_self]
  have c1' : (1 : Int) ≤ w.length := by omega
  have c2' : (w.length : Int) ≤ 9 := by omega
  simp only [wR_bnd, wR_ret, wR_rd, wR_lo, wR_lof, wR_chk, wR_ite, wR_call, wR_runF, wR_newL, wR_chn, wS_seq, wS_bnd, wS_nxt, wS_ret, wS_set, wS_brk, wS_cnt, wS_rz0, wS_rz, wS_ite, wS_setIx, wS_try, wS_end, wR_ok, startD, wipeD, List.map_cons, List.map_nil, List.length_cons, List.length_nil, List.replicate, List.cons_append, List.nil_append, List.getElem?_cons_zero, List.getElem?_cons_succ, List.set_cons_zero, List.set_cons_succ, Option.some.injEq, exists_eq_left', Nat.reduceAdd, Nat.reduceSub, Nat.reduceLeDiff, D.int.injEq, D.bl.injEq, addD_i, subD_i, mulD_i, fdivD_i, modD_i, ltD_i, leD_i, gtD_i, geD_i, tb_b, toI_i, intF_i, intF2_i, absF_i, ixD_o, ixD_tl, ixD_tup, ixD_fz, lenF_o, lenF_tl, lenF_tup, lenF_fz, objL_o, tyOk_o, lstO_0, lstO_s, negD_i, eqD2_i, neD2_i, eqD2_s, neD2_s, eqD2_b, neD2_b, Option.bind_some, Option.map_some, Option.isSome_some, Prod.mk.injEq, and_assoc, exists_and_left, decide_eq_true_eq, Option.ite_none_right_eq_some, true_and, and_true, hl, c1', c2', decide_true, if_true, Bool.not_true, Bool.false_eq_true, if_false, hs]
  rw [compB (w.cps.toList.map fun c => D.str ⟨#[c]⟩) sg (itemsS (by omega)) (by rw [List.length_map, ← len_tl']; omega) (fun y hy => eq_of_wR ?_)]
  rotate_left
  · obtain ⟨c, rfl⟩ := sign_of y w hy
    simp only [wR_bnd, wR_ret, wR_rd, wR_lo, wR_lof, wR_chk, wR_ite, wR_call, wR_runF, wR_newL, wR_chn, wS_seq, wS_bnd, wS_nxt, wS_ret, wS_set, wS_brk, wS_cnt, wS_rz0, wS_rz, wS_ite, wS_setIx, wS_try, wS_end, wR_ok, startD, wipeD, List.map_cons, List.map_nil, List.length_cons, List.length_nil, List.replicate, List.cons_append, List.nil_append, List.getElem?_cons_zero, List.getElem?_cons_succ, List.set_cons_zero, List.set_cons_succ, Option.some.injEq, exists_eq_left', Nat.reduceAdd, Nat.reduceSub, Nat.reduceLeDiff, D.int.injEq, D.bl.injEq, addD_i, subD_i, mulD_i, fdivD_i, modD_i, ltD_i, leD_i, gtD_i, geD_i, tb_b, toI_i, intF_i, intF2_i, absF_i, ixD_o, ixD_tl, ixD_tup, ixD_fz, lenF_o, lenF_tl, lenF_tup, lenF_fz, objL_o, tyOk_o, lstO_0, lstO_s, negD_i, eqD2_i, neD2_i, eqD2_s, neD2_s, eqD2_b, neD2_b, Option.bind_some, Option.map_some, Option.isSome_some, Prod.mk.injEq, and_assoc, exists_and_left, decide_eq_true_eq, Option.ite_none_right_eq_some, true_and, and_true, fig_in]
    simp [sg, dgs]
  simp only [allF_map, Option.some.injEq, exists_eq_left', tb_b, sg_all]
  by_cases c3 : dgs w.cps.toList = true
  case neg =>
    have c3' : dgs w.cps.toList = false := by simpa using c3
    have e : numO w = none := by simp [numO, c3']
    simp only [c3', Bool.not_false, if_true, e, oD, and_self]
  simp only [c3, Bool.not_true, Bool.false_eq_true, if_false]
  have hne : w.cps.toList ≠ [] := fun z => by rw [len_tl', z] at c1; simp at c1
  obtain ⟨c, t, et⟩ := List.exists_cons_of_ne_nil hne
  have hx : ∀ G, ixD (.str w) (.int 0) G = some (.str ⟨#[c]⟩) := fun G => by
    rw [ixD_s (by omega), et, atI_0]
    rfl
  rw [numO_hd et c1 c2 c3]
  by_cases c5 : c = 48
  · by_cases c4 : 1 < w.length
    · have c4' : (1 : Int) < w.length := by omega
      simp only [wR_bnd, wR_ret, wR_rd, wR_lo, wR_lof, wR_chk, wR_ite, wR_call, wR_runF, wR_newL, wR_chn, wS_seq, wS_bnd, wS_nxt, wS_ret, wS_set, wS_brk, wS_cnt, wS_rz0, wS_rz, wS_ite, wS_setIx, wS_try, wS_end, wR_ok, startD, wipeD, List.map_cons, List.map_nil, List.length_cons, List.length_nil, List.replicate, List.cons_append, List.nil_append, List.getElem?_cons_zero, List.getElem?_cons_succ, List.set_cons_zero, List.set_cons_succ, Option.some.injEq, exists_eq_left', Nat.reduceAdd, Nat.reduceSub, Nat.reduceLeDiff, D.int.injEq, D.bl.injEq, addD_i, subD_i, mulD_i, fdivD_i, modD_i, ltD_i, leD_i, gtD_i, geD_i, tb_b, toI_i, intF_i, intF2_i, absF_i, ixD_o, ixD_tl, ixD_tup, ixD_fz, lenF_o, lenF_tl, lenF_tup, lenF_fz, objL_o, tyOk_o, lstO_0, lstO_s, negD_i, eqD2_i, neD2_i, eqD2_s, neD2_s, eqD2_b, neD2_b, Option.bind_some, Option.map_some, Option.isSome_some, Prod.mk.injEq, and_assoc, exists_and_left, decide_eq_true_eq, Option.ite_none_right_eq_some, true_and, and_true, hl, c4', decide_true, if_true, hx, eq_true (zero_iff.mpr c5)]
      simp [c5, c4, oD]
    · have c4' : ¬ (1 : Int) < w.length := by omega
      simp only [wR_bnd, wR_ret, wR_rd, wR_lo, wR_lof, wR_chk, wR_ite, wR_call, wR_runF, wR_newL, wR_chn, wS_seq, wS_bnd, wS_nxt, wS_ret, wS_set, wS_brk, wS_cnt, wS_rz0, wS_rz, wS_ite, wS_setIx, wS_try, wS_end, wR_ok, startD, wipeD, List.map_cons, List.map_nil, List.length_cons, List.length_nil, List.replicate, List.cons_append, List.nil_append, List.getElem?_cons_zero, List.getElem?_cons_succ, List.set_cons_zero, List.set_cons_succ, Option.some.injEq, exists_eq_left', Nat.reduceAdd, Nat.reduceSub, Nat.reduceLeDiff, D.int.injEq, D.bl.injEq, addD_i, subD_i, mulD_i, fdivD_i, modD_i, ltD_i, leD_i, gtD_i, geD_i, tb_b, toI_i, intF_i, intF2_i, absF_i, ixD_o, ixD_tl, ixD_tup, ixD_fz, lenF_o, lenF_tl, lenF_tup, lenF_fz, objL_o, tyOk_o, lstO_0, lstO_s, negD_i, eqD2_i, neD2_i, eqD2_s, neD2_s, eqD2_b, neD2_b, Option.bind_some, Option.map_some, Option.isSome_some, Prod.mk.injEq, and_assoc, exists_and_left, decide_eq_true_eq, Option.ite_none_right_eq_some, true_and, and_true, hl, c4', decide_true, decide_false, Bool.false_eq_true, if_false, if_true, hx, eq_true (zero_iff.mpr c5), int_dg c1 c2 c3]
      simp [c4, oD]
  · simp only [wR_bnd, wR_ret, wR_rd, wR_lo, wR_lof, wR_chk, wR_ite, wR_call, wR_runF, wR_newL, wR_chn, wS_seq, wS_bnd, wS_nxt, wS_ret, wS_set, wS_brk, wS_cnt, wS_rz0, wS_rz, wS_ite, wS_setIx, wS_try, wS_end, wR_ok, startD, wipeD, List.map_cons, List.map_nil, List.length_cons, List.length_nil, List.replicate, List.cons_append, List.nil_append, List.getElem?_cons_zero, List.getElem?_cons_succ, List.set_cons_zero, List.set_cons_succ, Option.some.injEq, exists_eq_left', Nat.reduceAdd, Nat.reduceSub, Nat.reduceLeDiff, D.int.injEq, D.bl.injEq, addD_i, subD_i, mulD_i, fdivD_i, modD_i, ltD_i, leD_i, gtD_i, geD_i, tb_b, toI_i, intF_i, intF2_i, absF_i, ixD_o, ixD_tl, ixD_tup, ixD_fz, lenF_o, lenF_tl, lenF_tup, lenF_fz, objL_o, tyOk_o, lstO_0, lstO_s, negD_i, eqD2_i, neD2_i, eqD2_s, neD2_s, eqD2_b, neD2_b, Option.bind_some, Option.map_some, Option.isSome_some, Prod.mk.injEq, and_assoc, exists_and_left, decide_eq_true_eq, Option.ite_none_right_eq_some, true_and, and_true, hl, decide_false, Bool.false_eq_true, if_false, hx, eq_false (fun z => c5 (zero_iff.mp z)), int_dg c1 c2 c3]
    simp [c5, oD]
theorem oD_some {i : Int} : oD (some i) = .int i := rfl
theorem oD_none : oD none = .non := rfl
/-- all of them numbers -/
def nums : List Str → Option (List Int)
  | [] => some []
  | w :: r => match numO w, nums r with
    | some i, some is => some (i :: is)
    | _, _ => none
theorem numO_lt {w : Str} {i : Int} (h : numO w = some i) : 0 ≤ i ∧ i < 1000000000 := by
  unfold numO at h
  split at h
  · rename_i c
    cases h
    simp only [Bool.and_eq_true, decide_eq_true_eq] at c
    obtain ⟨⟨⟨c1, c2⟩, c3⟩, _⟩ := c
    have hd : ∀ z ∈ w.cps.toList, 48 ≤ z ∧ z ≤ 57 := fun z hz => by
      have := List.all_eq_true.mp c3 z hz
      simp only [Bool.and_eq_true, decide_eq_true_eq] at this
      exact this
    have key : ∀ (l : List Nat) (a : Nat), (∀ z ∈ l, 48 ≤ z ∧ z ≤ 57) → l.foldl (fun acc c => acc * 10 + (c - 48)) a < (a + 1) * 10 ^ l.length := by
      intro l
      induction l with
      | nil => intro a _; simp
      | cons z l ih =>
        intro a hz
        have h1 := hz z (by simp)
        have h2 := ih (a * 10 + (z - 48)) fun y hy => hz y (by simp [hy])
        simp only [List.foldl_cons, List.length_cons]
        refine Nat.lt_of_lt_of_le h2 ?_
        have h3 : a * 10 + (z - 48) + 1 ≤ (a + 1) * 10 := by omega
        rw [Nat.pow_succ, Nat.mul_comm (10 ^ l.length) 10, ← Nat.mul_assoc]
        exact Nat.mul_le_mul_right _ h3
    have h4 := key w.cps.toList 0 hd
    have h5 : 10 ^ w.cps.toList.length ≤ 10 ^ 9 := Nat.pow_le_pow_right (by omega) (by rw [← len_tl']; exact c2)
    have h6 : NumText.digitsVal w.cps.toList = w.cps.toList.foldl (fun acc c => acc * 10 + (c - 48)) 0 := rfl
    unfold dv
    rw [h6]
    omega
  · cases h
theorem nums_some {ws : List Str} {is : List Int} (h : nums ws = some is) : (ws.map fun w => oD (numO w)) = is.map D.int ∧ ∀ i ∈ is, 0 ≤ i ∧ i < 1000000000 := by
  induction ws generalizing is with
  | nil => cases h; exact ⟨rfl, fun i hi => by cases hi⟩
  | cons w r ih =>
    simp only [nums] at h
    split at h
    · rename_i i is' e1 e2
      cases h
      obtain ⟨h1, h2⟩ := ih e2
      refine ⟨by rw [List.map_cons, List.map_cons, e1, h1, oD_some], fun j hj => ?_⟩
      rcases List.mem_cons.mp hj with rfl | hj
      · exact numO_lt e1
      · exact h2 j hj
    · cases h
def isNon : D → Bool
  | .non => true
  | _ => false
theorem nums_none {ws : List Str} (h : nums ws = none) : (ws.map fun w => oD (numO w)).any isNon = true := by
  induction ws with
  | nil => cases h
  | cons w r ih =>
    simp only [nums] at h
    cases e1 : numO w with
    | none => simp [e1, oD_none, isNon]
    | some i =>
      cases e2 : nums r with
      | none => simp [ih e2]
      | some is => rw [e1, e2] at h; cases h
theorem flat_oD : ∀ ws : List Str, allOf flat (ws.map fun w => oD (numO w)) = some (ws.map fun w => match numO w with | some i => V.int i | none => V.non)
  | [] => rfl
  | w :: r => by
    have ih := flat_oD r
    rw [List.map_cons, List.map_cons]
    cases e : numO w with
    | none => simp only [oD_none, allOf, flat, ih]
    | some i => simp only [oD_some, allOf, flat, ih]
theorem inV_non : ∀ ws : List Str, inV .non (ws.map fun w => match numO w with | some i => V.int i | none => V.non) = (nums ws).isNone
  | [] => rfl
  | w :: r => by
    have ih := inV_non r
    cases e : numO w with
    | none =>
      simp only [List.map_cons, e]
      simp [nums, e, inV, L2.eqV]
    | some i =>
      simp only [List.map_cons, e]
      have : inV .non (V.int i :: (r.map fun w => match numO w with | some i => V.int i | none => V.non)) = inV .non (r.map fun w => match numO w with | some i => V.int i | none => V.non) := by
        simp [inV, L2.eqV]
      rw [this, ih]
      cases e2 : nums r <;> simp [nums, e, e2]
theorem w_lnumbers {ws : List Str} (hn : ws.length ≤ 1000000) (hw : ∀ w ∈ ws, w.length ≤ 1000000) : f__law_numbers [.tl (ws.map D.str), .int 1000000000] G = .ok (match nums ws with | some is => .tup (is.map D.int) | none => .non) G := by
  refine eq_of_wR ?_
  unfold f__law_numbers b__law_numbers
  simp only [wR_bnd, wR_ret, wR_rd, wR_lo, wR_lof, wR_chk, wR_ite, wR_call, wR_runF, wR_newL, wR_chn, wS_seq, wS_bnd, wS_nxt, wS_ret, wS_set, wS_brk, wS_cnt, wS_rz0, wS_rz, wS_ite, wS_setIx, wS_try, wS_end, wR_ok, startD, wipeD, List.map_cons, List.map_nil, List.length_cons, List.length_nil, List.replicate, List.cons_append, List.nil_append, List.getElem?_cons_zero, List.getElem?_cons_succ, List.set_cons_zero, List.set_cons_succ, Option.some.injEq, exists_eq_left', Nat.reduceAdd, Nat.reduceSub, Nat.reduceLeDiff, D.int.injEq, D.bl.injEq, addD_i, subD_i, mulD_i, fdivD_i, modD_i, ltD_i, leD_i, gtD_i, geD_i, tb_b, toI_i, intF_i, intF2_i, absF_i, ixD_o, ixD_tl, ixD_tup, ixD_fz, lenF_o, lenF_tl, lenF_tup, lenF_fz, objL_o, tyOk_o, lstO_0, lstO_s, negD_i, eqD2_i, neD2_i, eqD2_s, neD2_s, eqD2_b, neD2_b, Option.bind_some, Option.map_some, Option.isSome_some, Prod.mk.injEq, and_assoc, exists_and_left, decide_eq_true_eq, Option.ite_none_right_eq_some, true_and, and_true, srcA_l]
  have e0 : (ws.map D.str).map (fun d => match d with | .str w => oD (numO w) | _ => .non) = ws.map fun w => oD (numO w) := by
    rw [List.map_map]
    rfl
  rw [compE (ws.map D.str) (fun d => match d with | .str w => oD (numO w) | _ => .non) rfl (by rw [List.length_map]; omega) (fun x hx => ?_), e0]
  rotate_left
  · obtain ⟨w, hm, rfl⟩ := List.mem_map.mp hx
    refine eq_of_wR ?_
    simp only [wR_bnd, wR_ret, wR_rd, wR_lo, wR_lof, wR_chk, wR_ite, wR_call, wR_runF, wR_newL, wR_chn, wS_seq, wS_bnd, wS_nxt, wS_ret, wS_set, wS_brk, wS_cnt, wS_rz0, wS_rz, wS_ite, wS_setIx, wS_try, wS_end, wR_ok, startD, wipeD, List.map_cons, List.map_nil, List.length_cons, List.length_nil, List.replicate, List.cons_append, List.nil_append, List.getElem?_cons_zero, List.getElem?_cons_succ, List.set_cons_zero, List.set_cons_succ, Option.some.injEq, exists_eq_left', Nat.reduceAdd, Nat.reduceSub, Nat.reduceLeDiff, D.int.injEq, D.bl.injEq, addD_i, subD_i, mulD_i, fdivD_i, modD_i, ltD_i, leD_i, gtD_i, geD_i, tb_b, toI_i, intF_i, intF2_i, absF_i, ixD_o, ixD_tl, ixD_tup, ixD_fz, lenF_o, lenF_tl, lenF_tup, lenF_fz, objL_o, tyOk_o, lstO_0, lstO_s, negD_i, eqD2_i, neD2_i, eqD2_s, neD2_s, eqD2_b, neD2_b, Option.bind_some, Option.map_some, Option.isSome_some, Prod.mk.injEq, and_assoc, exists_and_left, decide_eq_true_eq, Option.ite_none_right_eq_some, true_and, and_true, w_lnumber (hw w hm), and_self]
  have ei : ∀ G, inS false .non (.tl (ws.map fun w => oD (numO w))) G = some (.bl (nums ws).isNone) := fun G => by
    show (match allOf flat (ws.map fun w => oD (numO w)) with
      | some vs => some (D.bl (if false = true then !inV .non vs else inV .non vs))
      | none => none) = _
    rw [flat_oD]
    show some (D.bl (inV .non _)) = _
    rw [inV_non]
  simp only [wR_bnd, wR_ret, wR_rd, wR_lo, wR_lof, wR_chk, wR_ite, wR_call, wR_runF, wR_newL, wR_chn, wS_seq, wS_bnd, wS_nxt, wS_ret, wS_set, wS_brk, wS_cnt, wS_rz0, wS_rz, wS_ite, wS_setIx, wS_try, wS_end, wR_ok, startD, wipeD, List.map_cons, List.map_nil, List.length_cons, List.length_nil, List.replicate, List.cons_append, List.nil_append, List.getElem?_cons_zero, List.getElem?_cons_succ, List.set_cons_zero, List.set_cons_succ, Option.some.injEq, exists_eq_left', Nat.reduceAdd, Nat.reduceSub, Nat.reduceLeDiff, D.int.injEq, D.bl.injEq, addD_i, subD_i, mulD_i, fdivD_i, modD_i, ltD_i, leD_i, gtD_i, geD_i, tb_b, toI_i, intF_i, intF2_i, absF_i, ixD_o, ixD_tl, ixD_tup, ixD_fz, lenF_o, lenF_tl, lenF_tup, lenF_fz, objL_o, tyOk_o, lstO_0, lstO_s, negD_i, eqD2_i, neD2_i, eqD2_s, neD2_s, eqD2_b, neD2_b, Option.bind_some, Option.map_some, Option.isSome_some, Prod.mk.injEq, and_assoc, exists_and_left, decide_eq_true_eq, Option.ite_none_right_eq_some, true_and, and_true, ei]
  cases q : nums ws with
  | none => simp only [Option.isNone_none, if_true, wR_bnd, wR_ret, wR_rd, wR_lo, wR_lof, wR_chk, wR_ite, wR_call, wR_runF, wR_newL, wR_chn, wS_seq, wS_bnd, wS_nxt, wS_ret, wS_set, wS_brk, wS_cnt, wS_rz0, wS_rz, wS_ite, wS_setIx, wS_try, wS_end, wR_ok, startD, wipeD, List.map_cons, List.map_nil, List.length_cons, List.length_nil, List.replicate, List.cons_append, List.nil_append, List.getElem?_cons_zero, List.getElem?_cons_succ, List.set_cons_zero, List.set_cons_succ, Option.some.injEq, exists_eq_left', Nat.reduceAdd, Nat.reduceSub, Nat.reduceLeDiff, D.int.injEq, D.bl.injEq, addD_i, subD_i, mulD_i, fdivD_i, modD_i, ltD_i, leD_i, gtD_i, geD_i, tb_b, toI_i, intF_i, intF2_i, absF_i, ixD_o, ixD_tl, ixD_tup, ixD_fz, lenF_o, lenF_tl, lenF_tup, lenF_fz, objL_o, tyOk_o, lstO_0, lstO_s, negD_i, eqD2_i, neD2_i, eqD2_s, neD2_s, eqD2_b, neD2_b, Option.bind_some, Option.map_some, Option.isSome_some, Prod.mk.injEq, and_assoc, exists_and_left, decide_eq_true_eq, Option.ite_none_right_eq_some, true_and, and_true, and_self]
  | some is =>
    obtain ⟨h1, h2⟩ := nums_some q
    simp only [Option.isNone_some, Bool.false_eq_true, if_false, wR_bnd, wR_ret, wR_rd, wR_lo, wR_lof, wR_chk, wR_ite, wR_call, wR_runF, wR_newL, wR_chn, wS_seq, wS_bnd, wS_nxt, wS_ret, wS_set, wS_brk, wS_cnt, wS_rz0, wS_rz, wS_ite, wS_setIx, wS_try, wS_end, wR_ok, startD, wipeD, List.map_cons, List.map_nil, List.length_cons, List.length_nil, List.replicate, List.cons_append, List.nil_append, List.getElem?_cons_zero, List.getElem?_cons_succ, List.set_cons_zero, List.set_cons_succ, Option.some.injEq, exists_eq_left', Nat.reduceAdd, Nat.reduceSub, Nat.reduceLeDiff, D.int.injEq, D.bl.injEq, addD_i, subD_i, mulD_i, fdivD_i, modD_i, ltD_i, leD_i, gtD_i, geD_i, tb_b, toI_i, intF_i, intF2_i, absF_i, ixD_o, ixD_tl, ixD_tup, ixD_fz, lenF_o, lenF_tl, lenF_tup, lenF_fz, objL_o, tyOk_o, lstO_0, lstO_s, negD_i, eqD2_i, neD2_i, eqD2_s, neD2_s, eqD2_b, neD2_b, Option.bind_some, Option.map_some, Option.isSome_some, Prod.mk.injEq, and_assoc, exists_and_left, decide_eq_true_eq, Option.ite_none_right_eq_some, true_and, and_true, srcA_l, h1]
    rw [compB (is.map D.int) (fun _ => true) rfl (by rw [← h1, List.length_map, ]; omega) (fun x hx => ?_)]
    rotate_left
    · obtain ⟨i, hm, rfl⟩ := List.mem_map.mp hx
      refine eq_of_wR ?_
      have := (h2 i hm).2
      simp only [wR_bnd, wR_ret, wR_rd, wR_lo, wR_lof, wR_chk, wR_ite, wR_call, wR_runF, wR_newL, wR_chn, wS_seq, wS_bnd, wS_nxt, wS_ret, wS_set, wS_brk, wS_cnt, wS_rz0, wS_rz, wS_ite, wS_setIx, wS_try, wS_end, wR_ok, startD, wipeD, List.map_cons, List.map_nil, List.length_cons, List.length_nil, List.replicate, List.cons_append, List.nil_append, List.getElem?_cons_zero, List.getElem?_cons_succ, List.set_cons_zero, List.set_cons_succ, Option.some.injEq, exists_eq_left', Nat.reduceAdd, Nat.reduceSub, Nat.reduceLeDiff, D.int.injEq, D.bl.injEq, addD_i, subD_i, mulD_i, fdivD_i, modD_i, ltD_i, leD_i, gtD_i, geD_i, tb_b, toI_i, intF_i, intF2_i, absF_i, ixD_o, ixD_tl, ixD_tup, ixD_fz, lenF_o, lenF_tl, lenF_tup, lenF_fz, objL_o, tyOk_o, lstO_0, lstO_s, negD_i, eqD2_i, neD2_i, eqD2_s, neD2_s, eqD2_b, neD2_b, Option.bind_some, Option.map_some, Option.isSome_some, Prod.mk.injEq, and_assoc, exists_and_left, decide_eq_true_eq, Option.ite_none_right_eq_some, true_and, and_true, this, decide_true, and_self]
    simp only [allF_map, Option.some.injEq, exists_eq_left', tb_b]
    have e : (is.map D.int).all (fun _ => true) = true := by simp
    simp only [e, Bool.not_true, Bool.false_eq_true, if_false, wR_bnd, wR_ret, wR_rd, wR_lo, wR_lof, wR_chk, wR_ite, wR_call, wR_runF, wR_newL, wR_chn, wS_seq, wS_bnd, wS_nxt, wS_ret, wS_set, wS_brk, wS_cnt, wS_rz0, wS_rz, wS_ite, wS_setIx, wS_try, wS_end, wR_ok, startD, wipeD, List.map_cons, List.map_nil, List.length_cons, List.length_nil, List.replicate, List.cons_append, List.nil_append, List.getElem?_cons_zero, List.getElem?_cons_succ, List.set_cons_zero, List.set_cons_succ, Option.some.injEq, exists_eq_left', Nat.reduceAdd, Nat.reduceSub, Nat.reduceLeDiff, D.int.injEq, D.bl.injEq, addD_i, subD_i, mulD_i, fdivD_i, modD_i, ltD_i, leD_i, gtD_i, geD_i, tb_b, toI_i, intF_i, intF2_i, absF_i, ixD_o, ixD_tl, ixD_tup, ixD_fz, lenF_o, lenF_tl, lenF_tup, lenF_fz, objL_o, tyOk_o, lstO_0, lstO_s, negD_i, eqD2_i, neD2_i, eqD2_s, neD2_s, eqD2_b, neD2_b, Option.bind_some, Option.map_some, Option.isSome_some, Prod.mk.injEq, and_assoc, exists_and_left, decide_eq_true_eq, Option.ite_none_right_eq_some, true_and, and_true]
    exact ⟨_, rfl, rfl⟩
end

end K53
end M3
end L2

set_option Elab.async false
set_option linter.all false
set_option maxRecDepth 100000
set_option maxHeartbeats 2000000
namespace L2
namespace M3
namespace K53
open PySem PySem.Spec PyProof.Rows
/-- a line's deed, perhaps none -/
def lineD (s : Str) : D := .tup (.str ((Txt.split s " ").headD "") :: (Txt.split s " ").tail.map fun w => oD (numO w))
def readR (n : Nat) : List Str → Sum Nat (List D)
  | [] => .inr []
  | s :: r => if deedB (lineD s) = true then (match readR (n + 1) r with
    | .inr ds => .inr (lineD s :: ds)
    | .inl k => .inl k) else .inl n
def readT (t : Str) : Sum Nat (List D) := if t = "" then .inr [] else readR 0 (Txt.split t "\n")
section
variable {k : Nat} {d : D} {G : Gs} {X : Exc → Gs → Prop}
theorem split_cons {x y : Str} {c : Nat} (h : Sep y c) : ∃ w ws, Txt.split x y = w :: ws := by
  cases q : Txt.split x y with
  | nil => exact absurd q h.ne
  | cons w ws => exact ⟨w, ws, rfl⟩
theorem line_pd {s : Str} (hs : s.length ≤ 4000) : pd 4100 (lineD s) = true := by
  have hl := PyProof.Rows.split_le s " "
  obtain ⟨w, ws, e⟩ := split_cons (x := s) sep_bl
  have hw : ∀ p ∈ w :: ws, p.length ≤ 4000 := fun p hp => Nat.le_trans (sep_bl.part (x := s) (by rw [e]; exact hp)) hs
  rw [e] at hl
  unfold lineD
  rw [e]
  simp only [List.length_cons, List.headD_cons, List.tail_cons] at hl ⊢
  refine pd_tp.mpr ⟨by simp only [List.length_cons, List.length_map]; omega, fun x hx => ?_⟩
  rcases List.mem_cons.mp hx with rfl | hx
  · have := hw w (by simp)
    simp only [pd, decide_eq_true_eq]
    omega
  · obtain ⟨p, _, rfl⟩ := List.mem_map.mp hx
    cases numO p <;> rfl
theorem w_lines {t : Str} (ht : t.length ≤ 900000) : f_lines_of [.str t] G = .ok (.tl ((Txt.split t "\n").map D.str)) G := by
  refine eq_of_wR ?_
  unfold f_lines_of b_lines_of
  have e : isB (.str t) "str" = true := rfl
  simp only [wR_bnd, wR_ret, wR_rd, wR_lo, wR_lof, wR_chk, wR_ite, wR_call, wR_runF, wR_newL, wR_chn, wS_seq, wS_bnd, wS_nxt, wS_ret, wS_set, wS_brk, wS_cnt, wS_rz0, wS_rz, wS_ite, wS_setIx, wS_try, wS_end, wR_ok, startD, wipeD, List.map_cons, List.map_nil, List.length_cons, List.length_nil, List.replicate, List.cons_append, List.nil_append, List.getElem?_cons_zero, List.getElem?_cons_succ, List.set_cons_zero, List.set_cons_succ, Option.some.injEq, exists_eq_left', Nat.reduceAdd, Nat.reduceSub, Nat.reduceLeDiff, D.int.injEq, D.bl.injEq, addD_i, subD_i, mulD_i, fdivD_i, modD_i, ltD_i, leD_i, gtD_i, geD_i, tb_b, toI_i, intF_i, intF2_i, absF_i, ixD_o, ixD_tl, ixD_tup, ixD_fz, lenF_o, lenF_tl, lenF_tup, lenF_fz, objL_o, tyOk_o, lstO_0, lstO_s, negD_i, eqD2_i, neD2_i, eqD2_s, neD2_s, eqD2_b, neD2_b, Option.bind_some, Option.map_some, Option.isSome_some, Prod.mk.injEq, and_assoc, exists_and_left, decide_eq_true_eq, Option.ite_none_right_eq_some, true_and, and_true, is_s (d := .str t) (by simp [tyB]), e, Bool.not_true, Bool.false_eq_true, if_false, tyOk_s]
  exact ⟨_, sep_nl.split ht, rfl, rfl⟩
theorem w_read_run {t : Str} (ht : t.length ≤ 4000) (hW : below G.length G = true) : wR (f_read_run [.str t] G) (fun e G' => ∃ n, readT t = .inl n ∧ e = ⟨"BadText", some ("line", .int (n + 1))⟩ ∧ G' = G) (fun d G' => ∃ ds, readT t = .inr ds ∧ d = .tup ds ∧ G' = G) := by
  unfold f_read_run
  refine wR_trim ?_
  unfold b_read_run
  simp only [wR_runF, wS_seq, wS_bnd, wR_bnd, wR_rd, wR_ret, startD, wipeD, List.map_cons, List.map_nil, List.length_cons, List.length_nil, List.replicate, List.cons_append, List.nil_append, List.getElem?_cons_zero, List.getElem?_cons_succ, List.set_cons_zero, List.set_cons_succ, Option.some.injEq, exists_eq_left', Nat.reduceAdd, Nat.reduceSub, Nat.reduceLeDiff, D.int.injEq, D.bl.injEq, addD_i, subD_i, mulD_i, fdivD_i, modD_i, ltD_i, leD_i, gtD_i, geD_i, tb_b, toI_i, intF_i, intF2_i, absF_i, ixD_o, ixD_tl, ixD_tup, ixD_fz, lenF_o, lenF_tl, lenF_tup, lenF_fz, objL_o, tyOk_o, lstO_0, lstO_s, negD_i, eqD2_i, neD2_i, eqD2_s, neD2_s, eqD2_b, neD2_b, Option.bind_some, Option.map_some, Option.isSome_some, Prod.mk.injEq, and_assoc, exists_and_left, decide_eq_true_eq, Option.ite_none_right_eq_some, true_and, and_true, wR_call, w_lines (show t.length ≤ 900000 by omega), wR_ok, wS_set, wR_lo]
  unfold readT
  by_cases c0 : t = ""
  · have m0 : mkT [] G = some (.tup []) := mkT_c (by decide)
    simp only [eq_true (show t = Str.ofString "" from c0), decide_true, if_true, wR_bnd, wR_ret, wR_rd, wR_lo, wR_lof, wR_chk, wR_ite, wR_call, wR_runF, wR_newL, wR_chn, wS_seq, wS_bnd, wS_nxt, wS_ret, wS_set, wS_brk, wS_cnt, wS_rz0, wS_rz, wS_ite, wS_setIx, wS_try, wS_end, wR_ok, startD, wipeD, List.map_cons, List.map_nil, List.length_cons, List.length_nil, List.replicate, List.cons_append, List.nil_append, List.getElem?_cons_zero, List.getElem?_cons_succ, List.set_cons_zero, List.set_cons_succ, Option.some.injEq, exists_eq_left', Nat.reduceAdd, Nat.reduceSub, Nat.reduceLeDiff, D.int.injEq, D.bl.injEq, addD_i, subD_i, mulD_i, fdivD_i, modD_i, ltD_i, leD_i, gtD_i, geD_i, tb_b, toI_i, intF_i, intF2_i, absF_i, ixD_o, ixD_tl, ixD_tup, ixD_fz, lenF_o, lenF_tl, lenF_tup, lenF_fz, objL_o, tyOk_o, lstO_0, lstO_s, negD_i, eqD2_i, neD2_i, eqD2_s, neD2_s, eqD2_b, neD2_b, Option.bind_some, Option.map_some, Option.isSome_some, Prod.mk.injEq, and_assoc, exists_and_left, decide_eq_true_eq, Option.ite_none_right_eq_some, true_and, and_true, m0, List.take_length, hW]
    exact ⟨by decide, _, rfl, rfl⟩
  simp only [eq_false (show ¬ t = Str.ofString "" from c0), decide_false, Bool.false_eq_true, if_false, wR_bnd, wR_ret, wR_rd, wR_lo, wR_lof, wR_chk, wR_ite, wR_call, wR_runF, wR_newL, wR_chn, wS_seq, wS_bnd, wS_nxt, wS_ret, wS_set, wS_brk, wS_cnt, wS_rz0, wS_rz, wS_ite, wS_setIx, wS_try, wS_end, wR_ok, startD, wipeD, List.map_cons, List.map_nil, List.length_cons, List.length_nil, List.replicate, List.cons_append, List.nil_append, List.getElem?_cons_zero, List.getElem?_cons_succ, List.set_cons_zero, List.set_cons_succ, Option.some.injEq, exists_eq_left', Nat.reduceAdd, Nat.reduceSub, Nat.reduceLeDiff, D.int.injEq, D.bl.injEq, addD_i, subD_i, mulD_i, fdivD_i, modD_i, ltD_i, leD_i, gtD_i, geD_i, tb_b, toI_i, intF_i, intF2_i, absF_i, ixD_o, ixD_tl, ixD_tup, ixD_fz, lenF_o, lenF_tl, lenF_tup, lenF_fz, objL_o, tyOk_o, lstO_0, lstO_s, negD_i, eqD2_i, neD2_i, eqD2_s, neD2_s, eqD2_b, neD2_b, Option.bind_some, Option.map_some, Option.isSome_some, Prod.mk.injEq, and_assoc, exists_and_left, decide_eq_true_eq, Option.ite_none_right_eq_some, true_and, and_true, toEnm_l]
  refine ⟨sz 0 (by decide), ?_⟩
  have hn := PyProof.Rows.split_le t "\n"
  have hpart : ∀ p ∈ Txt.split t "\n", p.length ≤ 4000 := fun p hp => Nat.le_trans (sep_nl.part hp) ht
  generalize hL : Txt.split t "\n" = L at hn hpart ⊢
  refine wS_for (its := enumD 0 (L.map D.str)) (fun q l G' => ∃ n acc ls a1 a2 a4 a6 a7, q = enumD n (ls.map D.str) ∧ l = [some (.str t), a1, a2, some (.obj G.length), a4, some (.tl (L.map D.str)), a6, a7] ∧ G' = G ++ [.lst acc] ∧ noOs acc = true ∧ acc.length + ls.length = L.length ∧ (∀ p ∈ ls, p.length ≤ 4000) ∧
    readR 0 L = (match readR n ls with | .inr ds => .inr (acc ++ ds) | .inl k => .inl k)) rfl ⟨0, [], L, _, _, _, _, _, rfl, rfl, rfl, rfl, by simp, hpart, by cases readR 0 L <;> rfl⟩ (fun _ _ _ _ => rfl) ?_ ?_
  · rintro x q l G' ⟨n, acc, ls, a1, a2, a4, a6, a7, eq, rfl, rfl, hno, hlen, hp, hr⟩
    cases ls with
    | nil => cases eq
    | cons s ls =>
      rw [List.map_cons, enumD_cons] at eq
      injection eq with e1 e2
      subst e1 e2
      have hs : s.length ≤ 4000 := hp s (by simp)
      rw [wS_tp rfl]
      obtain ⟨w, ws, ew⟩ := split_cons (x := s) sep_bl
      have hsp : ∀ G, splitF (.str s) [.str " "] G = some (.tl (.str w :: ws.map D.str), G) := fun G => by
        rw [sep_bl.split (by omega), ew]
        rfl
      have q1 : ∀ G, slD (.tl (.str w :: ws.map D.str)) (some 1) none G = some (.tl (ws.map D.str)) := fun G => slD_lr (by decide)
      have m1 : ∀ G, mkT [.str w] G = some (.tup [.str w]) := fun G => mkT_c (by simp)
      simp only [setAll, wR_bnd, wR_ret, wR_rd, wR_lo, wR_lof, wR_chk, wR_ite, wR_call, wR_runF, wR_newL, wR_chn, wS_seq, wS_bnd, wS_nxt, wS_ret, wS_set, wS_brk, wS_cnt, wS_rz0, wS_rz, wS_ite, wS_setIx, wS_try, wS_end, wR_ok, startD, wipeD, List.map_cons, List.map_nil, List.length_cons, List.length_nil, List.replicate, List.cons_append, List.nil_append, List.getElem?_cons_zero, List.getElem?_cons_succ, List.set_cons_zero, List.set_cons_succ, Option.some.injEq, exists_eq_left', Nat.reduceAdd, Nat.reduceSub, Nat.reduceLeDiff, D.int.injEq, D.bl.injEq, addD_i, subD_i, mulD_i, fdivD_i, modD_i, ltD_i, leD_i, gtD_i, geD_i, tb_b, toI_i, intF_i, intF2_i, absF_i, ixD_o, ixD_tl, ixD_tup, ixD_fz, lenF_o, lenF_tl, lenF_tup, lenF_fz, objL_o, tyOk_o, lstO_0, lstO_s, negD_i, eqD2_i, neD2_i, eqD2_s, neD2_s, eqD2_b, neD2_b, Option.bind_some, Option.map_some, Option.isSome_some, Prod.mk.injEq, and_assoc, exists_and_left, decide_eq_true_eq, Option.ite_none_right_eq_some, true_and, and_true, tyOk_s, hsp, atI_0, q1, m1, srcA_l]
      have hl := PyProof.Rows.split_le s " "
      rw [ew] at hl
      simp only [List.length_cons] at hl
      have hw : ∀ p ∈ ws, p.length ≤ 4000 := fun p hp' => Nat.le_trans (sep_bl.part (x := s) (by rw [ew]; exact List.mem_cons_of_mem _ hp')) hs
      rw [compE (ws.map D.str) (fun d => match d with | .str w => oD (numO w) | _ => .non) rfl (by rw [List.length_map]; omega) (fun x hx => ?_)]
      rotate_left
      · obtain ⟨p, hm, rfl⟩ := List.mem_map.mp hx
        refine eq_of_wR ?_
        simp only [wR_bnd, wR_ret, wR_rd, wR_lo, wR_lof, wR_chk, wR_ite, wR_call, wR_runF, wR_newL, wR_chn, wS_seq, wS_bnd, wS_nxt, wS_ret, wS_set, wS_brk, wS_cnt, wS_rz0, wS_rz, wS_ite, wS_setIx, wS_try, wS_end, wR_ok, startD, wipeD, List.map_cons, List.map_nil, List.length_cons, List.length_nil, List.replicate, List.cons_append, List.nil_append, List.getElem?_cons_zero, List.getElem?_cons_succ, List.set_cons_zero, List.set_cons_succ, Option.some.injEq, exists_eq_left', Nat.reduceAdd, Nat.reduceSub, Nat.reduceLeDiff, D.int.injEq, D.bl.injEq, addD_i, subD_i, mulD_i, fdivD_i, modD_i, ltD_i, leD_i, gtD_i, geD_i, tb_b, toI_i, intF_i, intF2_i, absF_i, ixD_o, ixD_tl, ixD_tup, ixD_fz, lenF_o, lenF_tl, lenF_tup, lenF_fz, objL_o, tyOk_o, lstO_0, lstO_s, negD_i, eqD2_i, neD2_i, eqD2_s, neD2_s, eqD2_b, neD2_b, Option.bind_some, Option.map_some, Option.isSome_some, Prod.mk.injEq, and_assoc, exists_and_left, decide_eq_true_eq, Option.ite_none_right_eq_some, true_and, and_true, w_number (show p.length ≤ 1000000 by have := hw p hm; omega), and_self]
      have e0 : (ws.map D.str).map (fun d => match d with | .str w => oD (numO w) | _ => .non) = ws.map fun w => oD (numO w) := by
        rw [List.map_map]
        rfl
      have el : (.tup ([.str w] ++ ws.map fun w => oD (numO w)) : D) = lineD s := by
        unfold lineD
        rw [ew]
        rfl
      have ad : ∀ G, addD (.tup [.str w]) (.tup (ws.map fun w => oD (numO w))) G = some (lineD s) := fun G => by
        rw [addD_tt (by simp; omega), el]
      have hpd := line_pd hs
      simp only [e0, tupF_l, startD, wipeD, List.map_cons, List.map_nil, List.length_cons, List.length_nil, List.replicate, List.cons_append, List.nil_append, List.getElem?_cons_zero, List.getElem?_cons_succ, List.set_cons_zero, List.set_cons_succ, Option.some.injEq, exists_eq_left', Nat.reduceAdd, Nat.reduceSub, Nat.reduceLeDiff, D.int.injEq, D.bl.injEq, addD_i, subD_i, mulD_i, fdivD_i, modD_i, ltD_i, leD_i, gtD_i, geD_i, tb_b, toI_i, intF_i, intF2_i, absF_i, ixD_o, ixD_tl, ixD_tup, ixD_fz, lenF_o, lenF_tl, lenF_tup, lenF_fz, objL_o, tyOk_o, lstO_0, lstO_s, negD_i, eqD2_i, neD2_i, eqD2_s, neD2_s, eqD2_b, neD2_b, Option.bind_some, Option.map_some, Option.isSome_some, Prod.mk.injEq, and_assoc, exists_and_left, decide_eq_true_eq, Option.ite_none_right_eq_some, true_and, and_true, ad, wS_set, wS_seq, wS_bnd, wR_bnd, wR_rd, wR_ret, wR_call, w_isdeed (by omega) hpd, wR_ok, wR_lo, wS_ite]
      by_cases c1 : deedB (lineD s) = true
      case neg =>
        have c1' : deedB (lineD s) = false := by simpa using c1
        simp only [c1', Bool.not_false, if_true, wR_bnd, wR_ret, wR_rd, wR_lo, wR_lof, wR_chk, wR_ite, wR_call, wR_runF, wR_newL, wR_chn, wS_seq, wS_bnd, wS_nxt, wS_ret, wS_set, wS_brk, wS_cnt, wS_rz0, wS_rz, wS_ite, wS_setIx, wS_try, wS_end, wR_ok, startD, wipeD, List.map_cons, List.map_nil, List.length_cons, List.length_nil, List.replicate, List.cons_append, List.nil_append, List.getElem?_cons_zero, List.getElem?_cons_succ, List.set_cons_zero, List.set_cons_succ, Option.some.injEq, exists_eq_left', Nat.reduceAdd, Nat.reduceSub, Nat.reduceLeDiff, D.int.injEq, D.bl.injEq, addD_i, subD_i, mulD_i, fdivD_i, modD_i, ltD_i, leD_i, gtD_i, geD_i, tb_b, toI_i, intF_i, intF2_i, absF_i, ixD_o, ixD_tl, ixD_tup, ixD_fz, lenF_o, lenF_tl, lenF_tup, lenF_fz, objL_o, tyOk_o, lstO_0, lstO_s, negD_i, eqD2_i, neD2_i, eqD2_s, neD2_s, eqD2_b, neD2_b, Option.bind_some, Option.map_some, Option.isSome_some, Prod.mk.injEq, and_assoc, exists_and_left, decide_eq_true_eq, Option.ite_none_right_eq_some, true_and, and_true, take_app, hW]
        refine ⟨_, rfl, rfl, n, ?_, rfl⟩
        rw [hr]
        simp only [readR, c1', Bool.false_eq_true, if_false]
      simp only [c1, Bool.not_true, Bool.false_eq_true, if_false, wR_bnd, wR_ret, wR_rd, wR_lo, wR_lof, wR_chk, wR_ite, wR_call, wR_runF, wR_newL, wR_chn, wS_seq, wS_bnd, wS_nxt, wS_ret, wS_set, wS_brk, wS_cnt, wS_rz0, wS_rz, wS_ite, wS_setIx, wS_try, wS_end, wR_ok, startD, wipeD, List.map_cons, List.map_nil, List.length_cons, List.length_nil, List.replicate, List.cons_append, List.nil_append, List.getElem?_cons_zero, List.getElem?_cons_succ, List.set_cons_zero, List.set_cons_succ, Option.some.injEq, exists_eq_left', Nat.reduceAdd, Nat.reduceSub, Nat.reduceLeDiff, D.int.injEq, D.bl.injEq, addD_i, subD_i, mulD_i, fdivD_i, modD_i, ltD_i, leD_i, gtD_i, geD_i, tb_b, toI_i, intF_i, intF2_i, absF_i, ixD_o, ixD_tl, ixD_tup, ixD_fz, lenF_o, lenF_tl, lenF_tup, lenF_fz, objL_o, tyOk_o, lstO_0, lstO_s, negD_i, eqD2_i, neD2_i, eqD2_s, neD2_s, eqD2_b, neD2_b, Option.bind_some, Option.map_some, Option.isSome_some, Prod.mk.injEq, and_assoc, exists_and_left, decide_eq_true_eq, Option.ite_none_right_eq_some, true_and, and_true, lstO_app1]
      refine ⟨_, append_app1 (by omega), n + 1, acc ++ [lineD s], ls, rfl, _, _, _, _, _, rfl, rfl, ?_, by simp only [List.length_append, List.length_cons, List.length_nil] at hlen ⊢; omega, fun p hp' => hp p (by simp [hp']), ?_⟩
      · rw [noOs_iff] at hno ⊢
        intro z hz
        rcases List.mem_append.mp hz with hz | hz
        · exact hno z hz
        · rw [List.mem_singleton.mp hz]; exact pd_noO hpd
      · rw [hr]
        simp only [readR, c1, if_true]
        cases readR (n + 1) ls <;> simp
  · rintro l G' ⟨n, acc, ls, a1, a2, a4, a6, a7, eq, rfl, rfl, hno, hlen, hp, hr⟩
    cases ls with
    | cons s ls => rw [List.map_cons, enumD_cons] at eq; cases eq
    | nil =>
      simp only [wR_bnd, wR_ret, wR_rd, wR_lo, wR_lof, wR_chk, wR_ite, wR_call, wR_runF, wR_newL, wR_chn, wS_seq, wS_bnd, wS_nxt, wS_ret, wS_set, wS_brk, wS_cnt, wS_rz0, wS_rz, wS_ite, wS_setIx, wS_try, wS_end, wR_ok, startD, wipeD, List.map_cons, List.map_nil, List.length_cons, List.length_nil, List.replicate, List.cons_append, List.nil_append, List.getElem?_cons_zero, List.getElem?_cons_succ, List.set_cons_zero, List.set_cons_succ, Option.some.injEq, exists_eq_left', Nat.reduceAdd, Nat.reduceSub, Nat.reduceLeDiff, D.int.injEq, D.bl.injEq, addD_i, subD_i, mulD_i, fdivD_i, modD_i, ltD_i, leD_i, gtD_i, geD_i, tb_b, toI_i, intF_i, intF2_i, absF_i, ixD_o, ixD_tl, ixD_tup, ixD_fz, lenF_o, lenF_tl, lenF_tup, lenF_fz, objL_o, tyOk_o, lstO_0, lstO_s, negD_i, eqD2_i, neD2_i, eqD2_s, neD2_s, eqD2_b, neD2_b, Option.bind_some, Option.map_some, Option.isSome_some, Prod.mk.injEq, and_assoc, exists_and_left, decide_eq_true_eq, Option.ite_none_right_eq_some, true_and, and_true, tupF_o, lstO_app1, take_app, hW]
      refine ⟨hno, acc, ?_, rfl⟩
      rw [hr]
      simp [readR]
end

end K53
end M3
end L2

set_option Elab.async false
set_option linter.all false
set_option maxRecDepth 100000
set_option maxHeartbeats 2000000
namespace L2
namespace M3
namespace K53
open PySem PySem.Spec PyProof.Rows
section
variable {k : Nat} {d : D} {G : Gs} {X : Exc → Gs → Prop}
theorem w_lread {t : Str} (ht : t.length ≤ 4000) (hW : below G.length G = true) : wR (f__law_read_run [.str t] G) X (fun d G' => G' = G ∧ d = (match readT t with | .inr ds => D.tup [.str "told", .tup ds] | .inl n => .tup [.str "text", .int (n + 1)]) ∧ ∀ ds, readT t = .inr ds → noOs ds = true) := by
  unfold f__law_read_run
  refine wR_trim ?_
  unfold b__law_read_run
  have e : isB (.str t) "str" = true := rfl
  have pw : ∀ G, powD (.int 10) (.int 9) G = some (.int 1000000000) := fun G => by
    show (if 0 ≤ (9 : Int) ∧ (9 : Int) ≤ 1000000 ∧ (10 : Int).natAbs < 2 ^ 64 then some (D.int ((10 : Int) ^ (9 : Int).toNat)) else none) = _
    rw [if_pos ⟨by omega, by omega, by show 10 < 2 ^ 64; omega⟩]
    rfl
  have mt2 : ∀ G i, mkT [.str "text", .int i] G = some (.tup [.str "text", .int i]) := fun G i => mkT_c (by simp)
  have mt3 : ∀ G ds, mkT [.str "told", .tup ds] G = some (.tup [.str "told", .tup ds]) := fun G i => mkT_c (by simp)
  have ml : ∀ G, mkL [] G = some (.tl []) := fun G => mkL_c (by simp)
  have mt0 : ∀ G, mkT [] G = some (.tup []) := fun G => mkT_c (by simp)
  have hsp0 : ∀ G, splitF (.str t) [.str "\n"] G = some (.tl ((Txt.split t "\n").map D.str), G) := fun G => sep_nl.split (by omega)
  unfold readT
  by_cases c0 : t = ""
  · simp only [wR_bnd, wR_ret, wR_rd, wR_lo, wR_lof, wR_chk, wR_ite, wR_call, wR_runF, wR_newL, wR_chn, wS_seq, wS_bnd, wS_nxt, wS_ret, wS_set, wS_brk, wS_cnt, wS_rz0, wS_rz, wS_ite, wS_setIx, wS_try, wS_end, wR_ok, startD, wipeD, List.map_cons, List.map_nil, List.length_cons, List.length_nil, List.replicate, List.cons_append, List.nil_append, List.getElem?_cons_zero, List.getElem?_cons_succ, List.set_cons_zero, List.set_cons_succ, Option.some.injEq, exists_eq_left', Nat.reduceAdd, Nat.reduceSub, Nat.reduceLeDiff, D.int.injEq, D.bl.injEq, addD_i, subD_i, mulD_i, fdivD_i, modD_i, ltD_i, leD_i, gtD_i, geD_i, tb_b, toI_i, intF_i, intF2_i, absF_i, ixD_o, ixD_tl, ixD_tup, ixD_fz, lenF_o, lenF_tl, lenF_tup, lenF_fz, objL_o, tyOk_o, lstO_0, lstO_s, negD_i, eqD2_i, neD2_i, eqD2_s, neD2_s, eqD2_b, neD2_b, Option.bind_some, Option.map_some, Option.isSome_some, Prod.mk.injEq, and_assoc, exists_and_left, decide_eq_true_eq, Option.ite_none_right_eq_some, true_and, and_true, is_s (d := .str t) (by simp [tyB]), e, Bool.not_true, Bool.false_eq_true, if_false, eq_true (show t = Str.ofString "" from c0), decide_true, ml, toEnm_l]
    refine ⟨sz 0 (by decide), ?_⟩
    rw [wS_for0 rfl]
    simp only [wR_bnd, wR_ret, wR_rd, wR_lo, wR_lof, wR_chk, wR_ite, wR_call, wR_runF, wR_newL, wR_chn, wS_seq, wS_bnd, wS_nxt, wS_ret, wS_set, wS_brk, wS_cnt, wS_rz0, wS_rz, wS_ite, wS_setIx, wS_try, wS_end, wR_ok, startD, wipeD, List.map_cons, List.map_nil, List.length_cons, List.length_nil, List.replicate, List.cons_append, List.nil_append, List.getElem?_cons_zero, List.getElem?_cons_succ, List.set_cons_zero, List.set_cons_succ, Option.some.injEq, exists_eq_left', Nat.reduceAdd, Nat.reduceSub, Nat.reduceLeDiff, D.int.injEq, D.bl.injEq, addD_i, subD_i, mulD_i, fdivD_i, modD_i, ltD_i, leD_i, gtD_i, geD_i, tb_b, toI_i, intF_i, intF2_i, absF_i, ixD_o, ixD_tl, ixD_tup, ixD_fz, lenF_o, lenF_tl, lenF_tup, lenF_fz, objL_o, tyOk_o, lstO_0, lstO_s, negD_i, eqD2_i, neD2_i, eqD2_s, neD2_s, eqD2_b, neD2_b, Option.bind_some, Option.map_some, Option.isSome_some, Prod.mk.injEq, and_assoc, exists_and_left, decide_eq_true_eq, Option.ite_none_right_eq_some, true_and, and_true, tupF_o, lstO_app1, mt3, take_app, hW, if_true]
    exact ⟨by decide, fun ds h => by cases h; rfl⟩
  simp only [wR_bnd, wR_ret, wR_rd, wR_lo, wR_lof, wR_chk, wR_ite, wR_call, wR_runF, wR_newL, wR_chn, wS_seq, wS_bnd, wS_nxt, wS_ret, wS_set, wS_brk, wS_cnt, wS_rz0, wS_rz, wS_ite, wS_setIx, wS_try, wS_end, wR_ok, startD, wipeD, List.map_cons, List.map_nil, List.length_cons, List.length_nil, List.replicate, List.cons_append, List.nil_append, List.getElem?_cons_zero, List.getElem?_cons_succ, List.set_cons_zero, List.set_cons_succ, Option.some.injEq, exists_eq_left', Nat.reduceAdd, Nat.reduceSub, Nat.reduceLeDiff, D.int.injEq, D.bl.injEq, addD_i, subD_i, mulD_i, fdivD_i, modD_i, ltD_i, leD_i, gtD_i, geD_i, tb_b, toI_i, intF_i, intF2_i, absF_i, ixD_o, ixD_tl, ixD_tup, ixD_fz, lenF_o, lenF_tl, lenF_tup, lenF_fz, objL_o, tyOk_o, lstO_0, lstO_s, negD_i, eqD2_i, neD2_i, eqD2_s, neD2_s, eqD2_b, neD2_b, Option.bind_some, Option.map_some, Option.isSome_some, Prod.mk.injEq, and_assoc, exists_and_left, decide_eq_true_eq, Option.ite_none_right_eq_some, true_and, and_true, is_s (d := .str t) (by simp [tyB]), e, Bool.not_true, Bool.false_eq_true, if_false, eq_false (show ¬ t = Str.ofString "" from c0), decide_false, Bool.not_false, if_true, tyOk_s, hsp0, toEnm_l]
  refine ⟨sz 0 (by decide), ?_⟩
  have hn := PyProof.Rows.split_le t "\n"
  have hpart : ∀ p ∈ Txt.split t "\n", p.length ≤ 4000 := fun p hp => Nat.le_trans (sep_nl.part hp) ht
  generalize hL : Txt.split t "\n" = L at hn hpart ⊢
  refine wS_for (its := enumD 0 (L.map D.str)) (fun q l G' => ∃ n acc ls a1 a2 a3 a5 a6, q = enumD n (ls.map D.str) ∧ l = [some (.str t), a1, a2, a3, some (.obj G.length), a5, a6] ∧ G' = G ++ [.lst acc] ∧ noOs acc = true ∧ acc.length + ls.length = L.length ∧ (∀ p ∈ ls, p.length ≤ 4000) ∧
    readR 0 L = (match readR n ls with | .inr ds => .inr (acc ++ ds) | .inl k => .inl k)) rfl ⟨0, [], L, _, _, _, _, _, rfl, rfl, rfl, rfl, by simp, hpart, by cases readR 0 L <;> rfl⟩ (fun _ _ _ _ => rfl) ?_ ?_
  · rintro x q l G' ⟨n, acc, ls, a1, a2, a3, a5, a6, eq, rfl, rfl, hno, hlen, hp, hr⟩
    cases ls with
    | nil => cases eq
    | cons s ls =>
      rw [List.map_cons, enumD_cons] at eq
      injection eq with e1 e2
      subst e1 e2
      have hs : s.length ≤ 4000 := hp s (by simp)
      rw [wS_tp rfl]
      obtain ⟨w, ws, ew⟩ := split_cons (x := s) sep_bl
      have hsp : ∀ G, splitF (.str s) [.str " "] G = some (.tl (.str w :: ws.map D.str), G) := fun G => by
        rw [sep_bl.split (by omega), ew]
        rfl
      have q1 : ∀ G, slD (.tl (.str w :: ws.map D.str)) (some 1) none G = some (.tl (ws.map D.str)) := fun G => slD_lr (by decide)
      have m1 : ∀ G, mkT [.str w] G = some (.tup [.str w]) := fun G => mkT_c (by simp)
      have hl := PyProof.Rows.split_le s " "
      rw [ew] at hl
      simp only [List.length_cons] at hl
      have hw : ∀ p ∈ ws, p.length ≤ 4000 := fun p hp' => Nat.le_trans (sep_bl.part (x := s) (by rw [ew]; exact List.mem_cons_of_mem _ hp')) hs
      have hnum : ∀ G, f__law_numbers [.tl (ws.map D.str), .int 1000000000] G = .ok (match nums ws with | some is => .tup (is.map D.int) | none => .non) G := fun G => w_lnumbers (by omega) fun p hp' => by have := hw p hp'; omega
      have el : lineD s = .tup (.str w :: ws.map fun w => oD (numO w)) := by
        unfold lineD
        rw [ew]
        rfl
      have hpd := line_pd hs
      simp only [setAll, wR_bnd, wR_ret, wR_rd, wR_lo, wR_lof, wR_chk, wR_ite, wR_call, wR_runF, wR_newL, wR_chn, wS_seq, wS_bnd, wS_nxt, wS_ret, wS_set, wS_brk, wS_cnt, wS_rz0, wS_rz, wS_ite, wS_setIx, wS_try, wS_end, wR_ok, startD, wipeD, List.map_cons, List.map_nil, List.length_cons, List.length_nil, List.replicate, List.cons_append, List.nil_append, List.getElem?_cons_zero, List.getElem?_cons_succ, List.set_cons_zero, List.set_cons_succ, Option.some.injEq, exists_eq_left', Nat.reduceAdd, Nat.reduceSub, Nat.reduceLeDiff, D.int.injEq, D.bl.injEq, addD_i, subD_i, mulD_i, fdivD_i, modD_i, ltD_i, leD_i, gtD_i, geD_i, tb_b, toI_i, intF_i, intF2_i, absF_i, ixD_o, ixD_tl, ixD_tup, ixD_fz, lenF_o, lenF_tl, lenF_tup, lenF_fz, objL_o, tyOk_o, lstO_0, lstO_s, negD_i, eqD2_i, neD2_i, eqD2_s, neD2_s, eqD2_b, neD2_b, Option.bind_some, Option.map_some, Option.isSome_some, Prod.mk.injEq, and_assoc, exists_and_left, decide_eq_true_eq, Option.ite_none_right_eq_some, true_and, and_true, tyOk_s, hsp, atI_0, q1, m1, pw, hnum]
      cases q : nums ws with
      | none =>
        have bad : deedB (lineD s) = false := by
          rw [el]
          have hx := nums_none q
          cases hws : ws.map (fun w => oD (numO w)) with
          | nil => rfl
          | cons x r =>
            rw [hws] at hx
            show ((x :: r).all nn && _) = _
            obtain ⟨z, hz1, hz2⟩ := List.any_eq_true.mp hx
            have : (x :: r).all nn = false := by
              rw [List.all_eq_false]
              exact ⟨z, hz1, by cases z <;> simp [isNon] at hz2 <;> simp [nn]⟩
            rw [this, Bool.false_and]
        have hd1 : ∀ G, f__law_is_deed [.tup [.str w]] G = .ok (.bl false) G := fun G => by
          have := w_ldeed (k := 4100) (G := G) (d := .tup [.str w]) (by omega) (pd_tp.mpr ⟨by simp, fun x hx => by
            rw [List.mem_singleton.mp hx]
            have := sep_bl.part (x := s) (p := w) (by rw [ew]; simp)
            simp only [pd, decide_eq_true_eq]
            omega⟩)
          exact this
        have ad : ∀ G, addD (.tup [.str w]) (.tup []) G = some (.tup [.str w]) := fun G => addD_tt (by simp)
        simp only [isD, isN, wR_bnd, wR_ret, wR_rd, wR_lo, wR_lof, wR_chk, wR_ite, wR_call, wR_runF, wR_newL, wR_chn, wS_seq, wS_bnd, wS_nxt, wS_ret, wS_set, wS_brk, wS_cnt, wS_rz0, wS_rz, wS_ite, wS_setIx, wS_try, wS_end, wR_ok, startD, wipeD, List.map_cons, List.map_nil, List.length_cons, List.length_nil, List.replicate, List.cons_append, List.nil_append, List.getElem?_cons_zero, List.getElem?_cons_succ, List.set_cons_zero, List.set_cons_succ, Option.some.injEq, exists_eq_left', Nat.reduceAdd, Nat.reduceSub, Nat.reduceLeDiff, D.int.injEq, D.bl.injEq, addD_i, subD_i, mulD_i, fdivD_i, modD_i, ltD_i, leD_i, gtD_i, geD_i, tb_b, toI_i, intF_i, intF2_i, absF_i, ixD_o, ixD_tl, ixD_tup, ixD_fz, lenF_o, lenF_tl, lenF_tup, lenF_fz, objL_o, tyOk_o, lstO_0, lstO_s, negD_i, eqD2_i, neD2_i, eqD2_s, neD2_s, eqD2_b, neD2_b, Option.bind_some, Option.map_some, Option.isSome_some, Prod.mk.injEq, and_assoc, exists_and_left, decide_eq_true_eq, Option.ite_none_right_eq_some, true_and, and_true, if_true, mt0, ad, hd1, Bool.not_false, mt2, take_app, hW]
        refine ⟨rfl, ?_, ?_⟩
        · rw [hr]
          simp only [readR, bad, Bool.false_eq_true, if_false]
        · intro ds h
          rw [hr] at h
          simp only [readR, bad, Bool.false_eq_true, if_false] at h
          cases h
      | some is =>
        obtain ⟨h1, h2⟩ := nums_some q
        rw [h1] at el
        have hlen2 : is.length = ws.length := by
          have := congrArg List.length h1
          simpa using this.symm
        have ad : ∀ G, addD (.tup [.str w]) (.tup (is.map D.int)) G = some (lineD s) := fun G => by
          rw [addD_tt (by simp; omega), el]
          rfl
        simp only [isD, isN, wR_bnd, wR_ret, wR_rd, wR_lo, wR_lof, wR_chk, wR_ite, wR_call, wR_runF, wR_newL, wR_chn, wS_seq, wS_bnd, wS_nxt, wS_ret, wS_set, wS_brk, wS_cnt, wS_rz0, wS_rz, wS_ite, wS_setIx, wS_try, wS_end, wR_ok, startD, wipeD, List.map_cons, List.map_nil, List.length_cons, List.length_nil, List.replicate, List.cons_append, List.nil_append, List.getElem?_cons_zero, List.getElem?_cons_succ, List.set_cons_zero, List.set_cons_succ, Option.some.injEq, exists_eq_left', Nat.reduceAdd, Nat.reduceSub, Nat.reduceLeDiff, D.int.injEq, D.bl.injEq, addD_i, subD_i, mulD_i, fdivD_i, modD_i, ltD_i, leD_i, gtD_i, geD_i, tb_b, toI_i, intF_i, intF2_i, absF_i, ixD_o, ixD_tl, ixD_tup, ixD_fz, lenF_o, lenF_tl, lenF_tup, lenF_fz, objL_o, tyOk_o, lstO_0, lstO_s, negD_i, eqD2_i, neD2_i, eqD2_s, neD2_s, eqD2_b, neD2_b, Option.bind_some, Option.map_some, Option.isSome_some, Prod.mk.injEq, and_assoc, exists_and_left, decide_eq_true_eq, Option.ite_none_right_eq_some, true_and, and_true, Bool.false_eq_true, if_false, ad]
        simp only [wR_bnd, wR_rd, wR_ret, List.getElem?_cons_zero, List.getElem?_cons_succ, Option.some.injEq, exists_eq_left', wR_call, List.length_cons, List.length_nil, w_ldeed (show 4100 ≤ 100000 by omega) hpd, wR_ok, wR_lo, tb_b, true_and, Nat.reduceAdd]
        by_cases c1 : deedB (lineD s) = true
        case neg =>
          have c1' : deedB (lineD s) = false := by simpa using c1
          simp only [c1', Bool.not_false, if_true, wR_bnd, wR_ret, wR_rd, wR_lo, wR_lof, wR_chk, wR_ite, wR_call, wR_runF, wR_newL, wR_chn, wS_seq, wS_bnd, wS_nxt, wS_ret, wS_set, wS_brk, wS_cnt, wS_rz0, wS_rz, wS_ite, wS_setIx, wS_try, wS_end, wR_ok, startD, wipeD, List.map_cons, List.map_nil, List.length_cons, List.length_nil, List.replicate, List.cons_append, List.nil_append, List.getElem?_cons_zero, List.getElem?_cons_succ, List.set_cons_zero, List.set_cons_succ, Option.some.injEq, exists_eq_left', Nat.reduceAdd, Nat.reduceSub, Nat.reduceLeDiff, D.int.injEq, D.bl.injEq, addD_i, subD_i, mulD_i, fdivD_i, modD_i, ltD_i, leD_i, gtD_i, geD_i, tb_b, toI_i, intF_i, intF2_i, absF_i, ixD_o, ixD_tl, ixD_tup, ixD_fz, lenF_o, lenF_tl, lenF_tup, lenF_fz, objL_o, tyOk_o, lstO_0, lstO_s, negD_i, eqD2_i, neD2_i, eqD2_s, neD2_s, eqD2_b, neD2_b, Option.bind_some, Option.map_some, Option.isSome_some, Prod.mk.injEq, and_assoc, exists_and_left, decide_eq_true_eq, Option.ite_none_right_eq_some, true_and, and_true, mt2, take_app, hW]
          refine ⟨rfl, ?_, ?_⟩
          · rw [hr]
            simp only [readR, c1', Bool.false_eq_true, if_false]
          · intro ds h
            rw [hr] at h
            simp only [readR, c1', Bool.false_eq_true, if_false] at h
            cases h
        simp only [c1, Bool.not_true, Bool.false_eq_true, if_false, wR_bnd, wR_ret, wR_rd, wR_lo, wR_lof, wR_chk, wR_ite, wR_call, wR_runF, wR_newL, wR_chn, wS_seq, wS_bnd, wS_nxt, wS_ret, wS_set, wS_brk, wS_cnt, wS_rz0, wS_rz, wS_ite, wS_setIx, wS_try, wS_end, wR_ok, startD, wipeD, List.map_cons, List.map_nil, List.length_cons, List.length_nil, List.replicate, List.cons_append, List.nil_append, List.getElem?_cons_zero, List.getElem?_cons_succ, List.set_cons_zero, List.set_cons_succ, Option.some.injEq, exists_eq_left', Nat.reduceAdd, Nat.reduceSub, Nat.reduceLeDiff, D.int.injEq, D.bl.injEq, addD_i, subD_i, mulD_i, fdivD_i, modD_i, ltD_i, leD_i, gtD_i, geD_i, tb_b, toI_i, intF_i, intF2_i, absF_i, ixD_o, ixD_tl, ixD_tup, ixD_fz, lenF_o, lenF_tl, lenF_tup, lenF_fz, objL_o, tyOk_o, lstO_0, lstO_s, negD_i, eqD2_i, neD2_i, eqD2_s, neD2_s, eqD2_b, neD2_b, Option.bind_some, Option.map_some, Option.isSome_some, Prod.mk.injEq, and_assoc, exists_and_left, decide_eq_true_eq, Option.ite_none_right_eq_some, true_and, and_true, lstO_app1]
        refine ⟨_, append_app1 (by omega), n + 1, acc ++ [lineD s], ls, rfl, _, _, _, _, _, rfl, rfl, ?_, by simp only [List.length_append, List.length_cons, List.length_nil] at hlen ⊢; omega, fun p hp' => hp p (by simp [hp']), ?_⟩
        · rw [noOs_iff] at hno ⊢
          intro z hz
          rcases List.mem_append.mp hz with hz | hz
          · exact hno z hz
          · rw [List.mem_singleton.mp hz]; exact pd_noO hpd
        · rw [hr]
          simp only [readR, c1, if_true]
          cases readR (n + 1) ls <;> simp
  · rintro l G' ⟨n, acc, ls, a1, a2, a3, a5, a6, eq, rfl, rfl, hno, hlen, hp, hr⟩
    cases ls with
    | cons s ls => rw [List.map_cons, enumD_cons] at eq; cases eq
    | nil =>
      have hr' : readR 0 L = .inr acc := by rw [hr]; simp [readR]
      simp only [wR_bnd, wR_ret, wR_rd, wR_lo, wR_lof, wR_chk, wR_ite, wR_call, wR_runF, wR_newL, wR_chn, wS_seq, wS_bnd, wS_nxt, wS_ret, wS_set, wS_brk, wS_cnt, wS_rz0, wS_rz, wS_ite, wS_setIx, wS_try, wS_end, wR_ok, startD, wipeD, List.map_cons, List.map_nil, List.length_cons, List.length_nil, List.replicate, List.cons_append, List.nil_append, List.getElem?_cons_zero, List.getElem?_cons_succ, List.set_cons_zero, List.set_cons_succ, Option.some.injEq, exists_eq_left', Nat.reduceAdd, Nat.reduceSub, Nat.reduceLeDiff, D.int.injEq, D.bl.injEq, addD_i, subD_i, mulD_i, fdivD_i, modD_i, ltD_i, leD_i, gtD_i, geD_i, tb_b, toI_i, intF_i, intF2_i, absF_i, ixD_o, ixD_tl, ixD_tup, ixD_fz, lenF_o, lenF_tl, lenF_tup, lenF_fz, objL_o, tyOk_o, lstO_0, lstO_s, negD_i, eqD2_i, neD2_i, eqD2_s, neD2_s, eqD2_b, neD2_b, Option.bind_some, Option.map_some, Option.isSome_some, Prod.mk.injEq, and_assoc, exists_and_left, decide_eq_true_eq, Option.ite_none_right_eq_some, true_and, and_true, tupF_o, lstO_app1, take_app, hW, mt3, hr']
      refine ⟨?_, fun ds h => by cases h; exact hno⟩
      simp [noO, noOs, hno]
end

end K53
end M3
end L2

set_option Elab.async false
set_option linter.all false
set_option maxRecDepth 100000
set_option maxHeartbeats 2000000
namespace L2
namespace M3
namespace K53
open PySem PySem.Spec PyProof.Rows
def toldT (r : Sum Nat (List D)) : D := match r with
  | .inr ds => .tup [.str "told", .tup ds]
  | .inl n => .tup [.str "text", .int (n + 1)]
section
variable {k : Nat} {d : D} {G : Gs} {X : Exc → Gs → Prop}
theorem em_bt : TT.emF (.inr "CopyError") "BadText" = some true := by decide
theorem em_nr : TT.emF (.inr "CopyError") "NoRun" = some true := by decide
theorem ie_1 : isE TT.tf "BadText" (.glo "BadText") G = some (.bl true) := rfl
theorem ie_2 : isE TT.tf "BadText" (.ty "ValueError") G = some (.bl true) := rfl
theorem ie_3 : isE TT.tf "NoRun" (.glo "NoRun") G = some (.bl true) := rfl
theorem ie_4 : isE TT.tf "NoRun" (.ty "ValueError") G = some (.bl true) := rfl
theorem xf_1 {v : D} : xfE TT.tf ⟨"BadText", some ("line", v)⟩ "line" G = some v := rfl
theorem mk2 {G : Gs} {a b : D} : mkT [a, b] G = some (.tup [a, b]) := mkT_c (by simp)
theorem w_told {t : Str} (ht : t.length ≤ 4000) (hW : below G.length G = true) : wR (f__law_told [.str t] G) X (fun d G' => d = toldT (readT t) ∧ G' = G) := by
  unfold f__law_told b__law_told
  simp only [wR_bnd, wR_ret, wR_rd, wR_lo, wR_lof, wR_chk, wR_ite, wR_call, wR_runF, wR_newL, wR_chn, wS_seq, wS_bnd, wS_nxt, wS_ret, wS_set, wS_brk, wS_cnt, wS_rz0, wS_rz, wS_ite, wS_setIx, wS_try, wS_end, wR_ok, startD, wipeD, List.map_cons, List.map_nil, List.length_cons, List.length_nil, List.replicate, List.cons_append, List.nil_append, List.getElem?_cons_zero, List.getElem?_cons_succ, List.set_cons_zero, List.set_cons_succ, Option.some.injEq, exists_eq_left', Nat.reduceAdd, Nat.reduceSub, Nat.reduceLeDiff, D.int.injEq, D.bl.injEq, addD_i, subD_i, mulD_i, fdivD_i, modD_i, ltD_i, leD_i, gtD_i, geD_i, tb_b, toI_i, intF_i, intF2_i, absF_i, ixD_o, ixD_tl, ixD_tup, ixD_fz, lenF_o, lenF_tl, lenF_tup, lenF_fz, objL_o, tyOk_o, lstO_0, lstO_s, negD_i, eqD2_i, neD2_i, eqD2_s, neD2_s, eqD2_b, neD2_b, Option.bind_some, Option.map_some, Option.isSome_some, Prod.mk.injEq, and_assoc, exists_and_left, decide_eq_true_eq, Option.ite_none_right_eq_some, true_and, and_true, mk2]
  refine wR_imp (w_read_run ht hW) (fun e G' h => ?_) fun d G' h => ?_
  · obtain ⟨n, h1, rfl, rfl⟩ := h
    refine .inl ⟨em_bt, by decide, ?_⟩
    simp only [wR_bnd, wR_ret, wR_rd, wR_lo, wR_lof, wR_chk, wR_ite, wR_call, wR_runF, wR_newL, wR_chn, wS_seq, wS_bnd, wS_nxt, wS_ret, wS_set, wS_brk, wS_cnt, wS_rz0, wS_rz, wS_ite, wS_setIx, wS_try, wS_end, wR_ok, startD, wipeD, List.map_cons, List.map_nil, List.length_cons, List.length_nil, List.replicate, List.cons_append, List.nil_append, List.getElem?_cons_zero, List.getElem?_cons_succ, List.set_cons_zero, List.set_cons_succ, Option.some.injEq, exists_eq_left', Nat.reduceAdd, Nat.reduceSub, Nat.reduceLeDiff, D.int.injEq, D.bl.injEq, addD_i, subD_i, mulD_i, fdivD_i, modD_i, ltD_i, leD_i, gtD_i, geD_i, tb_b, toI_i, intF_i, intF2_i, absF_i, ixD_o, ixD_tl, ixD_tup, ixD_fz, lenF_o, lenF_tl, lenF_tup, lenF_fz, objL_o, tyOk_o, lstO_0, lstO_s, negD_i, eqD2_i, neD2_i, eqD2_s, neD2_s, eqD2_b, neD2_b, Option.bind_some, Option.map_some, Option.isSome_some, Prod.mk.injEq, and_assoc, exists_and_left, decide_eq_true_eq, Option.ite_none_right_eq_some, true_and, and_true, ie_1, ie_2, if_true, xf_1, mk2]
    rw [h1]
    rfl
  · obtain ⟨ds, h1, rfl, rfl⟩ := h
    refine ⟨?_, rfl⟩
    rw [h1]
    rfl
/-- of what is no text -/
theorem w_told_odd {k : Nat} {d : D} (h : pd k d = true) (hs : isB d "str" = false) (hW : below G.length G = true) : wR (f__law_told [d] G) X (fun r G' => r = .tup [.str "text", .int 0] ∧ G' = G) := by
  have hl : wR (f_read_run [d] G) (fun e G' => e = ⟨"BadText", some ("line", .int 0)⟩ ∧ G' = G) (fun _ _ => False) := by
    unfold f_read_run
    refine wR_trim ?_
    unfold b_read_run f_lines_of b_lines_of
    simp only [wR_bnd, wR_ret, wR_rd, wR_lo, wR_lof, wR_chk, wR_ite, wR_call, wR_runF, wR_newL, wR_chn, wS_seq, wS_bnd, wS_nxt, wS_ret, wS_set, wS_brk, wS_cnt, wS_rz0, wS_rz, wS_ite, wS_setIx, wS_try, wS_end, wR_ok, startD, wipeD, List.map_cons, List.map_nil, List.length_cons, List.length_nil, List.replicate, List.cons_append, List.nil_append, List.getElem?_cons_zero, List.getElem?_cons_succ, List.set_cons_zero, List.set_cons_succ, Option.some.injEq, exists_eq_left', Nat.reduceAdd, Nat.reduceSub, Nat.reduceLeDiff, D.int.injEq, D.bl.injEq, addD_i, subD_i, mulD_i, fdivD_i, modD_i, ltD_i, leD_i, gtD_i, geD_i, tb_b, toI_i, intF_i, intF2_i, absF_i, ixD_o, ixD_tl, ixD_tup, ixD_fz, lenF_o, lenF_tl, lenF_tup, lenF_fz, objL_o, tyOk_o, lstO_0, lstO_s, negD_i, eqD2_i, neD2_i, eqD2_s, neD2_s, eqD2_b, neD2_b, Option.bind_some, Option.map_some, Option.isSome_some, Prod.mk.injEq, and_assoc, exists_and_left, decide_eq_true_eq, Option.ite_none_right_eq_some, true_and, and_true, is_s (pd_ty h), hs, Bool.not_false, if_true, List.take_length, hW]
    exact ⟨_, rfl, rfl, rfl⟩
  unfold f__law_told b__law_told
  simp only [wR_bnd, wR_ret, wR_rd, wR_lo, wR_lof, wR_chk, wR_ite, wR_call, wR_runF, wR_newL, wR_chn, wS_seq, wS_bnd, wS_nxt, wS_ret, wS_set, wS_brk, wS_cnt, wS_rz0, wS_rz, wS_ite, wS_setIx, wS_try, wS_end, wR_ok, startD, wipeD, List.map_cons, List.map_nil, List.length_cons, List.length_nil, List.replicate, List.cons_append, List.nil_append, List.getElem?_cons_zero, List.getElem?_cons_succ, List.set_cons_zero, List.set_cons_succ, Option.some.injEq, exists_eq_left', Nat.reduceAdd, Nat.reduceSub, Nat.reduceLeDiff, D.int.injEq, D.bl.injEq, addD_i, subD_i, mulD_i, fdivD_i, modD_i, ltD_i, leD_i, gtD_i, geD_i, tb_b, toI_i, intF_i, intF2_i, absF_i, ixD_o, ixD_tl, ixD_tup, ixD_fz, lenF_o, lenF_tl, lenF_tup, lenF_fz, objL_o, tyOk_o, lstO_0, lstO_s, negD_i, eqD2_i, neD2_i, eqD2_s, neD2_s, eqD2_b, neD2_b, Option.bind_some, Option.map_some, Option.isSome_some, Prod.mk.injEq, and_assoc, exists_and_left, decide_eq_true_eq, Option.ite_none_right_eq_some, true_and, and_true, mk2]
  refine wR_imp hl (fun e G' h => ?_) fun d G' h => h.elim
  obtain ⟨rfl, rfl⟩ := h
  refine .inl ⟨em_bt, by decide, ?_⟩
  simp only [wR_bnd, wR_ret, wR_rd, wR_lo, wR_lof, wR_chk, wR_ite, wR_call, wR_runF, wR_newL, wR_chn, wS_seq, wS_bnd, wS_nxt, wS_ret, wS_set, wS_brk, wS_cnt, wS_rz0, wS_rz, wS_ite, wS_setIx, wS_try, wS_end, wR_ok, startD, wipeD, List.map_cons, List.map_nil, List.length_cons, List.length_nil, List.replicate, List.cons_append, List.nil_append, List.getElem?_cons_zero, List.getElem?_cons_succ, List.set_cons_zero, List.set_cons_succ, Option.some.injEq, exists_eq_left', Nat.reduceAdd, Nat.reduceSub, Nat.reduceLeDiff, D.int.injEq, D.bl.injEq, addD_i, subD_i, mulD_i, fdivD_i, modD_i, ltD_i, leD_i, gtD_i, geD_i, tb_b, toI_i, intF_i, intF2_i, absF_i, ixD_o, ixD_tl, ixD_tup, ixD_fz, lenF_o, lenF_tl, lenF_tup, lenF_fz, objL_o, tyOk_o, lstO_0, lstO_s, negD_i, eqD2_i, neD2_i, eqD2_s, neD2_s, eqD2_b, neD2_b, Option.bind_some, Option.map_some, Option.isSome_some, Prod.mk.injEq, and_assoc, exists_and_left, decide_eq_true_eq, Option.ite_none_right_eq_some, true_and, and_true, ie_1, ie_2, if_true, xf_1, mk2]
/-! the same through and through -/
def dp : Nat → D → Bool
  | 0, _ => false
  | n + 1, .tup ds => decide (ds.length ≤ 100000) && ds.all (dp n)
  | n + 1, .tl ds => decide (ds.length ≤ 100000) && ds.all (dp n)
  | _ + 1, .non => true
  | _ + 1, .bl _ => true
  | _ + 1, .int _ => true
  | _ + 1, .str _ => true
  | _ + 1, _ => false
theorem eqD2_n : eqD2 .non .non G = some (.bl true) := rfl
theorem dp_ty {n : Nat} {d : D} (h : dp n d = true) : tyB d ≠ "" := by
  cases n with
  | zero => cases h
  | succ n => cases d <;> first | (simp [dp] at h; done) | (simp [tyB])
theorem is_tl (h : tyB d ≠ "") : isiF2 TT.tf [d, .tup [.ty "tuple", .ty "list"]] G = some (.bl (isB d "tuple" || isB d "list")) := isi2_p h bTt (by decide) bTl (by decide)
theorem ix_self {ds : List D} {i : Nat} {x : D} (h : ds[i]? = some x) : atI ds (i : Int) = some x := atI_of (ixN_pos (by omega) (by have := (List.getElem?_eq_some_iff.mp h).1; omega)) (by simpa using h)
theorem w_is : ∀ (n : Nat) (d : D), dp n d = true → f__law_isr n [d, d] G = .ok (.bl true) G
  | 0, _, h => by cases h
  | n + 1, d, h => by
    refine eq_of_wR ?_
    have ht := dp_ty h
    show wR (runF 4 (b__law_is (f__law_isr n)) [d, d] G) _ _
    unfold b__law_is
    have row : ∀ ds : List D, (d = .tup ds ∨ d = .tl ds) → ds.length ≤ 100000 → (∀ x ∈ ds, dp n x = true) → wR (runF 4 (b__law_is (f__law_isr n)) [d, d] G) (fun _ _ => False) (fun a G' => a = .bl true ∧ G' = G) := by
      intro ds e hl hall
      have elem : ∀ x ∈ (List.range ds.length).map (fun (i : Nat) => D.int (0 + (i : Int))), ∀ (g : Int → Gs → Option D), (∀ i G, g i G = atI ds i) → ∃ i : Nat, x = .int i ∧ ∃ y ∈ ds, ∀ G, g i G = some y := by
        intro x hx g hg
        obtain ⟨i, hi, rfl⟩ := List.mem_map.mp hx
        rw [List.mem_range] at hi
        exact ⟨i, by simp, ds[i], List.getElem_mem hi, fun G => by rw [hg]; exact ix_self (by simp [hi])⟩
      unfold b__law_is
      rcases e with rfl | rfl
      · have e1 : isB (.tup ds) "tuple" = true := rfl
        have e2 : isB (.tup ds) "list" = false := by simp [isB, tyB]
        simp only [wR_bnd, wR_ret, wR_rd, wR_lo, wR_lof, wR_chk, wR_ite, wR_call, wR_runF, wR_newL, wR_chn, wS_seq, wS_bnd, wS_nxt, wS_ret, wS_set, wS_brk, wS_cnt, wS_rz0, wS_rz, wS_ite, wS_setIx, wS_try, wS_end, wR_ok, startD, wipeD, List.map_cons, List.map_nil, List.length_cons, List.length_nil, List.replicate, List.cons_append, List.nil_append, List.getElem?_cons_zero, List.getElem?_cons_succ, List.set_cons_zero, List.set_cons_succ, Option.some.injEq, exists_eq_left', Nat.reduceAdd, Nat.reduceSub, Nat.reduceLeDiff, D.int.injEq, D.bl.injEq, addD_i, subD_i, mulD_i, fdivD_i, modD_i, ltD_i, leD_i, gtD_i, geD_i, tb_b, toI_i, intF_i, intF2_i, absF_i, ixD_o, ixD_tl, ixD_tup, ixD_fz, lenF_o, lenF_tl, lenF_tup, lenF_fz, objL_o, tyOk_o, lstO_0, lstO_s, negD_i, eqD2_i, neD2_i, eqD2_s, neD2_s, eqD2_b, neD2_b, Option.bind_some, Option.map_some, Option.isSome_some, Prod.mk.injEq, and_assoc, exists_and_left, decide_eq_true_eq, Option.ite_none_right_eq_some, true_and, and_true, mk2, is_tl ht, is_t ht, is_l ht, e1, e2, Bool.or_false, if_true, decide_true, Bool.not_true, Bool.false_eq_true, if_false, rng1 (show -(2 ^ 62) ≤ (ds.length : Int) by omega) (show (ds.length : Int) < 2 ^ 62 by omega), Int.toNat_natCast]
        rw [compB ((List.range ds.length).map fun (i : Nat) => D.int (0 + (i : Int))) (fun _ => true) rfl (by rw [List.length_map, List.length_range]; omega) (fun x hx => ?_)]
        · rw [allF_map]
          refine ⟨_, rfl, ?_, rfl⟩
          simp
        · obtain ⟨i, rfl, y, hy, hg⟩ := elem x hx (fun i G => ixD (.tup ds) (.int i) G) (fun i G => ixD_tup)
          refine eq_of_wR ?_
          simp only [ixD_tup] at hg
          simp only [wR_bnd, wR_ret, wR_rd, wR_lo, wR_lof, wR_chk, wR_ite, wR_call, wR_runF, wR_newL, wR_chn, wS_seq, wS_bnd, wS_nxt, wS_ret, wS_set, wS_brk, wS_cnt, wS_rz0, wS_rz, wS_ite, wS_setIx, wS_try, wS_end, wR_ok, startD, wipeD, List.map_cons, List.map_nil, List.length_cons, List.length_nil, List.replicate, List.cons_append, List.nil_append, List.getElem?_cons_zero, List.getElem?_cons_succ, List.set_cons_zero, List.set_cons_succ, Option.some.injEq, exists_eq_left', Nat.reduceAdd, Nat.reduceSub, Nat.reduceLeDiff, D.int.injEq, D.bl.injEq, addD_i, subD_i, mulD_i, fdivD_i, modD_i, ltD_i, leD_i, gtD_i, geD_i, tb_b, toI_i, intF_i, intF2_i, absF_i, ixD_o, ixD_tl, ixD_tup, ixD_fz, lenF_o, lenF_tl, lenF_tup, lenF_fz, objL_o, tyOk_o, lstO_0, lstO_s, negD_i, eqD2_i, neD2_i, eqD2_s, neD2_s, eqD2_b, neD2_b, Option.bind_some, Option.map_some, Option.isSome_some, Prod.mk.injEq, and_assoc, exists_and_left, decide_eq_true_eq, Option.ite_none_right_eq_some, true_and, and_true, hg G, w_is n y (hall y hy), and_self]
      · have e1 : isB (.tl ds) "tuple" = false := by simp [isB, tyB]
        have e2 : isB (.tl ds) "list" = true := rfl
        simp only [wR_bnd, wR_ret, wR_rd, wR_lo, wR_lof, wR_chk, wR_ite, wR_call, wR_runF, wR_newL, wR_chn, wS_seq, wS_bnd, wS_nxt, wS_ret, wS_set, wS_brk, wS_cnt, wS_rz0, wS_rz, wS_ite, wS_setIx, wS_try, wS_end, wR_ok, startD, wipeD, List.map_cons, List.map_nil, List.length_cons, List.length_nil, List.replicate, List.cons_append, List.nil_append, List.getElem?_cons_zero, List.getElem?_cons_succ, List.set_cons_zero, List.set_cons_succ, Option.some.injEq, exists_eq_left', Nat.reduceAdd, Nat.reduceSub, Nat.reduceLeDiff, D.int.injEq, D.bl.injEq, addD_i, subD_i, mulD_i, fdivD_i, modD_i, ltD_i, leD_i, gtD_i, geD_i, tb_b, toI_i, intF_i, intF2_i, absF_i, ixD_o, ixD_tl, ixD_tup, ixD_fz, lenF_o, lenF_tl, lenF_tup, lenF_fz, objL_o, tyOk_o, lstO_0, lstO_s, negD_i, eqD2_i, neD2_i, eqD2_s, neD2_s, eqD2_b, neD2_b, Option.bind_some, Option.map_some, Option.isSome_some, Prod.mk.injEq, and_assoc, exists_and_left, decide_eq_true_eq, Option.ite_none_right_eq_some, true_and, and_true, mk2, is_tl ht, is_t ht, is_l ht, e1, e2, Bool.or_true, if_true, decide_true, Bool.not_true, Bool.false_eq_true, if_false, rng1 (show -(2 ^ 62) ≤ (ds.length : Int) by omega) (show (ds.length : Int) < 2 ^ 62 by omega), Int.toNat_natCast]
        rw [compB ((List.range ds.length).map fun (i : Nat) => D.int (0 + (i : Int))) (fun _ => true) rfl (by rw [List.length_map, List.length_range]; omega) (fun x hx => ?_)]
        · rw [allF_map]
          refine ⟨_, rfl, ?_, rfl⟩
          simp
        · obtain ⟨i, rfl, y, hy, hg⟩ := elem x hx (fun i G => ixD (.tl ds) (.int i) G) (fun i G => ixD_tl)
          refine eq_of_wR ?_
          simp only [ixD_tl] at hg
          simp only [wR_bnd, wR_ret, wR_rd, wR_lo, wR_lof, wR_chk, wR_ite, wR_call, wR_runF, wR_newL, wR_chn, wS_seq, wS_bnd, wS_nxt, wS_ret, wS_set, wS_brk, wS_cnt, wS_rz0, wS_rz, wS_ite, wS_setIx, wS_try, wS_end, wR_ok, startD, wipeD, List.map_cons, List.map_nil, List.length_cons, List.length_nil, List.replicate, List.cons_append, List.nil_append, List.getElem?_cons_zero, List.getElem?_cons_succ, List.set_cons_zero, List.set_cons_succ, Option.some.injEq, exists_eq_left', Nat.reduceAdd, Nat.reduceSub, Nat.reduceLeDiff, D.int.injEq, D.bl.injEq, addD_i, subD_i, mulD_i, fdivD_i, modD_i, ltD_i, leD_i, gtD_i, geD_i, tb_b, toI_i, intF_i, intF2_i, absF_i, ixD_o, ixD_tl, ixD_tup, ixD_fz, lenF_o, lenF_tl, lenF_tup, lenF_fz, objL_o, tyOk_o, lstO_0, lstO_s, negD_i, eqD2_i, neD2_i, eqD2_s, neD2_s, eqD2_b, neD2_b, Option.bind_some, Option.map_some, Option.isSome_some, Prod.mk.injEq, and_assoc, exists_and_left, decide_eq_true_eq, Option.ite_none_right_eq_some, true_and, and_true, hg G, w_is n y (hall y hy), and_self]
    have leaf : isB d "tuple" = false → isB d "list" = false → isB d "dict" = false → eqD2 d d G = some (.bl true) → wR (runF 4 (b__law_is (f__law_isr n)) [d, d] G) (fun _ _ => False) (fun a G' => a = .bl true ∧ G' = G) := by
      intro e1 e2 e3 e4
      unfold b__law_is
      simp only [wR_bnd, wR_ret, wR_rd, wR_lo, wR_lof, wR_chk, wR_ite, wR_call, wR_runF, wR_newL, wR_chn, wS_seq, wS_bnd, wS_nxt, wS_ret, wS_set, wS_brk, wS_cnt, wS_rz0, wS_rz, wS_ite, wS_setIx, wS_try, wS_end, wR_ok, startD, wipeD, List.map_cons, List.map_nil, List.length_cons, List.length_nil, List.replicate, List.cons_append, List.nil_append, List.getElem?_cons_zero, List.getElem?_cons_succ, List.set_cons_zero, List.set_cons_succ, Option.some.injEq, exists_eq_left', Nat.reduceAdd, Nat.reduceSub, Nat.reduceLeDiff, D.int.injEq, D.bl.injEq, addD_i, subD_i, mulD_i, fdivD_i, modD_i, ltD_i, leD_i, gtD_i, geD_i, tb_b, toI_i, intF_i, intF2_i, absF_i, ixD_o, ixD_tl, ixD_tup, ixD_fz, lenF_o, lenF_tl, lenF_tup, lenF_fz, objL_o, tyOk_o, lstO_0, lstO_s, negD_i, eqD2_i, neD2_i, eqD2_s, neD2_s, eqD2_b, neD2_b, Option.bind_some, Option.map_some, Option.isSome_some, Prod.mk.injEq, and_assoc, exists_and_left, decide_eq_true_eq, Option.ite_none_right_eq_some, true_and, and_true, mk2, is_tl ht, is_d ht, is_b ht, e1, e2, e3, Bool.or_false, Bool.false_eq_true, if_false, decide_true, if_true, e4]
    cases d with
    | tup ds =>
      have h' : ds.length ≤ 100000 ∧ ∀ x ∈ ds, dp n x = true := by simpa [dp] using h
      exact row ds (.inl rfl) h'.1 h'.2
    | tl ds =>
      have h' : ds.length ≤ 100000 ∧ ∀ x ∈ ds, dp n x = true := by simpa [dp] using h
      exact row ds (.inr rfl) h'.1 h'.2
    | non => exact leaf (by simp [isB, tyB]) (by simp [isB, tyB]) (by simp [isB, tyB]) rfl
    | bl b => exact leaf (by simp [isB, tyB]) (by simp [isB, tyB]) (by simp [isB, tyB]) (by rw [eqD2_b]; simp)
    | int i => exact leaf (by simp [isB, tyB]) (by simp [isB, tyB]) (by simp [isB, tyB]) (by rw [eqD2_i]; simp)
    | str s => exact leaf (by simp [isB, tyB]) (by simp [isB, tyB]) (by simp [isB, tyB]) (by rw [eqD2_s]; simp)
    | _ => simp [dp] at h
end

end K53
end M3
end L2

set_option Elab.async false
set_option linter.all false
set_option maxRecDepth 100000
set_option maxHeartbeats 2000000
namespace L2
namespace M3
namespace K53
open PySem PySem.Spec PyProof.Rows
def numS (i : Int) : Str := Str.ofString (toString i)
def partS : D → Str
  | .int i => numS i
  | .str w => w
  | _ => ""
def lineS : D → Str
  | .tup ds => Txt.join " " (ds.map partS)
  | _ => ""
def textR (ds : List D) : Str := Txt.join "\n" (ds.map lineS)
def smI : D → Bool
  | .int i => decide (i < 1000000000)
  | _ => false
def small : D → Bool
  | .tup (_ :: r) => r.all smI
  | _ => false
def good (d : D) : Bool := deedB d && small d
section
variable {k : Nat} {d : D} {G : Gs} {X : Exc → Gs → Prop}
theorem inW_of {w : Str} (h : inW w = true) : w = "change" ∨ w = "fork" ∨ w = "lose" := by
  unfold inW inV at h
  simp [L2.eqV] at h
  rcases h with h | h | h
  · exact .inl h.symm
  · exact .inr (.inl h.symm)
  · exact .inr (.inr h.symm)
theorem deed_cons {w : Str} {x : D} {r : List D} (h : deedB (.tup (.str w :: x :: r)) = true) : (x :: r).all nn = true ∧ (w = "join" → r.length = 1) ∧ (¬ w = "join" → inW w = true ∧ r.length = 0) := by
  simp only [deedB, Bool.and_eq_true] at h
  obtain ⟨h3, h4⟩ := h
  refine ⟨h3, fun c => ?_, fun c => ?_⟩
  · rw [if_pos c] at h4
    match r, h4 with
    | [y], _ => rfl
  · rw [if_neg c, Bool.and_eq_true, decide_eq_true_eq] at h4
    exact h4
theorem good_form (h : good d = true) : ∃ w x r, d = .tup (.str w :: x :: r) ∧ (w = "join" ∨ w = "change" ∨ w = "fork" ∨ w = "lose") ∧ r.length ≤ 1 ∧ ∀ y ∈ x :: r, ∃ i : Nat, y = .int i ∧ i < 1000000000 := by
  unfold good at h
  rw [Bool.and_eq_true] at h
  obtain ⟨h1, h2⟩ := h
  match d, h1, h2 with
  | .tup (.str w :: x :: r), h1, h2 =>
    obtain ⟨h3, h4, h5⟩ := deed_cons h1
    refine ⟨w, x, r, rfl, ?_, ?_, fun y hy => ?_⟩
    · by_cases c : w = "join"
      · exact .inl c
      · exact .inr (inW_of (h5 c).1)
    · by_cases c : w = "join"
      · rw [h4 c]
        exact Nat.le_refl _
      · rw [(h5 c).2]
        omega
    · have h5 := List.all_eq_true.mp h3 y hy
      have h6 := List.all_eq_true.mp (show (x :: r).all smI = true from h2) y hy
      cases y with
      | int i =>
        simp only [nn, smI, decide_eq_true_eq] at h5 h6
        exact ⟨i.toNat, by congr 1; omega, by omega⟩
      | _ => simp [nn] at h5
theorem numS_tl (n : Nat) : TL.tl (numS n) = TL.numL n := TL.tl_num n
theorem numS_len {n : Nat} (h : n < 1000000000) : (numS n).length ≤ 9 := by
  rw [TL.len_tl, numS_tl]
  exact TL.numL_len (by omega) (by omega)
theorem numL_hd (n : Nat) : 10 ≤ n → (TL.numL n).head? ≠ some 48 := by
  induction n using Nat.strongRecOn with
  | _ n ih =>
    intro h
    rw [TL.numL_step h]
    by_cases c : n / 10 < 10
    · rw [TL.numL_lt c]
      simp
      omega
    · have := ih (n / 10) (by omega) (by omega)
      cases q : TL.numL (n / 10) with
      | nil => exact absurd q (TL.numL_ne _)
      | cons c t => rw [q] at this; simpa using this
theorem numO_numS {n : Nat} (h : n < 1000000000) : numO (numS n) = some (n : Int) := by
  have hl := numS_len h
  have e : (numS n).cps.toList = TL.numL n := numS_tl n
  have hd : dgs (numS n).cps.toList = true := by
    rw [e]
    unfold dgs
    rw [List.all_eq_true]
    intro c hc
    have := TL.numL_digits n c hc
    simp only [Bool.and_eq_true, decide_eq_true_eq]
    exact this
  have h1 : 1 ≤ (numS n).length := by
    rw [TL.len_tl, numS_tl]
    cases q : TL.numL n with
    | nil => exact absurd q (TL.numL_ne n)
    | cons c t => simp
  have hv : dv (numS n) = n := by
    unfold dv
    rw [e, TL.numL_val]
  unfold numO
  rw [hv, if_pos]
  rw [hd]
  by_cases c : 1 < (numS n).length
  · have hn : 10 ≤ n := by
      by_cases z : n < 10
      · rw [TL.len_tl, numS_tl, TL.numL_lt z] at c
        simp at c
      · omega
    have := numL_hd n hn
    rw [← e] at this
    simp [h1, hl, c, this]
  · simp [h1, hl, c]
/-- what stands in no word -/
def free (p : Str) : Prop := 32 ∉ TL.tl p ∧ 10 ∉ TL.tl p ∧ p.length ≤ 9 ∧ 1 ≤ p.length
theorem numS_free {n : Nat} (h : n < 1000000000) : free (numS n) := by
  refine ⟨by rw [numS_tl]; exact TL.numL_free (by omega), by rw [numS_tl]; exact TL.numL_free (by omega), numS_len h, ?_⟩
  rw [TL.len_tl, numS_tl]
  cases q : TL.numL n with
  | nil => exact absurd q (TL.numL_ne n)
  | cons c t => simp
theorem word_free {w : Str} (h : w = "join" ∨ w = "change" ∨ w = "fork" ∨ w = "lose") : free w := by
  rcases h with rfl | rfl | rfl | rfl <;> exact ⟨by decide +kernel, by decide +kernel, by decide +kernel, by decide +kernel⟩
theorem parts_free {w : Str} {x : D} {r : List D} (hw : w = "join" ∨ w = "change" ∨ w = "fork" ∨ w = "lose") (hi : ∀ y ∈ x :: r, ∃ i : Nat, y = .int i ∧ i < 1000000000) : ∀ p ∈ (.str w :: x :: r : List D).map partS, free p := by
  intro p hp
  obtain ⟨y, hy, rfl⟩ := List.mem_map.mp hp
  rcases List.mem_cons.mp hy with rfl | hy
  · exact word_free hw
  · obtain ⟨i, rfl, hi⟩ := hi y hy
    exact numS_free hi
theorem joinL_free {c : Nat} : ∀ {ps : List (List Nat)} {S : List Nat}, c ∉ S → (∀ p ∈ ps, c ∉ p) → c ∉ TL.joinL S ps
  | [], _, _, _ => by simp [TL.joinL]
  | [p], _, _, h => h p (by simp)
  | p :: q :: r, S, hS, h => by
    show c ∉ p ++ (S ++ TL.joinL S (q :: r))
    simp only [List.mem_append, not_or]
    exact ⟨h p (by simp), hS, joinL_free hS fun z hz => h z (List.mem_cons_of_mem _ hz)⟩
theorem sum_le {ps : List Str} {m : Nat} (h : ∀ p ∈ ps, p.length ≤ m) : (ps.map (·.length)).sum ≤ ps.length * m := by
  induction ps with
  | nil => simp
  | cons p r ih =>
    have h1 := h p (by simp)
    have h2 := ih fun q hq => h q (List.mem_cons_of_mem _ hq)
    simp only [List.map_cons, List.sum_cons, List.length_cons]
    rw [Nat.add_mul]
    omega
theorem line_len (h : good d = true) : (lineS d).length ≤ 30 ∧ 1 ≤ (lineS d).length ∧ 10 ∉ TL.tl (lineS d) := by
  obtain ⟨w, x, r, rfl, hw, hr, hi⟩ := good_form h
  have hp := parts_free hw hi
  have e : lineS (.tup (.str w :: x :: r)) = Txt.join " " ((.str w :: x :: r : List D).map partS) := rfl
  have hl : ((.str w :: x :: r : List D).map partS).length ≤ 3 := by
    simp only [List.length_map, List.length_cons]
    omega
  have h2 : (" " : Str).length = 1 := by decide
  rw [e, TL.join_eq]
  refine ⟨?_, ?_, ?_⟩
  · have h1 := StrLaws.join_length_le " " ((.str w :: x :: r : List D).map partS)
    have h3 := sum_le (fun p hp' => (hp p hp').2.2.1)
    rw [h2] at h1
    omega
  · rw [TL.len_tl, TL.tl_join]
    have h4 := (hp w (by simp [partS])).2.2.2
    rw [TL.len_tl] at h4
    show 1 ≤ (TL.tl w ++ (TL.tl " " ++ _)).length
    rw [List.length_append]
    omega
  · rw [TL.tl_join]
    refine joinL_free (by decide +kernel) fun q hq => ?_
    obtain ⟨p, hp', rfl⟩ := List.mem_map.mp hq
    exact (hp p hp').2.1
theorem line_back (h : good d = true) : lineD (lineS d) = d := by
  obtain ⟨w, x, r, rfl, hw, hr, hi⟩ := good_form h
  have hp := parts_free hw hi
  have e : lineS (.tup (.str w :: x :: r)) = Txt.join " " ((.str w :: x :: r : List D).map partS) := rfl
  have hs : Txt.split (lineS (.tup (.str w :: x :: r))) " " = (.str w :: x :: r : List D).map partS := by
    rw [e]
    exact TL.split_join (s := 32) (S := []) sep_bl.e sep_bl.k (by simp) fun p hp' => (hp p hp').1
  unfold lineD
  rw [hs]
  show D.tup (.str w :: _) = _
  congr 2
  have key : ∀ l : List D, (∀ y ∈ l, ∃ i : Nat, y = .int i ∧ i < 1000000000) → (l.map partS).map (fun w => oD (numO w)) = l := by
    intro l
    induction l with
    | nil => intro _; rfl
    | cons y r ih =>
      intro hl
      obtain ⟨i, rfl, hi⟩ := hl y (by simp)
      rw [List.map_cons, List.map_cons, ih fun z hz => hl z (List.mem_cons_of_mem _ hz)]
      show oD (numO (numS i)) :: r = _
      rw [numO_numS hi]
      rfl
  exact key (x :: r) hi
theorem readR_good : ∀ (ds : List D) (n : Nat), (∀ d ∈ ds, good d = true) → readR n (ds.map lineS) = .inr ds
  | [], _, _ => rfl
  | d :: ds, n, h => by
    have hd := h d (by simp)
    have h1 : deedB d = true := by
      unfold good at hd
      rw [Bool.and_eq_true] at hd
      exact hd.1
    rw [List.map_cons]
    simp only [readR, line_back hd, h1, if_true, readR_good ds (n + 1) fun z hz => h z (List.mem_cons_of_mem _ hz)]
theorem read_back {ds : List D} (h : ∀ d ∈ ds, good d = true) : readT (textR ds) = .inr ds := by
  unfold readT
  by_cases c : ds = []
  · subst c
    have e : textR [] = "" := by
      unfold textR
      rw [TL.join_eq]
      rfl
    rw [if_pos e]
  have hs : Txt.split (textR ds) "\n" = ds.map lineS := by
    unfold textR
    refine TL.split_join (s := 10) (S := []) sep_nl.e sep_nl.k (by simpa using c) fun p hp => ?_
    obtain ⟨d, hd, rfl⟩ := List.mem_map.mp hp
    exact (line_len (h d hd)).2.2
  have hne : ¬ textR ds = "" := fun z => by
    rw [z] at hs
    have e : Txt.split ("" : Str) ("\n" : Str) = ([("" : Str)] : List Str) := by decide +kernel
    rw [e] at hs
    cases ds with
    | nil => exact c rfl
    | cons d r =>
      have h1 := (line_len (h d (by simp))).2.1
      rw [List.map_cons] at hs
      injection hs with h2 _
      rw [← h2] at h1
      exact absurd h1 (by decide)
  rw [if_neg hne, hs, readR_good ds 0 h]
theorem text_len {ds : List D} {m : Nat} (h : ∀ d ∈ ds, good d = true) (hm : ds.length ≤ m) : (textR ds).length ≤ m * 31 := by
  unfold textR
  rw [TL.join_eq]
  have h1 := StrLaws.join_length_le "\n" (ds.map lineS)
  have h2 : ("\n" : Str).length = 1 := by decide
  have h3 := sum_le (ps := ds.map lineS) (m := 30) fun p hp => by
    obtain ⟨d, hd, rfl⟩ := List.mem_map.mp hp
    exact (line_len (h d hd)).1
  rw [h2, List.length_map] at h1
  rw [List.length_map] at h3
  omega
end

end K53
end M3
end L2

set_option Elab.async false
set_option linter.all false
set_option maxRecDepth 100000
set_option maxHeartbeats 2000000
namespace L2
namespace M3
namespace K53
open PySem PySem.Spec PyProof.Rows
section
variable {k : Nat} {d : D} {G : Gs} {X : Exc → Gs → Prop}
theorem strs_D : ∀ ps : List Str, allOf strD (ps.map D.str) = some ps
  | [] => rfl
  | p :: r => by
    have ih := strs_D r
    rw [List.map_cons]
    simp only [allOf, strD, ih]
theorem join_l {sep : Str} {ps : List Str} (h : (ps.map fun (x : Str) => x.length).sum + ps.length * sep.length ≤ 16777216) : joinF (.str sep) [.tl (ps.map D.str)] G = some (.str (Txt.join sep ps), G) := by
  show (match allOf strD (ps.map D.str) with
    | some ys => if (ys.map fun (x : Str) => x.length).sum + ys.length * sep.length ≤ 16777216 then some (D.str (Txt.join sep ys), G) else none
    | none => none) = _
  rw [strs_D]
  exact if_pos h
theorem len_nl : ("\n" : Str).length = 1 := by decide
theorem len_bl : (" " : Str).length = 1 := by decide
theorem strF2_i {n : Nat} (h : n < 1000000000) : strF2 [.int (n : Int)] G = some (.str (numS n)) := by
  show (if (n : Int).natAbs.log2 < 1920 then some (D.str (numS n)) else none) = _
  rw [if_pos]
  rw [Int.natAbs_natCast]
  by_cases z : n = 0
  · subst z; decide
  · have := (Nat.log2_lt (n := n) (k := 30) z).mpr (by omega)
    omega
theorem good_pd (h : good d = true) (hk : 10 ≤ k) : pd k d = true := by
  obtain ⟨w, x, r, rfl, hw, hr, hi⟩ := good_form h
  refine pd_tp.mpr ⟨by simp only [List.length_cons]; omega, fun y hy => ?_⟩
  rcases List.mem_cons.mp hy with rfl | hy
  · have := (word_free hw).2.2.1
    simp only [pd, decide_eq_true_eq]
    omega
  · obtain ⟨i, rfl, _⟩ := hi y hy
    rfl
theorem good_deed (h : good d = true) : deedB d = true := by
  unfold good at h
  rw [Bool.and_eq_true] at h
  exact h.1
theorem run_pd {ds : List D} (h : ∀ d ∈ ds, good d = true) (hl : ds.length ≤ 100) : pd 100 (.tup ds) = true := pd_tp.mpr ⟨hl, fun x hx => good_pd (h x hx) (by omega)⟩
theorem run_B {ds : List D} (h : ∀ d ∈ ds, good d = true) : runB (.tup ds) = true := List.all_eq_true.mpr fun d hd => good_deed (h d hd)
/-- a deed's line -/
theorem parts_join {w : Str} {x : D} {r : List D} (hw : w = "join" ∨ w = "change" ∨ w = "fork" ∨ w = "lose") (hr : r.length ≤ 1) (hi : ∀ y ∈ x :: r, ∃ i : Nat, y = .int i ∧ i < 1000000000) : joinF (.str " ") [.tl (((.str w :: x :: r : List D).map partS).map D.str)] G = some (.str (lineS (.tup (.str w :: x :: r))), G) := by
  refine join_l ?_
  have h1 := sum_le (fun p hp' => (parts_free hw hi p hp').2.2.1)
  have hl : ((.str w :: x :: r : List D).map partS).length ≤ 3 := by
    simp only [List.length_map, List.length_cons]
    omega
  rw [len_bl]
  omega
theorem lines_join {ds : List D} (h : ∀ d ∈ ds, good d = true) (hl : ds.length ≤ 100) : joinF (.str "\n") [.tl ((ds.map lineS).map D.str)] G = some (.str (textR ds), G) := by
  refine join_l ?_
  have h3 := sum_le (ps := ds.map lineS) (m := 30) fun p hp => by
    obtain ⟨d, hd, rfl⟩ := List.mem_map.mp hp
    exact (line_len (h d hd)).1
  rw [len_nl]
  rw [List.length_map] at h3 ⊢
  omega
theorem strs_of {l : List D} {f : D → Str} : l.map (fun y => D.str (f y)) = (l.map f).map D.str := by
  rw [List.map_map]
  rfl
theorem part_str {y : D} (h : (∃ w, y = .str w) ∨ ∃ i : Nat, y = .int i ∧ i < 1000000000) : strF2 [y] G = some (.str (partS y)) := by
  rcases h with ⟨w, rfl⟩ | ⟨i, rfl, hi⟩
  · rfl
  · exact strF2_i hi
theorem w_runtext {ds : List D} (h : ∀ d ∈ ds, good d = true) (hl : ds.length ≤ 100) : f_run_text [.tup ds] G = .ok (.str (textR ds)) G := by
  refine eq_of_wR ?_
  unfold f_run_text b_run_text
  simp only [wR_bnd, wR_ret, wR_rd, wR_lo, wR_lof, wR_chk, wR_ite, wR_call, wR_runF, wR_newL, wR_chn, wS_seq, wS_bnd, wS_nxt, wS_ret, wS_set, wS_brk, wS_cnt, wS_rz0, wS_rz, wS_ite, wS_setIx, wS_try, wS_end, wR_ok, startD, wipeD, List.map_cons, List.map_nil, List.length_cons, List.length_nil, List.replicate, List.cons_append, List.nil_append, List.getElem?_cons_zero, List.getElem?_cons_succ, List.set_cons_zero, List.set_cons_succ, Option.some.injEq, exists_eq_left', Nat.reduceAdd, Nat.reduceSub, Nat.reduceLeDiff, D.int.injEq, D.bl.injEq, addD_i, subD_i, mulD_i, fdivD_i, modD_i, ltD_i, leD_i, gtD_i, geD_i, tb_b, toI_i, intF_i, intF2_i, absF_i, ixD_o, ixD_tl, ixD_tup, ixD_fz, lenF_o, lenF_tl, lenF_tup, lenF_fz, objL_o, tyOk_o, lstO_0, lstO_s, negD_i, eqD2_i, neD2_i, eqD2_s, neD2_s, eqD2_b, neD2_b, Option.bind_some, Option.map_some, Option.isSome_some, Prod.mk.injEq, and_assoc, exists_and_left, decide_eq_true_eq, Option.ite_none_right_eq_some, true_and, and_true, w_isrun (show 100 ≤ 100000 by omega) (run_pd h hl), run_B h, Bool.not_true, Bool.false_eq_true, if_false, tyOk_s, srcA_t]
  rw [compE ds (fun d => .str (lineS d)) rfl (by omega) (fun d hd => ?_)]
  · rw [strs_of]
    simp only [lines_join h hl, Option.some.injEq, exists_eq_left', and_self]
  · obtain ⟨w, x, r, rfl, hw, hr, hi⟩ := good_form (h d hd)
    refine eq_of_wR ?_
    simp only [wR_bnd, wR_ret, wR_rd, wR_lo, wR_lof, wR_chk, wR_ite, wR_call, wR_runF, wR_newL, wR_chn, wS_seq, wS_bnd, wS_nxt, wS_ret, wS_set, wS_brk, wS_cnt, wS_rz0, wS_rz, wS_ite, wS_setIx, wS_try, wS_end, wR_ok, startD, wipeD, List.map_cons, List.map_nil, List.length_cons, List.length_nil, List.replicate, List.cons_append, List.nil_append, List.getElem?_cons_zero, List.getElem?_cons_succ, List.set_cons_zero, List.set_cons_succ, Option.some.injEq, exists_eq_left', Nat.reduceAdd, Nat.reduceSub, Nat.reduceLeDiff, D.int.injEq, D.bl.injEq, addD_i, subD_i, mulD_i, fdivD_i, modD_i, ltD_i, leD_i, gtD_i, geD_i, tb_b, toI_i, intF_i, intF2_i, absF_i, ixD_o, ixD_tl, ixD_tup, ixD_fz, lenF_o, lenF_tl, lenF_tup, lenF_fz, objL_o, tyOk_o, lstO_0, lstO_s, negD_i, eqD2_i, neD2_i, eqD2_s, neD2_s, eqD2_b, neD2_b, Option.bind_some, Option.map_some, Option.isSome_some, Prod.mk.injEq, and_assoc, exists_and_left, decide_eq_true_eq, Option.ite_none_right_eq_some, true_and, and_true, tyOk_s, srcA_t]
    rw [compE (.str w :: x :: r) (fun y => .str (partS y)) rfl (by simp only [List.length_cons]; omega) (fun y hy => ?_)]
    · rw [strs_of]
      simp only [parts_join hw hr hi, Option.some.injEq, exists_eq_left', and_self]
    · have hy' : (∃ w, y = .str w) ∨ ∃ i : Nat, y = .int i ∧ i < 1000000000 := by
        rcases List.mem_cons.mp hy with rfl | hy
        · exact .inl ⟨_, rfl⟩
        · exact .inr (hi y hy)
      refine eq_of_wR ?_
      simp only [wR_bnd, wR_ret, wR_rd, wR_lo, wR_lof, wR_chk, wR_ite, wR_call, wR_runF, wR_newL, wR_chn, wS_seq, wS_bnd, wS_nxt, wS_ret, wS_set, wS_brk, wS_cnt, wS_rz0, wS_rz, wS_ite, wS_setIx, wS_try, wS_end, wR_ok, startD, wipeD, List.map_cons, List.map_nil, List.length_cons, List.length_nil, List.replicate, List.cons_append, List.nil_append, List.getElem?_cons_zero, List.getElem?_cons_succ, List.set_cons_zero, List.set_cons_succ, Option.some.injEq, exists_eq_left', Nat.reduceAdd, Nat.reduceSub, Nat.reduceLeDiff, D.int.injEq, D.bl.injEq, addD_i, subD_i, mulD_i, fdivD_i, modD_i, ltD_i, leD_i, gtD_i, geD_i, tb_b, toI_i, intF_i, intF2_i, absF_i, ixD_o, ixD_tl, ixD_tup, ixD_fz, lenF_o, lenF_tl, lenF_tup, lenF_fz, objL_o, tyOk_o, lstO_0, lstO_s, negD_i, eqD2_i, neD2_i, eqD2_s, neD2_s, eqD2_b, neD2_b, Option.bind_some, Option.map_some, Option.isSome_some, Prod.mk.injEq, and_assoc, exists_and_left, decide_eq_true_eq, Option.ite_none_right_eq_some, true_and, and_true, part_str hy', and_self]
theorem w_lruntext {ds : List D} (h : ∀ d ∈ ds, good d = true) (hl : ds.length ≤ 100) : f__law_run_text [.tup ds] G = .ok (.str (textR ds)) G := by
  refine eq_of_wR ?_
  unfold f__law_run_text b__law_run_text
  simp only [wR_bnd, wR_ret, wR_rd, wR_lo, wR_lof, wR_chk, wR_ite, wR_call, wR_runF, wR_newL, wR_chn, wS_seq, wS_bnd, wS_nxt, wS_ret, wS_set, wS_brk, wS_cnt, wS_rz0, wS_rz, wS_ite, wS_setIx, wS_try, wS_end, wR_ok, startD, wipeD, List.map_cons, List.map_nil, List.length_cons, List.length_nil, List.replicate, List.cons_append, List.nil_append, List.getElem?_cons_zero, List.getElem?_cons_succ, List.set_cons_zero, List.set_cons_succ, Option.some.injEq, exists_eq_left', Nat.reduceAdd, Nat.reduceSub, Nat.reduceLeDiff, D.int.injEq, D.bl.injEq, addD_i, subD_i, mulD_i, fdivD_i, modD_i, ltD_i, leD_i, gtD_i, geD_i, tb_b, toI_i, intF_i, intF2_i, absF_i, ixD_o, ixD_tl, ixD_tup, ixD_fz, lenF_o, lenF_tl, lenF_tup, lenF_fz, objL_o, tyOk_o, lstO_0, lstO_s, negD_i, eqD2_i, neD2_i, eqD2_s, neD2_s, eqD2_b, neD2_b, Option.bind_some, Option.map_some, Option.isSome_some, Prod.mk.injEq, and_assoc, exists_and_left, decide_eq_true_eq, Option.ite_none_right_eq_some, true_and, and_true, tyOk_s, srcA_t]
  rw [compE ds (fun d => .str (lineS d)) rfl (by omega) (fun d hd => ?_)]
  · rw [strs_of]
    simp only [lines_join h hl, Option.some.injEq, exists_eq_left', and_self]
  · obtain ⟨w, x, r, rfl, hw, hr, hi⟩ := good_form (h d hd)
    refine eq_of_wR ?_
    have q1 : ∀ G, slD (.tup (.str w :: x :: r)) (some 1) none G = some (.tup (x :: r)) := fun G => slD_tr (by decide)
    have m1 : ∀ G, mkL [.str w] G = some (.tl [.str w]) := fun G => mkL_c (by simp)
    simp only [wR_bnd, wR_ret, wR_rd, wR_lo, wR_lof, wR_chk, wR_ite, wR_call, wR_runF, wR_newL, wR_chn, wS_seq, wS_bnd, wS_nxt, wS_ret, wS_set, wS_brk, wS_cnt, wS_rz0, wS_rz, wS_ite, wS_setIx, wS_try, wS_end, wR_ok, startD, wipeD, List.map_cons, List.map_nil, List.length_cons, List.length_nil, List.replicate, List.cons_append, List.nil_append, List.getElem?_cons_zero, List.getElem?_cons_succ, List.set_cons_zero, List.set_cons_succ, Option.some.injEq, exists_eq_left', Nat.reduceAdd, Nat.reduceSub, Nat.reduceLeDiff, D.int.injEq, D.bl.injEq, addD_i, subD_i, mulD_i, fdivD_i, modD_i, ltD_i, leD_i, gtD_i, geD_i, tb_b, toI_i, intF_i, intF2_i, absF_i, ixD_o, ixD_tl, ixD_tup, ixD_fz, lenF_o, lenF_tl, lenF_tup, lenF_fz, objL_o, tyOk_o, lstO_0, lstO_s, negD_i, eqD2_i, neD2_i, eqD2_s, neD2_s, eqD2_b, neD2_b, Option.bind_some, Option.map_some, Option.isSome_some, Prod.mk.injEq, and_assoc, exists_and_left, decide_eq_true_eq, Option.ite_none_right_eq_some, true_and, and_true, tyOk_s, atI_0, m1, q1, srcA_t]
    rw [compE (x :: r) (fun y => .str (partS y)) rfl (by simp only [List.length_cons]; omega) (fun y hy => ?_)]
    · have ad : addD (.tl [.str w]) (.tl ((x :: r).map fun y => .str (partS y))) G = some (.tl (((.str w :: x :: r : List D).map partS).map D.str)) := by
        rw [addD_ll (by simp only [List.length_map, List.length_cons, List.length_nil]; omega), strs_of]
        rfl
      simp only [ad, parts_join hw hr hi, Option.some.injEq, exists_eq_left', and_self]
    · refine eq_of_wR ?_
      simp only [wR_bnd, wR_ret, wR_rd, wR_lo, wR_lof, wR_chk, wR_ite, wR_call, wR_runF, wR_newL, wR_chn, wS_seq, wS_bnd, wS_nxt, wS_ret, wS_set, wS_brk, wS_cnt, wS_rz0, wS_rz, wS_ite, wS_setIx, wS_try, wS_end, wR_ok, startD, wipeD, List.map_cons, List.map_nil, List.length_cons, List.length_nil, List.replicate, List.cons_append, List.nil_append, List.getElem?_cons_zero, List.getElem?_cons_succ, List.set_cons_zero, List.set_cons_succ, Option.some.injEq, exists_eq_left', Nat.reduceAdd, Nat.reduceSub, Nat.reduceLeDiff, D.int.injEq, D.bl.injEq, addD_i, subD_i, mulD_i, fdivD_i, modD_i, ltD_i, leD_i, gtD_i, geD_i, tb_b, toI_i, intF_i, intF2_i, absF_i, ixD_o, ixD_tl, ixD_tup, ixD_fz, lenF_o, lenF_tl, lenF_tup, lenF_fz, objL_o, tyOk_o, lstO_0, lstO_s, negD_i, eqD2_i, neD2_i, eqD2_s, neD2_s, eqD2_b, neD2_b, Option.bind_some, Option.map_some, Option.isSome_some, Prod.mk.injEq, and_assoc, exists_and_left, decide_eq_true_eq, Option.ite_none_right_eq_some, true_and, and_true, part_str (.inr (hi y hy)), and_self]
theorem w_written {d : D} (h : pd 100 d = true) (hr : runB d = true → ∃ ds, d = .tup ds ∧ (∀ x ∈ ds, good x = true) ∧ ds.length ≤ 100) : f__law_written [d] G = .ok (if runB d = true then (match d with | .tup ds => .str (textR ds) | _ => .non) else .int 0) G := by
  refine eq_of_wR ?_
  unfold f__law_written b__law_written
  by_cases c : runB d = true
  · obtain ⟨ds, rfl, hg, hl⟩ := hr c
    simp only [wR_bnd, wR_ret, wR_rd, wR_lo, wR_lof, wR_chk, wR_ite, wR_call, wR_runF, wR_newL, wR_chn, wS_seq, wS_bnd, wS_nxt, wS_ret, wS_set, wS_brk, wS_cnt, wS_rz0, wS_rz, wS_ite, wS_setIx, wS_try, wS_end, wR_ok, startD, wipeD, List.map_cons, List.map_nil, List.length_cons, List.length_nil, List.replicate, List.cons_append, List.nil_append, List.getElem?_cons_zero, List.getElem?_cons_succ, List.set_cons_zero, List.set_cons_succ, Option.some.injEq, exists_eq_left', Nat.reduceAdd, Nat.reduceSub, Nat.reduceLeDiff, D.int.injEq, D.bl.injEq, addD_i, subD_i, mulD_i, fdivD_i, modD_i, ltD_i, leD_i, gtD_i, geD_i, tb_b, toI_i, intF_i, intF2_i, absF_i, ixD_o, ixD_tl, ixD_tup, ixD_fz, lenF_o, lenF_tl, lenF_tup, lenF_fz, objL_o, tyOk_o, lstO_0, lstO_s, negD_i, eqD2_i, neD2_i, eqD2_s, neD2_s, eqD2_b, neD2_b, Option.bind_some, Option.map_some, Option.isSome_some, Prod.mk.injEq, and_assoc, exists_and_left, decide_eq_true_eq, Option.ite_none_right_eq_some, true_and, and_true, w_runtext hg hl, c, if_true, and_self]
  · have c' : runB d = false := by simpa using c
    have hl : wR (f_run_text [d] G) (fun e G' => e = ⟨"NoRun", none⟩ ∧ G' = G) (fun _ _ => False) := by
      unfold f_run_text b_run_text
      simp only [wR_bnd, wR_ret, wR_rd, wR_lo, wR_lof, wR_chk, wR_ite, wR_call, wR_runF, wR_newL, wR_chn, wS_seq, wS_bnd, wS_nxt, wS_ret, wS_set, wS_brk, wS_cnt, wS_rz0, wS_rz, wS_ite, wS_setIx, wS_try, wS_end, wR_ok, startD, wipeD, List.map_cons, List.map_nil, List.length_cons, List.length_nil, List.replicate, List.cons_append, List.nil_append, List.getElem?_cons_zero, List.getElem?_cons_succ, List.set_cons_zero, List.set_cons_succ, Option.some.injEq, exists_eq_left', Nat.reduceAdd, Nat.reduceSub, Nat.reduceLeDiff, D.int.injEq, D.bl.injEq, addD_i, subD_i, mulD_i, fdivD_i, modD_i, ltD_i, leD_i, gtD_i, geD_i, tb_b, toI_i, intF_i, intF2_i, absF_i, ixD_o, ixD_tl, ixD_tup, ixD_fz, lenF_o, lenF_tl, lenF_tup, lenF_fz, objL_o, tyOk_o, lstO_0, lstO_s, negD_i, eqD2_i, neD2_i, eqD2_s, neD2_s, eqD2_b, neD2_b, Option.bind_some, Option.map_some, Option.isSome_some, Prod.mk.injEq, and_assoc, exists_and_left, decide_eq_true_eq, Option.ite_none_right_eq_some, true_and, and_true, w_isrun (show 100 ≤ 100000 by omega) h, c', Bool.not_false, if_true, and_self]
    simp only [wR_bnd, wR_ret, wR_rd, wR_lo, wR_lof, wR_chk, wR_ite, wR_call, wR_runF, wR_newL, wR_chn, wS_seq, wS_bnd, wS_nxt, wS_ret, wS_set, wS_brk, wS_cnt, wS_rz0, wS_rz, wS_ite, wS_setIx, wS_try, wS_end, wR_ok, startD, wipeD, List.map_cons, List.map_nil, List.length_cons, List.length_nil, List.replicate, List.cons_append, List.nil_append, List.getElem?_cons_zero, List.getElem?_cons_succ, List.set_cons_zero, List.set_cons_succ, Option.some.injEq, exists_eq_left', Nat.reduceAdd, Nat.reduceSub, Nat.reduceLeDiff, D.int.injEq, D.bl.injEq, addD_i, subD_i, mulD_i, fdivD_i, modD_i, ltD_i, leD_i, gtD_i, geD_i, tb_b, toI_i, intF_i, intF2_i, absF_i, ixD_o, ixD_tl, ixD_tup, ixD_fz, lenF_o, lenF_tl, lenF_tup, lenF_fz, objL_o, tyOk_o, lstO_0, lstO_s, negD_i, eqD2_i, neD2_i, eqD2_s, neD2_s, eqD2_b, neD2_b, Option.bind_some, Option.map_some, Option.isSome_some, Prod.mk.injEq, and_assoc, exists_and_left, decide_eq_true_eq, Option.ite_none_right_eq_some, true_and, and_true, c', Bool.false_eq_true, if_false]
    refine wR_imp hl (fun e G' h => ?_) fun d G' h => h.elim
    obtain ⟨rfl, rfl⟩ := h
    refine .inl ⟨em_nr, by decide, ?_⟩
    simp only [wR_bnd, wR_ret, wR_rd, wR_lo, wR_lof, wR_chk, wR_ite, wR_call, wR_runF, wR_newL, wR_chn, wS_seq, wS_bnd, wS_nxt, wS_ret, wS_set, wS_brk, wS_cnt, wS_rz0, wS_rz, wS_ite, wS_setIx, wS_try, wS_end, wR_ok, startD, wipeD, List.map_cons, List.map_nil, List.length_cons, List.length_nil, List.replicate, List.cons_append, List.nil_append, List.getElem?_cons_zero, List.getElem?_cons_succ, List.set_cons_zero, List.set_cons_succ, Option.some.injEq, exists_eq_left', Nat.reduceAdd, Nat.reduceSub, Nat.reduceLeDiff, D.int.injEq, D.bl.injEq, addD_i, subD_i, mulD_i, fdivD_i, modD_i, ltD_i, leD_i, gtD_i, geD_i, tb_b, toI_i, intF_i, intF2_i, absF_i, ixD_o, ixD_tl, ixD_tup, ixD_fz, lenF_o, lenF_tl, lenF_tup, lenF_fz, objL_o, tyOk_o, lstO_0, lstO_s, negD_i, eqD2_i, neD2_i, eqD2_s, neD2_s, eqD2_b, neD2_b, Option.bind_some, Option.map_some, Option.isSome_some, Prod.mk.injEq, and_assoc, exists_and_left, decide_eq_true_eq, Option.ite_none_right_eq_some, true_and, and_true, ie_3, ie_4, if_true, and_self]
def deepD (t : Bool) : Nat → D
  | 0 => .non
  | n + 1 => if t then .tup [deepD t n] else .tl [deepD t n]
theorem deep_pd (t : Bool) : ∀ n, pd 100 (deepD t n) = true
  | 0 => rfl
  | n + 1 => by
    have ih := deep_pd t n
    cases t <;> simp [deepD, pd, pds, ih]
theorem w_deep {v : Int} : f__law_deep [.int v] G = .ok (deepD (!decide (v = 0)) 28) G := by
  refine eq_of_wR ?_
  unfold f__law_deep b__law_deep
  simp only [wR_bnd, wR_ret, wR_rd, wR_lo, wR_lof, wR_chk, wR_ite, wR_call, wR_runF, wR_newL, wR_chn, wS_seq, wS_bnd, wS_nxt, wS_ret, wS_set, wS_brk, wS_cnt, wS_rz0, wS_rz, wS_ite, wS_setIx, wS_try, wS_end, wR_ok, startD, wipeD, List.map_cons, List.map_nil, List.length_cons, List.length_nil, List.replicate, List.cons_append, List.nil_append, List.getElem?_cons_zero, List.getElem?_cons_succ, List.set_cons_zero, List.set_cons_succ, Option.some.injEq, exists_eq_left', Nat.reduceAdd, Nat.reduceSub, Nat.reduceLeDiff, D.int.injEq, D.bl.injEq, addD_i, subD_i, mulD_i, fdivD_i, modD_i, ltD_i, leD_i, gtD_i, geD_i, tb_b, toI_i, intF_i, intF2_i, absF_i, ixD_o, ixD_tl, ixD_tup, ixD_fz, lenF_o, lenF_tl, lenF_tup, lenF_fz, objL_o, tyOk_o, lstO_0, lstO_s, negD_i, eqD2_i, neD2_i, eqD2_s, neD2_s, eqD2_b, neD2_b, Option.bind_some, Option.map_some, Option.isSome_some, Prod.mk.injEq, and_assoc, exists_and_left, decide_eq_true_eq, Option.ite_none_right_eq_some, true_and, and_true, rng1 (show -(2 ^ 62) ≤ (28 : Int) by decide) (show (28 : Int) < 2 ^ 62 by decide)]
  have mt : ∀ G a, mkT [a] G = some (.tup [a]) := fun G a => mkT_c (by simp)
  have ml : ∀ G a, mkL [a] G = some (.tl [a]) := fun G a => mkL_c (by simp)
  refine wS_for (its := (List.range 28).map fun (i : Nat) => D.int (0 + (i : Int))) (fun q l G' => G' = G ∧ ∃ n, n + q.length = 28 ∧ ∃ z, l = [some (.int v), some (deepD (!decide (v = 0)) n), z]) rfl ⟨rfl, 0, by simp, _, rfl⟩ (fun _ _ _ _ => rfl) ?_ ?_
  · rintro x q l G' ⟨rfl, n, hn, z, rfl⟩
    simp only [wS_nm, List.set_cons_zero, List.set_cons_succ, wR_bnd, wR_ret, wR_rd, wR_lo, wR_lof, wR_chk, wR_ite, wR_call, wR_runF, wR_newL, wR_chn, wS_seq, wS_bnd, wS_nxt, wS_ret, wS_set, wS_brk, wS_cnt, wS_rz0, wS_rz, wS_ite, wS_setIx, wS_try, wS_end, wR_ok, startD, wipeD, List.map_cons, List.map_nil, List.length_cons, List.length_nil, List.replicate, List.cons_append, List.nil_append, List.getElem?_cons_zero, List.getElem?_cons_succ, List.set_cons_zero, List.set_cons_succ, Option.some.injEq, exists_eq_left', Nat.reduceAdd, Nat.reduceSub, Nat.reduceLeDiff, D.int.injEq, D.bl.injEq, addD_i, subD_i, mulD_i, fdivD_i, modD_i, ltD_i, leD_i, gtD_i, geD_i, tb_b, toI_i, intF_i, intF2_i, absF_i, ixD_o, ixD_tl, ixD_tup, ixD_fz, lenF_o, lenF_tl, lenF_tup, lenF_fz, objL_o, tyOk_o, lstO_0, lstO_s, negD_i, eqD2_i, neD2_i, eqD2_s, neD2_s, eqD2_b, neD2_b, Option.bind_some, Option.map_some, Option.isSome_some, Prod.mk.injEq, and_assoc, exists_and_left, decide_eq_true_eq, Option.ite_none_right_eq_some, true_and, and_true, mt, ml]
    have hn' : n + 1 + q.length = 28 := by simp at hn; omega
    by_cases c : v = 0
    · rw [if_pos c]
      exact ⟨n + 1, hn', _, by simp [deepD, c]; rfl⟩
    · rw [if_neg c]
      exact ⟨n + 1, hn', _, by simp [deepD, c]; rfl⟩
  · rintro l G' ⟨rfl, n, hn, z, rfl⟩
    simp only [wR_bnd, wR_ret, wR_rd, wR_lo, wR_lof, wR_chk, wR_ite, wR_call, wR_runF, wR_newL, wR_chn, wS_seq, wS_bnd, wS_nxt, wS_ret, wS_set, wS_brk, wS_cnt, wS_rz0, wS_rz, wS_ite, wS_setIx, wS_try, wS_end, wR_ok, startD, wipeD, List.map_cons, List.map_nil, List.length_cons, List.length_nil, List.replicate, List.cons_append, List.nil_append, List.getElem?_cons_zero, List.getElem?_cons_succ, List.set_cons_zero, List.set_cons_succ, Option.some.injEq, exists_eq_left', Nat.reduceAdd, Nat.reduceSub, Nat.reduceLeDiff, D.int.injEq, D.bl.injEq, addD_i, subD_i, mulD_i, fdivD_i, modD_i, ltD_i, leD_i, gtD_i, geD_i, tb_b, toI_i, intF_i, intF2_i, absF_i, ixD_o, ixD_tl, ixD_tup, ixD_fz, lenF_o, lenF_tl, lenF_tup, lenF_fz, objL_o, tyOk_o, lstO_0, lstO_s, negD_i, eqD2_i, neD2_i, eqD2_s, neD2_s, eqD2_b, neD2_b, Option.bind_some, Option.map_some, Option.isSome_some, Prod.mk.injEq, and_assoc, exists_and_left, decide_eq_true_eq, Option.ite_none_right_eq_some, true_and, and_true]
    have : n = 28 := by simpa using hn
    rw [this]
end

end K53
end M3
end L2

set_option Elab.async false
set_option linter.all false
set_option maxRecDepth 100000
set_option maxHeartbeats 2000000
namespace L2
namespace M3
namespace K53
open PySem PySem.Spec PyProof.Rows
section
variable {k : Nat} {d : D} {G : Gs} {X : Exc → Gs → Prop}
theorem bel_ints {n : Nat} : ∀ cs : List Int, below.belowDs n (cs.map D.int) = true
  | [] => rfl
  | c :: r => by
    rw [List.map_cons]
    show (true && below.belowDs n (r.map D.int)) = true
    rw [bel_ints r]
    rfl
theorem bel_H {h : HS} : below 1 [gH h] = true := by
  show (below.belowDs 1 [.tl (h.cs.map D.int), .int h.i, .int h.big, .int h.s, .int h.t] && true) = true
  show ((below.belowDs 1 (h.cs.map D.int) && true) && true) = true
  rw [bel_ints]
  rfl
theorem l1 {h : HS} {acc : List D} : lstO [gH h, .lst acc] 1 = some acc := rfl
theorem app1 {h : HS} {acc : List D} {d : D} (hz : acc.length < 1000000) : appendF (.obj 1) [d] [gH h, .lst acc] = some (.non, [gH h, .lst (acc ++ [d])]) := append_app1 (G := [gH h]) hz
theorem pw9 {G : Gs} : powD (.int 10) (.int 9) G = some (.int 1000000000) := by
  show (if 0 ≤ (9 : Int) ∧ (9 : Int) ≤ 1000000 ∧ (10 : Int).natAbs < 2 ^ 64 then some (D.int ((10 : Int) ^ (9 : Int).toNat)) else none) = _
  rw [if_pos ⟨by omega, by omega, by show 10 < 2 ^ 64; omega⟩]
  rfl
theorem good1 {w : Str} {i : Int} (hw : inW w = true) (hj : ¬ w = "join") (h0 : 0 ≤ i) (h1 : i < 1000000000) : good (.tup [.str w, .int i]) = true := by
  simp [good, deedB, small, nn, smI, hj, hw, h0, h1]
theorem good2 {i j : Int} (h0 : 0 ≤ i) (h1 : i < 1000000000) (h2 : 0 ≤ j) (h3 : j < 1000000000) (hn : i ≠ j) : good (.tup [.str "join", .int i, .int j]) = true := by
  simp [good, deedB, small, nn, smI, neI, h0, h1, h2, h3, hn]
theorem w_rundrawn {h : HS} (H : Hd h) : wR (f__law_run_drawn [.obj 0, .int 12] [gH h]) X (fun d G' => ∃ ds, d = .tup ds ∧ (∀ x ∈ ds, good x = true) ∧ ds.length ≤ 12 ∧ ∃ h', Hd h' ∧ G' = [gH h']) := by
  unfold f__law_run_drawn
  refine wR_trim ?_
  unfold b__law_run_drawn
  simp only [wR_bnd, wR_ret, wR_rd, wR_lo, wR_lof, wR_chk, wR_ite, wR_call, wR_runF, wR_newL, wR_chn, wS_seq, wS_bnd, wS_nxt, wS_ret, wS_set, wS_brk, wS_cnt, wS_rz0, wS_rz, wS_ite, wS_setIx, wS_try, wS_end, wR_ok, startD, wipeD, List.map_cons, List.map_nil, List.length_cons, List.length_nil, List.replicate, List.cons_append, List.nil_append, List.getElem?_cons_zero, List.getElem?_cons_succ, List.set_cons_zero, List.set_cons_succ, Option.some.injEq, exists_eq_left', Nat.reduceAdd, Nat.reduceSub, Nat.reduceLeDiff, D.int.injEq, D.bl.injEq, addD_i, subD_i, mulD_i, fdivD_i, modD_i, ltD_i, leD_i, gtD_i, geD_i, tb_b, toI_i, intF_i, intF2_i, absF_i, ixD_o, ixD_tl, ixD_tup, ixD_fz, lenF_o, lenF_tl, lenF_tup, lenF_fz, objL_o, tyOk_o, lstO_0, lstO_s, negD_i, eqD2_i, neD2_i, eqD2_s, neD2_s, eqD2_b, neD2_b, Option.bind_some, Option.map_some, Option.isSome_some, Prod.mk.injEq, and_assoc, exists_and_left, decide_eq_true_eq, Option.ite_none_right_eq_some, true_and, and_true]
  refine ⟨sz 0 (by decide), ?_⟩
  refine wR_imp (w_draw (r := [.lst []]) (many := 12 + 1) H (by omega) (log9 (by omega) (by omega))) (fun _ _ z => z) fun d G1 ⟨v, h1, e, a, b, H1, eG⟩ => ?_
  subst e eG
  simp only [startD, wipeD, List.map_cons, List.map_nil, List.length_cons, List.length_nil, List.replicate, List.cons_append, List.nil_append, List.getElem?_cons_zero, List.getElem?_cons_succ, List.set_cons_zero, List.set_cons_succ, Option.some.injEq, exists_eq_left', Nat.reduceAdd, Nat.reduceSub, Nat.reduceLeDiff, D.int.injEq, D.bl.injEq, addD_i, subD_i, mulD_i, fdivD_i, modD_i, ltD_i, leD_i, gtD_i, geD_i, tb_b, toI_i, intF_i, intF2_i, absF_i, ixD_o, ixD_tl, ixD_tup, ixD_fz, lenF_o, lenF_tl, lenF_tup, lenF_fz, objL_o, tyOk_o, lstO_0, lstO_s, negD_i, eqD2_i, neD2_i, eqD2_s, neD2_s, eqD2_b, neD2_b, Option.bind_some, Option.map_some, Option.isSome_some, Prod.mk.injEq, and_assoc, exists_and_left, decide_eq_true_eq, Option.ite_none_right_eq_some, true_and, and_true, rng1 (show -(2 ^ 62) ≤ v by omega) (show v < 2 ^ 62 by omega)]
  have mt : ∀ G (a b : D), mkT [a, b] G = some (.tup [a, b]) := fun G a b => mkT_c (by simp)
  have mt3 : ∀ G (a b c : D), mkT [a, b, c] G = some (.tup [a, b, c]) := fun G a b c => mkT_c (by simp)
  have ml2 : ∀ G (a b : D), mkL [a, b] G = some (.tl [a, b]) := fun G a b => mkL_c (by simp)
  have ml3 : ∀ G (a b c : D), mkL [a, b, c] G = some (.tl [a, b, c]) := fun G a b c => mkL_c (by simp)
  have ml4 : ∀ G (a b c d : D), mkL [a, b, c, d] G = some (.tl [a, b, c, d]) := fun G a b c d => mkL_c (by simp)
  refine wS_for (its := (List.range v.toNat).map fun (i : Nat) => D.int (0 + (i : Int))) (fun q l G' => ∃ h' acc a3 a4 a5 a6 a7, Hd h' ∧ G' = [gH h', .lst acc] ∧ l = [some (.obj 0), some (.int 12), some (.obj 1), a3, a4, a5, a6, a7] ∧ (∀ x ∈ acc, good x = true) ∧ acc.length + q.length = v.toNat) rfl ⟨h1, [], _, _, _, _, _, H1, rfl, rfl, fun x hx => (by cases hx), by simp⟩ (fun _ _ _ _ => rfl) ?_ ?_
  · rintro x q l G' ⟨h', acc, a3, a4, a5, a6, a7, H', rfl, rfl, hg, hl⟩
    simp only [wS_nm, List.set_cons_zero, List.set_cons_succ, wR_bnd, wR_ret, wR_rd, wR_lo, wR_lof, wR_chk, wR_ite, wR_call, wR_runF, wR_newL, wR_chn, wS_seq, wS_bnd, wS_nxt, wS_ret, wS_set, wS_brk, wS_cnt, wS_rz0, wS_rz, wS_ite, wS_setIx, wS_try, wS_end, wR_ok, startD, wipeD, List.map_cons, List.map_nil, List.length_cons, List.length_nil, List.replicate, List.cons_append, List.nil_append, List.getElem?_cons_zero, List.getElem?_cons_succ, List.set_cons_zero, List.set_cons_succ, Option.some.injEq, exists_eq_left', Nat.reduceAdd, Nat.reduceSub, Nat.reduceLeDiff, D.int.injEq, D.bl.injEq, addD_i, subD_i, mulD_i, fdivD_i, modD_i, ltD_i, leD_i, gtD_i, geD_i, tb_b, toI_i, intF_i, intF2_i, absF_i, ixD_o, ixD_tl, ixD_tup, ixD_fz, lenF_o, lenF_tl, lenF_tup, lenF_fz, objL_o, tyOk_o, lstO_0, lstO_s, negD_i, eqD2_i, neD2_i, eqD2_s, neD2_s, eqD2_b, neD2_b, Option.bind_some, Option.map_some, Option.isSome_some, Prod.mk.injEq, and_assoc, exists_and_left, decide_eq_true_eq, Option.ite_none_right_eq_some, true_and, and_true, pw9, ml3]
    refine wR_imp (w_some H' (by simp) (by simp)) (fun _ _ z => z) fun d G2 ⟨hm, h2, H2, eG⟩ => ?_
    subst eG
    have hmany : ∃ m : Int, d = .int m ∧ 0 < m ∧ m ≤ 1000000000 - 4 := by
      simp only [List.mem_cons, List.not_mem_nil, or_false] at hm
      rcases hm with rfl | rfl | rfl
      · exact ⟨3, rfl, by omega, by omega⟩
      · exact ⟨12, rfl, by omega, by omega⟩
      · exact ⟨_, rfl, by omega, by omega⟩
    obtain ⟨m, rfl, m0, m1⟩ := hmany
    refine wR_imp (w_draw H2 m0 (log9 m0 (by omega))) (fun _ _ z => z) fun d G3 ⟨one, h3, e, o0, o1, H3, eG⟩ => ?_
    subst e eG
    simp only [wR_bnd, wR_ret, wR_rd, wR_lo, wR_lof, wR_chk, wR_ite, wR_call, wR_runF, wR_newL, wR_chn, wS_seq, wS_bnd, wS_nxt, wS_ret, wS_set, wS_brk, wS_cnt, wS_rz0, wS_rz, wS_ite, wS_setIx, wS_try, wS_end, wR_ok, startD, wipeD, List.map_cons, List.map_nil, List.length_cons, List.length_nil, List.replicate, List.cons_append, List.nil_append, List.getElem?_cons_zero, List.getElem?_cons_succ, List.set_cons_zero, List.set_cons_succ, Option.some.injEq, exists_eq_left', Nat.reduceAdd, Nat.reduceSub, Nat.reduceLeDiff, D.int.injEq, D.bl.injEq, addD_i, subD_i, mulD_i, fdivD_i, modD_i, ltD_i, leD_i, gtD_i, geD_i, tb_b, toI_i, intF_i, intF2_i, absF_i, ixD_o, ixD_tl, ixD_tup, ixD_fz, lenF_o, lenF_tl, lenF_tup, lenF_fz, objL_o, tyOk_o, lstO_0, lstO_s, negD_i, eqD2_i, neD2_i, eqD2_s, neD2_s, eqD2_b, neD2_b, Option.bind_some, Option.map_some, Option.isSome_some, Prod.mk.injEq, and_assoc, exists_and_left, decide_eq_true_eq, Option.ite_none_right_eq_some, true_and, and_true]
    refine wR_imp (w_draw H3 (many := 3) (by omega) (log9 (by omega) (by omega))) (fun _ _ z => z) fun d G4 ⟨v3, h4, e, p0, p1, H4, eG⟩ => ?_
    subst e eG
    simp only [wR_bnd, wR_ret, wR_rd, wR_lo, wR_lof, wR_chk, wR_ite, wR_call, wR_runF, wR_newL, wR_chn, wS_seq, wS_bnd, wS_nxt, wS_ret, wS_set, wS_brk, wS_cnt, wS_rz0, wS_rz, wS_ite, wS_setIx, wS_try, wS_end, wR_ok, startD, wipeD, List.map_cons, List.map_nil, List.length_cons, List.length_nil, List.replicate, List.cons_append, List.nil_append, List.getElem?_cons_zero, List.getElem?_cons_succ, List.set_cons_zero, List.set_cons_succ, Option.some.injEq, exists_eq_left', Nat.reduceAdd, Nat.reduceSub, Nat.reduceLeDiff, D.int.injEq, D.bl.injEq, addD_i, subD_i, mulD_i, fdivD_i, modD_i, ltD_i, leD_i, gtD_i, geD_i, tb_b, toI_i, intF_i, intF2_i, absF_i, ixD_o, ixD_tl, ixD_tup, ixD_fz, lenF_o, lenF_tl, lenF_tup, lenF_fz, objL_o, tyOk_o, lstO_0, lstO_s, negD_i, eqD2_i, neD2_i, eqD2_s, neD2_s, eqD2_b, neD2_b, Option.bind_some, Option.map_some, Option.isSome_some, Prod.mk.injEq, and_assoc, exists_and_left, decide_eq_true_eq, Option.ite_none_right_eq_some, true_and, and_true, mt, ml2]
    refine wR_imp (w_some H4 (by simp) (by simp)) (fun _ _ z => z) fun d G5 ⟨hm, h5, H5, eG⟩ => ?_
    subst eG
    have hp : ∃ x y : Int, d = .tup [.int x, .int y] ∧ 0 ≤ x ∧ x < 1000000000 ∧ 0 ≤ y ∧ y < 1000000000 ∧ x ≠ y := by
      simp only [List.mem_cons, List.not_mem_nil, or_false] at hm
      rcases hm with rfl | rfl
      · exact ⟨_, _, rfl, by omega, by omega, by omega, by omega, by omega⟩
      · exact ⟨_, _, rfl, by omega, by omega, by omega, by omega, by omega⟩
    obtain ⟨x', y', rfl, x0, x1, y0, y1, hne⟩ := hp
    have ia : ∀ a b : D, atI [a, b] 0 = some a := fun _ _ => rfl
    have ib : ∀ a b : D, atI [a, b] 1 = some b := fun _ _ => rfl
    simp only [wR_bnd, wR_ret, wR_rd, wR_lo, wR_lof, wR_chk, wR_ite, wR_call, wR_runF, wR_newL, wR_chn, wS_seq, wS_bnd, wS_nxt, wS_ret, wS_set, wS_brk, wS_cnt, wS_rz0, wS_rz, wS_ite, wS_setIx, wS_try, wS_end, wR_ok, startD, wipeD, List.map_cons, List.map_nil, List.length_cons, List.length_nil, List.replicate, List.cons_append, List.nil_append, List.getElem?_cons_zero, List.getElem?_cons_succ, List.set_cons_zero, List.set_cons_succ, Option.some.injEq, exists_eq_left', Nat.reduceAdd, Nat.reduceSub, Nat.reduceLeDiff, D.int.injEq, D.bl.injEq, addD_i, subD_i, mulD_i, fdivD_i, modD_i, ltD_i, leD_i, gtD_i, geD_i, tb_b, toI_i, intF_i, intF2_i, absF_i, ixD_o, ixD_tl, ixD_tup, ixD_fz, lenF_o, lenF_tl, lenF_tup, lenF_fz, objL_o, tyOk_o, lstO_0, lstO_s, negD_i, eqD2_i, neD2_i, eqD2_s, neD2_s, eqD2_b, neD2_b, Option.bind_some, Option.map_some, Option.isSome_some, Prod.mk.injEq, and_assoc, exists_and_left, decide_eq_true_eq, Option.ite_none_right_eq_some, true_and, and_true, mt, mt3, ia, ib, ml4, l1]
    refine wR_imp (w_some H5 (by simp) (by simp)) (fun _ _ z => z) fun d G6 ⟨hm, h6, H6, eG⟩ => ?_
    subst eG
    have hd : good d = true := by
      simp only [List.mem_cons, List.not_mem_nil, or_false] at hm
      rcases hm with rfl | rfl | rfl | rfl
      · exact good1 (by decide) (by decide) o0 (by omega)
      · exact good1 (by decide) (by decide) o0 (by omega)
      · exact good1 (by decide) (by decide) o0 (by omega)
      · exact good2 x0 x1 y0 y1 hne
    have hv : v.toNat ≤ 12 := by omega
    refine ⟨_, app1 (by omega), h6, H6, acc ++ [d], rfl, _, _, _, _, _, rfl, fun z hz => ?_, by simp only [List.length_append, List.length_cons, List.length_nil] at hl ⊢; omega⟩
    rcases List.mem_append.mp hz with hz | hz
    · exact hg z hz
    · rw [List.mem_singleton.mp hz]; exact hd
  · rintro l G' ⟨h', acc, a3, a4, a5, a6, a7, H', rfl, rfl, hg, hl⟩
    simp only [wR_bnd, wR_ret, wR_rd, wR_lo, wR_lof, wR_chk, wR_ite, wR_call, wR_runF, wR_newL, wR_chn, wS_seq, wS_bnd, wS_nxt, wS_ret, wS_set, wS_brk, wS_cnt, wS_rz0, wS_rz, wS_ite, wS_setIx, wS_try, wS_end, wR_ok, startD, wipeD, List.map_cons, List.map_nil, List.length_cons, List.length_nil, List.replicate, List.cons_append, List.nil_append, List.getElem?_cons_zero, List.getElem?_cons_succ, List.set_cons_zero, List.set_cons_succ, Option.some.injEq, exists_eq_left', Nat.reduceAdd, Nat.reduceSub, Nat.reduceLeDiff, D.int.injEq, D.bl.injEq, addD_i, subD_i, mulD_i, fdivD_i, modD_i, ltD_i, leD_i, gtD_i, geD_i, tb_b, toI_i, intF_i, intF2_i, absF_i, ixD_o, ixD_tl, ixD_tup, ixD_fz, lenF_o, lenF_tl, lenF_tup, lenF_fz, objL_o, tyOk_o, lstO_0, lstO_s, negD_i, eqD2_i, neD2_i, eqD2_s, neD2_s, eqD2_b, neD2_b, Option.bind_some, Option.map_some, Option.isSome_some, Prod.mk.injEq, and_assoc, exists_and_left, decide_eq_true_eq, Option.ite_none_right_eq_some, true_and, and_true, tupF_o, l1]
    have hv : v.toNat ≤ 12 := by omega
    refine ⟨bel_H, ?_, acc, rfl, hg, by simp at hl; omega, h', H', rfl⟩
    show noOs acc = true
    rw [noOs_iff]
    exact fun z hz => pd_noO (good_pd (k := 100) (hg z hz) (by omega))
end

end K53
end M3
end L2

set_option Elab.async false
set_option linter.all false
set_option maxRecDepth 100000
set_option maxHeartbeats 2000000
namespace L2
namespace M3
namespace K53
open PySem PySem.Spec PyProof.Rows
section
variable {k : Nat} {d : D} {G : Gs} {X : Exc → Gs → Prop}
theorem slS {z : Str} {lo hi : Option Int} (h : z.length ≤ 1000000) : slD (.str z) lo hi G = some (.str (cutS z lo hi)) := by
  show (if z.length ≤ sizeLine then some (D.str (cutS z lo hi)) else none) = _
  rw [if_pos (sz _ h)]
theorem len_app {a b : Str} : (a ++ b).length = a.length + b.length := by
  rw [TL.len_tl, TL.tl_append, List.length_append, ← TL.len_tl, ← TL.len_tl]
/-- the parts' lengths -/
def wt (ps : List Str) : Nat := (ps.map fun (x : Str) => x.length).sum + ps.length
theorem wt_app {a b : List Str} : wt (a ++ b) = wt a + wt b := by
  unfold wt
  simp only [List.map_append, List.sum_append, List.length_append]
  omega
theorem spl_sum (S : List Nat) : ∀ (k : Nat) (l acc : List Nat), ((TL.spl S k acc l).map List.length).sum ≤ acc.length + l.length
  | k, [], acc => by rw [TL.spl_nil]; simp
  | 0, c :: r, acc => by
    show ((if TL.pre S (c :: r) = true then acc :: TL.spl S (S.length - 1) [] r else TL.spl S 0 (acc ++ [c]) r).map List.length).sum ≤ _
    split
    · have := spl_sum S (S.length - 1) r []
      simp only [List.map_cons, List.sum_cons, List.length_nil, List.length_cons] at this ⊢
      omega
    · have := spl_sum S 0 r (acc ++ [c])
      simp only [List.length_append, List.length_cons, List.length_nil] at this ⊢
      omega
  | k + 1, c :: r, acc => by
    have := spl_sum S k r acc
    simp only [List.length_cons]
    show ((TL.spl S k acc r).map List.length).sum ≤ _
    omega
theorem split_wt {t : Str} : wt (Txt.split t "\n") ≤ 2 * t.length + 2 := by
  unfold wt
  have h1 := spl_sum [10] 0 (TL.tl t) []
  rw [← sep_nl.spl, List.map_map] at h1
  have h2 := PyProof.Rows.split_le t "\n"
  have h3 : (Txt.split t "\n").map (List.length ∘ TL.tl) = (Txt.split t "\n").map fun (x : Str) => x.length := List.map_congr_left fun x _ => (TL.len_tl x).symm
  rw [h3, ← TL.len_tl] at h1
  simp only [List.length_nil] at h1
  omega
theorem join_wt {ps : List Str} (h : wt ps ≤ 100000) : joinF (.str "\n") [.tl (ps.map D.str)] G = some (.str (Txt.join "\n" ps), G) := by
  refine join_l ?_
  rw [len_nl]
  unfold wt at h
  omega
theorem join_len {ps : List Str} : (Txt.join "\n" ps).length ≤ wt ps := by
  rw [TL.join_eq]
  have := StrLaws.join_length_le "\n" ps
  rw [len_nl] at this
  unfold wt
  omega
theorem wt_take {ps : List Str} (n : Nat) : wt (ps.take n) + wt (ps.drop n) = wt ps := by
  rw [← wt_app, List.take_append_drop]
theorem cut_map {ps : List Str} {lo hi : Option Int} : ∃ qs, cutD (ps.map D.str) lo hi = qs.map D.str ∧ wt qs ≤ wt ps := by
  unfold cutD
  refine ⟨(ps.drop (HT.sIx ps.length 0 lo)).take (HT.sIx ps.length ps.length hi - HT.sIx ps.length 0 lo), ?_, ?_⟩
  · rw [List.length_map, List.map_take, List.map_drop]
  · have h1 := wt_take (ps := ps) (HT.sIx ps.length 0 lo)
    have h2 := wt_take (ps := ps.drop (HT.sIx ps.length 0 lo)) (HT.sIx ps.length ps.length hi - HT.sIx ps.length 0 lo)
    omega
theorem inj_map {a b : List Str} (h : a.map D.str = b.map D.str) : a = b := by
  induction a generalizing b with
  | nil => cases b <;> first | rfl | (simp at h)
  | cons x r ih =>
    cases b with
    | nil => simp at h
    | cons y s =>
      simp only [List.map_cons, List.cons.injEq, D.str.injEq] at h
      rw [h.1, ih h.2]
theorem cut_left {L q : List Str} {u : Int} (h : cutD (L.map D.str) none (some u) = q.map D.str) (h0 : 0 ≤ u) : q = L.take u.toNat := by
  rw [cut_l' h0, ← List.map_take] at h
  exact (inj_map h).symm
theorem cut_right {L q : List Str} {u : Int} (h : cutD (L.map D.str) (some u) none = q.map D.str) (h0 : 0 ≤ u) : q = L.drop u.toNat := by
  rw [cut_r h0, ← List.map_drop] at h
  exact (inj_map h).symm
theorem cut_two {L q1 q2 : List Str} {u : Int} (h1 : cutD (L.map D.str) none (some u) = q1.map D.str) (h2 : cutD (L.map D.str) (some (u + 1)) none = q2.map D.str) (h0 : 0 ≤ u) (hu : u < L.length) : wt (q1 ++ q2) ≤ wt L := by
  rw [cut_left h1 h0, cut_right h2 (by omega), wt_app]
  have e1 := wt_take (ps := L) u.toNat
  have e2 := wt_take (ps := L.drop u.toNat) 1
  rw [List.drop_drop] at e2
  have e3 : (u + 1).toNat = u.toNat + 1 := by omega
  rw [e3]
  omega
theorem cut_three {L q1 q3 q4 : List Str} {u : Int} (h1 : cutD (L.map D.str) none (some u) = q1.map D.str) (h3 : cutD (L.map D.str) (some u) (some (u + 1)) = q3.map D.str) (h4 : cutD (L.map D.str) (some u) none = q4.map D.str) (h0 : 0 ≤ u) (hu : u < L.length) : wt (q1 ++ q3 ++ q4) ≤ wt L + wt q3 := by
  rw [cut_left h1 h0, cut_right h4 h0, wt_app, wt_app]
  have e1 := wt_take (ps := L) u.toNat
  omega
theorem cut_one {L q : List Str} {u : Int} {m : Nat} (h : cutD (L.map D.str) (some u) (some (u + 1)) = q.map D.str) (h0 : 0 ≤ u) (hp : ∀ p ∈ L, p.length ≤ m) : wt q ≤ m + 1 := by
  have hq : q.length ≤ 1 := by
    have e := congrArg List.length h
    unfold cutD HT.sIx at e
    simp only [List.length_map, List.length_take, List.length_drop] at e
    rw [if_neg (by omega), if_neg (by omega)] at e
    omega
  have hm : ∀ p ∈ q, p.length ≤ m := fun p hpq => by
    have h1 : D.str p ∈ q.map D.str := List.mem_map.mpr ⟨p, hpq, rfl⟩
    rw [← h] at h1
    unfold cutD at h1
    obtain ⟨p', h2, h3⟩ := List.mem_map.mp (List.mem_of_mem_drop (List.mem_of_mem_take h1))
    cases h3
    exact hp _ h2
  have := sum_le hm
  unfold wt
  match q, hq with
  | [], _ => simp
  | [p], _ => have := hm p (by simp); simp; omega
theorem wt_rev {ps : List Str} : wt ps.reverse = wt ps := by
  unfold wt
  rw [List.map_reverse, List.sum_reverse, List.length_reverse]
/-- a text no longer than m -/
def shB (m : Nat) : D → Prop
  | .str z => z.length ≤ m
  | _ => False
theorem rev_l {ps : List Str} : revD (.tl (ps.map D.str)) G = some (.tl (ps.reverse.map D.str)) := by
  show some (D.tl (ps.map D.str).reverse) = _
  rw [List.map_reverse]
theorem mul2 {G : Gs} {a b c : D} : mulLN (.tl [a, b, c]) (.int 2) G = some (.obj G.length, G ++ [.lst [a, b, c, a, b, c]]) := by
  show (if -(2 ^ 63) ≤ (2 : Int) ∧ (2 : Int) < 2 ^ 63 ∧ 3 * (2 : Int).toNat ≤ sizeLine then newO (List.replicate (2 : Int).toNat [a, b, c]).flatten G else none) = _
  rw [if_pos ⟨by omega, by omega, sz _ (by decide)⟩]
  rfl
theorem add_ol {h : HS} {a b : List D} (hz : a.length + b.length ≤ 1000000) : addD (.obj 1) (.tl b) [gH h, .lst a] = some (.tl (a ++ b)) := by
  show (if a.length + b.length ≤ sizeLine then some (D.tl (a ++ b)) else none) = _
  rw [if_pos (sz _ hz)]
theorem w_bent {h : HS} {t : Str} (H : Hd h) (ht : t.length ≤ 2000) : wR (f__law_bent [.obj 0, .str t] [gH h]) X (fun d G' => ∃ t', d = .str t' ∧ t'.length ≤ 3 * t.length + 10 ∧ ∃ h', Hd h' ∧ G' = [gH h']) := by
  unfold f__law_bent
  refine wR_trim ?_
  unfold b__law_bent
  have hl : ∀ G, lenF [.str t] G = some (.int t.length) := fun G => lenF_str (by omega)
  simp (config := { maxSteps := 10000000 }) only [wR_bnd, wR_ret, wR_rd, wR_lo, wR_lof, wR_chk, wR_ite, wR_call, wR_runF, wR_newL, wR_chn, wS_seq, wS_bnd, wS_nxt, wS_ret, wS_set, wS_brk, wS_cnt, wS_rz0, wS_rz, wS_ite, wS_setIx, wS_try, wS_end, wR_ok, startD, wipeD, List.map_cons, List.map_nil, List.length_cons, List.length_nil, List.replicate, List.cons_append, List.nil_append, List.getElem?_cons_zero, List.getElem?_cons_succ, List.set_cons_zero, List.set_cons_succ, Option.some.injEq, exists_eq_left', Nat.reduceAdd, Nat.reduceSub, Nat.reduceLeDiff, D.int.injEq, D.bl.injEq, addD_i, subD_i, mulD_i, fdivD_i, modD_i, ltD_i, leD_i, gtD_i, geD_i, tb_b, toI_i, intF_i, intF2_i, absF_i, ixD_o, ixD_tl, ixD_tup, ixD_fz, lenF_o, lenF_tl, lenF_tup, lenF_fz, objL_o, tyOk_o, lstO_0, lstO_s, negD_i, eqD2_i, neD2_i, eqD2_s, neD2_s, eqD2_b, neD2_b, Option.bind_some, Option.map_some, Option.isSome_some, Prod.mk.injEq, and_assoc, exists_and_left, decide_eq_true_eq, Option.ite_none_right_eq_some, true_and, and_true, hl]
  refine wR_imp (w_draw H (by omega) (log9 (by omega) (by omega))) (fun _ _ z => z) fun d G1 ⟨v, h1, e, a, b, H1, eG⟩ => ?_
  subst e eG
  have ml10 : ∀ G (a b c d e f g h i j : D), mkL [a, b, c, d, e, f, g, h, i, j] G = some (.tl [a, b, c, d, e, f, g, h, i, j]) := fun G a b c d e f g h i j => mkL_c (by simp)
  have ml3 : ∀ G (a b c : D), mkL [a, b, c] G = some (.tl [a, b, c]) := fun G a b c => mkL_c (by simp)
  have ml4 : ∀ G (a b c d : D), mkL [a, b, c, d] G = some (.tl [a, b, c, d]) := fun G a b c d => mkL_c (by simp)
  simp (config := { maxSteps := 10000000 }) only [wR_bnd, wR_ret, wR_rd, wR_lo, wR_lof, wR_chk, wR_ite, wR_call, wR_runF, wR_newL, wR_chn, wS_seq, wS_bnd, wS_nxt, wS_ret, wS_set, wS_brk, wS_cnt, wS_rz0, wS_rz, wS_ite, wS_setIx, wS_try, wS_end, wR_ok, startD, wipeD, List.map_cons, List.map_nil, List.length_cons, List.length_nil, List.replicate, List.cons_append, List.nil_append, List.getElem?_cons_zero, List.getElem?_cons_succ, List.set_cons_zero, List.set_cons_succ, Option.some.injEq, exists_eq_left', Nat.reduceAdd, Nat.reduceSub, Nat.reduceLeDiff, D.int.injEq, D.bl.injEq, addD_i, subD_i, mulD_i, fdivD_i, modD_i, ltD_i, leD_i, gtD_i, geD_i, tb_b, toI_i, intF_i, intF2_i, absF_i, ixD_o, ixD_tl, ixD_tup, ixD_fz, lenF_o, lenF_tl, lenF_tup, lenF_fz, objL_o, tyOk_o, lstO_0, lstO_s, negD_i, eqD2_i, neD2_i, eqD2_s, neD2_s, eqD2_b, neD2_b, Option.bind_some, Option.map_some, Option.isSome_some, Prod.mk.injEq, and_assoc, exists_and_left, decide_eq_true_eq, Option.ite_none_right_eq_some, true_and, and_true, ml10]
  refine wR_imp (w_some H1 (by simp) (by simp)) (fun _ _ z => z) fun d G2 ⟨hm, h2, H2, eG⟩ => ?_
  subst eG
  have hsg : ∃ sg : Str, d = .str sg ∧ sg.length ≤ 8 := by
    simp only [List.mem_cons, List.not_mem_nil, or_false] at hm
    rcases hm with rfl | rfl | rfl | rfl | rfl | rfl | rfl | rfl | rfl | rfl <;> exact ⟨_, rfl, by decide⟩
  obtain ⟨sg, rfl, hsg⟩ := hsg
  have hsp : ∀ G, splitF (.str t) [.str "\n"] G = some (.tl ((Txt.split t "\n").map D.str), G) := fun G => sep_nl.split (by omega)
  have hw := split_wt (t := t)
  have hne : 0 < (Txt.split t "\n").length := List.length_pos_iff.mpr sep_nl.ne
  have hcnt := PyProof.Rows.split_le t "\n"
  have hpt : ∀ p ∈ Txt.split t "\n", p.length ≤ t.length := fun p hp => sep_nl.part hp
  generalize Txt.split t "\n" = L at hsp hw hne hcnt hpt
  simp (config := { maxSteps := 10000000 }) only [wR_bnd, wR_ret, wR_rd, wR_lo, wR_lof, wR_chk, wR_ite, wR_call, wR_runF, wR_newL, wR_chn, wS_seq, wS_bnd, wS_nxt, wS_ret, wS_set, wS_brk, wS_cnt, wS_rz0, wS_rz, wS_ite, wS_setIx, wS_try, wS_end, wR_ok, startD, wipeD, List.map_cons, List.map_nil, List.length_cons, List.length_nil, List.replicate, List.cons_append, List.nil_append, List.getElem?_cons_zero, List.getElem?_cons_succ, List.set_cons_zero, List.set_cons_succ, Option.some.injEq, exists_eq_left', Nat.reduceAdd, Nat.reduceSub, Nat.reduceLeDiff, D.int.injEq, D.bl.injEq, addD_i, subD_i, mulD_i, fdivD_i, modD_i, ltD_i, leD_i, gtD_i, geD_i, tb_b, toI_i, intF_i, intF2_i, absF_i, ixD_o, ixD_tl, ixD_tup, ixD_fz, lenF_o, lenF_tl, lenF_tup, lenF_fz, objL_o, tyOk_o, lstO_0, lstO_s, negD_i, eqD2_i, neD2_i, eqD2_s, neD2_s, eqD2_b, neD2_b, Option.bind_some, Option.map_some, Option.isSome_some, Prod.mk.injEq, and_assoc, exists_and_left, decide_eq_true_eq, Option.ite_none_right_eq_some, true_and, and_true, tyOk_s, hsp, List.length_map]
  refine wR_imp (w_draw H2 (by omega) (log9 (by omega) (by omega))) (fun _ _ z => z) fun d G3 ⟨u, h3, e, a3, b3, H3, eG⟩ => ?_
  subst e eG
  obtain ⟨c1, hc1⟩ : ∃ c, cutS t none (some v) = c := ⟨_, rfl⟩
  obtain ⟨c2, hc2⟩ : ∃ c, cutS t (some v) none = c := ⟨_, rfl⟩
  obtain ⟨c3, hc3⟩ : ∃ c, cutS t (some (v + 1)) none = c := ⟨_, rfl⟩
  have n1 : c1.length ≤ t.length := by rw [← hc1]; exact cutS_length _ _ _
  have n2 : c2.length ≤ t.length := by rw [← hc2]; exact cutS_length _ _ _
  have n3 : c3.length ≤ t.length := by rw [← hc3]; exact cutS_length _ _ _
  have s1 : ∀ G, slD (.str t) none (some v) G = some (.str c1) := fun G => by rw [slS (by omega), hc1]
  have s2 : ∀ G, slD (.str t) (some v) none G = some (.str c2) := fun G => by rw [slS (by omega), hc2]
  have s3 : ∀ G, slD (.str t) (some (v + 1)) none G = some (.str c3) := fun G => by rw [slS (by omega), hc3]
  have ad : ∀ {a b : Str}, a.length ≤ 10000 → b.length ≤ 10000 → ∀ G, addD (.str a) (.str b) G = some (.str (a ++ b)) := fun h1 h2 G => addD_ss (by omega)
  obtain ⟨q1, e1, w1⟩ := cut_map (ps := L) (lo := none) (hi := some u)
  obtain ⟨q2, e2, w2⟩ := cut_map (ps := L) (lo := some (u + 1)) (hi := none)
  obtain ⟨q3, e3, w3⟩ := cut_map (ps := L) (lo := some u) (hi := some (u + 1))
  obtain ⟨q4, e4, w4⟩ := cut_map (ps := L) (lo := some u) (hi := none)
  have sl : ∀ lo hi G, slD (.tl (L.map D.str)) lo hi G = some (.tl (cutD (L.map D.str) lo hi)) := fun lo hi G => rfl
  have la1 : (c1 ++ sg).length ≤ 10000 := by rw [len_app]; omega
  have g1 : ∀ (h : HS) x, lstO [gH h, .lst x] 1 = some x := fun _ _ => rfl
  have ln : ∀ h : HS, [gH h].length = 1 := fun _ => rfl
  simp (config := { maxSteps := 10000000 }) only [wR_bnd, wR_ret, wR_rd, wR_lo, wR_lof, wR_chk, wR_ite, wR_call, wR_runF, wR_newL, wR_chn, wS_seq, wS_bnd, wS_nxt, wS_ret, wS_set, wS_brk, wS_cnt, wS_rz0, wS_rz, wS_ite, wS_setIx, wS_try, wS_end, wR_ok, startD, wipeD, List.map_cons, List.map_nil, List.length_cons, List.length_nil, List.replicate, List.cons_append, List.nil_append, List.getElem?_cons_zero, List.getElem?_cons_succ, List.set_cons_zero, List.set_cons_succ, Option.some.injEq, exists_eq_left', Nat.reduceAdd, Nat.reduceSub, Nat.reduceLeDiff, D.int.injEq, D.bl.injEq, addD_i, subD_i, mulD_i, fdivD_i, modD_i, ltD_i, leD_i, gtD_i, geD_i, tb_b, toI_i, intF_i, intF2_i, absF_i, ixD_o, ixD_tl, ixD_tup, ixD_fz, lenF_o, lenF_tl, lenF_tup, lenF_fz, objL_o, tyOk_o, lstO_0, lstO_s, negD_i, eqD2_i, neD2_i, eqD2_s, neD2_s, eqD2_b, neD2_b, Option.bind_some, Option.map_some, Option.isSome_some, Prod.mk.injEq, and_assoc, exists_and_left, decide_eq_true_eq, Option.ite_none_right_eq_some, true_and, and_true, s1, s2, s3, ad (show c1.length ≤ 10000 by omega) (show sg.length ≤ 10000 by omega), ad la1 (show c2.length ≤ 10000 by omega), ad la1 (show c3.length ≤ 10000 by omega), ad (show c1.length ≤ 10000 by omega) (show c3.length ≤ 10000 by omega), ml3, mul2, tyOk_s, sl, e1, e2, e3, e4, g1]
  have adl : ∀ {a b : List Str} (G : Gs), wt a ≤ 100000 → wt b ≤ 100000 → addD (.tl (a.map D.str)) (.tl (b.map D.str)) G = some (.tl ((a ++ b).map D.str)) := fun {a b} G h1 h2 => by
    unfold wt at h1 h2
    rw [addD_ll (by simp only [List.length_map]; omega), List.map_append]
  have wL : wt L ≤ 4002 := by omega
  have wa : wt (q1 ++ q2) ≤ 3 * t.length + 10 := by
    have h1 := cut_two (L := L) e1 e2 a3 b3
    omega
  have wb : wt ((q1 ++ q3) ++ q4) ≤ 3 * t.length + 10 := by
    have h1 := cut_three (L := L) e1 e3 e4 a3 b3
    have h2 := cut_one (L := L) e3 a3 hpt
    omega
  generalize hA : [D.str (c1 ++ sg ++ c2), D.str (c1 ++ c3), D.str (c1 ++ sg ++ c3), D.str (c1 ++ sg ++ c2), D.str (c1 ++ c3), D.str (c1 ++ sg ++ c3)] = A
  have lA : A.length = 6 := by rw [← hA]; rfl
  refine ⟨_, adl _ (by omega) (by omega), _, join_wt (by omega), ?_⟩
  dsimp only
  refine ⟨_, app1 (by omega), rfl, _, adl _ (by omega) (by omega), _, adl _ (by rw [wt_app]; omega) (by omega), _, join_wt (by omega), ?_⟩
  dsimp only
  refine ⟨_, app1 (by simp only [List.length_append, List.length_cons, List.length_nil]; omega), ?_⟩
  dsimp only
  refine ⟨_, ad (by omega) (by omega) _, _, rev_l, _, join_wt (by rw [wt_rev]; omega), ?_⟩
  dsimp only
  refine ⟨_, ad (by omega) (by decide) _, _, ml4 _ _ _ _ _, _, add_ol (by simp only [List.length_append, List.length_cons, List.length_nil]; omega), ?_⟩
  refine wR_imp (w_some H3 (by simp only [List.length_append, List.length_cons, List.length_nil]; omega) (by simp only [List.length_append, List.length_cons, List.length_nil]; omega)) (fun _ _ z => z) fun d G4 ⟨hm, h4, H4, eG⟩ => ?_
  rw [← hA] at hm
  subst eG
  have hd : ∃ t', d = .str t' ∧ t'.length ≤ 3 * t.length + 10 := by
    simp only [List.mem_append, List.mem_cons, List.not_mem_nil, or_false] at hm
    have j1 := join_len (ps := q1 ++ q2)
    have j2 := join_len (ps := (q1 ++ q3) ++ q4)
    have j3 := join_len (ps := L.reverse)
    rw [wt_rev] at j3
    have j4 : ("\n" : Str).length = 1 := by decide
    rcases hm with (((rfl | rfl | rfl | rfl | rfl | rfl) | rfl) | rfl) | rfl | rfl | rfl | rfl <;> refine ⟨_, rfl, ?_⟩ <;> first | (simp only [len_app]; omega) | omega
  obtain ⟨t', rfl, ht'⟩ := hd
  exact ⟨bel_H, rfl, t', rfl, ht', h4, H4, rfl⟩
end

end K53
end M3
end L2

set_option Elab.async false
set_option linter.all false
set_option maxRecDepth 100000
set_option maxHeartbeats 2000000
namespace L2
namespace M3
namespace K53
open PySem PySem.Spec PyProof.Rows
def Th (d : D) : Prop := pd 100 d = true ∧ (runB d = true → ∃ ds, d = .tup ds ∧ (∀ x ∈ ds, good x = true) ∧ ds.length ≤ 100)
def odds : List D := [.tup [.str "change"], .tup [.str "change", .int (-1)], .tup [.str "join", .int 1, .int 1], .tup [.str "join", .int 0], .tup [.str "fork", .bl true], .tup [.str "Fork", .int 0], .tl [.str "fork", .int 0], .non, .int 0,
  .tup [.str "lose", .str "0"], .tup [.str "change", .int 0, .int 1], .tup [.int 1, .int 0], .tup [.str "fork", .non], .str "fork 0", .tup [.str "fork", .int 0]]
section
variable {k : Nat} {d : D} {G : Gs} {X : Exc → Gs → Prop}
theorem odds_ok : ∀ o ∈ odds, pd 100 o = true ∧ (deedB o = true → good o = true) := by decide +kernel
theorem mkT_1 {G : Gs} {a : D} : mkT [a] G = some (.tup [a]) := mkT_c (by simp)
theorem mkT_3 {G : Gs} {a b c : D} : mkT [a, b, c] G = some (.tup [a, b, c]) := mkT_c (by simp)
theorem mkL_2 {G : Gs} {a b : D} : mkL [a, b] G = some (.tl [a, b]) := mkL_c (by simp)
theorem mkL_1 {G : Gs} {a : D} : mkL [a] G = some (.tl [a]) := mkL_c (by simp)
theorem mkL_9 {G : Gs} {a b c d e f g h i : D} : mkL [a, b, c, d, e, f, g, h, i] G = some (.tl [a, b, c, d, e, f, g, h, i]) := mkL_c (by simp)
theorem mkL_6 {G : Gs} {a b c d e f : D} : mkL [a, b, c, d, e, f] G = some (.tl [a, b, c, d, e, f]) := mkL_c (by simp)
theorem mkL_7 {G : Gs} {a b c d e f g : D} : mkL [a, b, c, d, e, f, g] G = some (.tl [a, b, c, d, e, f, g]) := mkL_c (by simp)
theorem mul4 {G : Gs} {a : D} : mulD (.tl [a]) (.int 4) G = some (.tl [a, a, a, a]) := by
  show (if -(2 ^ 63) ≤ (4 : Int) ∧ (4 : Int) < 2 ^ 63 ∧ 1 * (4 : Int).toNat ≤ sizeLine then some (D.tl (List.replicate (4 : Int).toNat [a]).flatten) else none) = _
  rw [if_pos ⟨by omega, by omega, sz _ (by decide)⟩]
  rfl
theorem wR_d0 {l : Sl} {Q : D → Gs → Prop} : wR (mkD0 l G) X Q = Q (.td [] []) G := rfl
theorem listF_t {ds : List D} : listF [.tup ds] G = some (.tl ds) := rfl
theorem w_bentrun {h : HS} {ds : List D} (H : Hd h) (hg : ∀ x ∈ ds, good x = true) (hl : ds.length ≤ 12) : wR (f__law_bent_run [.obj 0, .tup ds] [gH h]) X (fun d G' => Th d ∧ ∃ h', Hd h' ∧ G' = [gH h']) := by
  unfold f__law_bent_run b__law_bent_run
  simp (config := { maxSteps := 10000000 }) only [wR_bnd, wR_ret, wR_rd, wR_lo, wR_lof, wR_chk, wR_ite, wR_call, wR_runF, wR_newL, wR_chn, wS_seq, wS_bnd, wS_nxt, wS_ret, wS_set, wS_brk, wS_cnt, wS_rz0, wS_rz, wS_ite, wS_setIx, wS_try, wS_end, wR_ok, startD, wipeD, List.map_cons, List.map_nil, List.length_cons, List.length_nil, List.replicate, List.cons_append, List.nil_append, List.getElem?_cons_zero, List.getElem?_cons_succ, List.set_cons_zero, List.set_cons_succ, Option.some.injEq, exists_eq_left', Nat.reduceAdd, Nat.reduceSub, Nat.reduceLeDiff, D.int.injEq, D.bl.injEq, addD_i, subD_i, mulD_i, fdivD_i, modD_i, ltD_i, leD_i, gtD_i, geD_i, tb_b, toI_i, intF_i, intF2_i, absF_i, ixD_o, ixD_tl, ixD_tup, ixD_fz, lenF_o, lenF_tl, lenF_tup, lenF_fz, objL_o, tyOk_o, lstO_0, lstO_s, negD_i, eqD2_i, neD2_i, eqD2_s, neD2_s, eqD2_b, neD2_b, Option.bind_some, Option.map_some, Option.isSome_some, Prod.mk.injEq, and_assoc, exists_and_left, decide_eq_true_eq, Option.ite_none_right_eq_some, true_and, and_true, mkT_1, mk2, mkT_3, mkL_2, mkL_9]
  refine wR_imp (w_draw H (by omega) (log9 (by omega) (by omega))) (fun _ _ z => z) fun d G1 ⟨v, h1, e, a, b, H1, eG⟩ => ?_
  subst e eG
  simp (config := { maxSteps := 10000000 }) only [wR_bnd, wR_ret, wR_rd, wR_lo, wR_lof, wR_chk, wR_ite, wR_call, wR_runF, wR_newL, wR_chn, wS_seq, wS_bnd, wS_nxt, wS_ret, wS_set, wS_brk, wS_cnt, wS_rz0, wS_rz, wS_ite, wS_setIx, wS_try, wS_end, wR_ok, startD, wipeD, List.map_cons, List.map_nil, List.length_cons, List.length_nil, List.replicate, List.cons_append, List.nil_append, List.getElem?_cons_zero, List.getElem?_cons_succ, List.set_cons_zero, List.set_cons_succ, Option.some.injEq, exists_eq_left', Nat.reduceAdd, Nat.reduceSub, Nat.reduceLeDiff, D.int.injEq, D.bl.injEq, addD_i, subD_i, mulD_i, fdivD_i, modD_i, ltD_i, leD_i, gtD_i, geD_i, tb_b, toI_i, intF_i, intF2_i, absF_i, ixD_o, ixD_tl, ixD_tup, ixD_fz, lenF_o, lenF_tl, lenF_tup, lenF_fz, objL_o, tyOk_o, lstO_0, lstO_s, negD_i, eqD2_i, neD2_i, eqD2_s, neD2_s, eqD2_b, neD2_b, Option.bind_some, Option.map_some, Option.isSome_some, Prod.mk.injEq, and_assoc, exists_and_left, decide_eq_true_eq, Option.ite_none_right_eq_some, true_and, and_true, mkT_1, mk2, mkT_3, mkL_6]
  refine ⟨_, addD_ll (by simp only [List.length_cons, List.length_nil]; omega), ?_⟩
  refine wR_imp (w_some H1 (by simp) (by simp)) (fun _ _ z => z) fun o G2 ⟨hm, h2, H2, eG⟩ => ?_
  subst eG
  have ho := odds_ok o hm
  have q1 : ∀ G, slD (.tup ds) none (some v) G = some (.tup (ds.take v.toNat)) := fun G => slD_tl a
  have q2 : ∀ G, slD (.tup ds) (some v) none G = some (.tup (ds.drop v.toNat)) := fun G => slD_tr a
  have lt : (ds.take v.toNat).length ≤ 12 := by rw [List.length_take]; omega
  have ld : (ds.drop v.toNat).length ≤ 12 := by rw [List.length_drop]; omega
  have ad1 : ∀ G, addD (.tup (ds.take v.toNat)) (.tup [o]) G = some (.tup (ds.take v.toNat ++ [o])) := fun G => addD_tt (by simp only [List.length_cons, List.length_nil]; omega)
  have ad2 : ∀ G, addD (.tup (ds.take v.toNat ++ [o])) (.tup (ds.drop v.toNat)) G = some (.tup (ds.take v.toNat ++ [o] ++ ds.drop v.toNat)) := fun G => addD_tt (by rw [List.length_append]; simp only [List.length_cons, List.length_nil]; omega)
  simp (config := { maxSteps := 10000000 }) only [wR_bnd, wR_ret, wR_rd, wR_lo, wR_lof, wR_chk, wR_ite, wR_call, wR_runF, wR_newL, wR_chn, wS_seq, wS_bnd, wS_nxt, wS_ret, wS_set, wS_brk, wS_cnt, wS_rz0, wS_rz, wS_ite, wS_setIx, wS_try, wS_end, wR_ok, startD, wipeD, List.map_cons, List.map_nil, List.length_cons, List.length_nil, List.replicate, List.cons_append, List.nil_append, List.getElem?_cons_zero, List.getElem?_cons_succ, List.set_cons_zero, List.set_cons_succ, Option.some.injEq, exists_eq_left', Nat.reduceAdd, Nat.reduceSub, Nat.reduceLeDiff, D.int.injEq, D.bl.injEq, addD_i, subD_i, mulD_i, fdivD_i, modD_i, ltD_i, leD_i, gtD_i, geD_i, tb_b, toI_i, intF_i, intF2_i, absF_i, ixD_o, ixD_tl, ixD_tup, ixD_fz, lenF_o, lenF_tl, lenF_tup, lenF_fz, objL_o, tyOk_o, lstO_0, lstO_s, negD_i, eqD2_i, neD2_i, eqD2_s, neD2_s, eqD2_b, neD2_b, Option.bind_some, Option.map_some, Option.isSome_some, Prod.mk.injEq, and_assoc, exists_and_left, decide_eq_true_eq, Option.ite_none_right_eq_some, true_and, and_true, mkT_1, q1, q2, ad1, ad2, mkL_1, mul4, listF_t, wR_d0, w_deep, mkL_7]
  refine ⟨_, addD_ll (by simp only [List.length_cons, List.length_nil]; omega), ?_⟩
  refine wR_imp (w_some H2 (by simp) (by simp)) (fun _ _ z => z) fun d G3 ⟨hm, h3, H3, eG⟩ => ?_
  subst eG
  refine ⟨?_, h3, H3, rfl⟩
  have p0 : ∀ {es : List D}, es.length ≤ 100 → (∀ x ∈ es, pd 100 x = true) → pd 100 (.tup es) = true := fun h1 h2 => pd_tp.mpr ⟨h1, h2⟩
  have hpd : ∀ x ∈ ds, pd 100 x = true := fun x hx => good_pd (hg x hx) (by omega)
  have t1 : Th (.tup (ds.take v.toNat ++ [o] ++ ds.drop v.toNat)) := by
    refine ⟨p0 (by rw [List.length_append, List.length_append]; simp only [List.length_cons, List.length_nil]; omega) fun x hx => ?_, fun hr => ⟨_, rfl, fun x hx => ?_, by rw [List.length_append, List.length_append]; simp only [List.length_cons, List.length_nil]; omega⟩⟩
    · rcases List.mem_append.mp hx with hx | hx
      · rcases List.mem_append.mp hx with hx | hx
        · exact hpd x (List.mem_of_mem_take hx)
        · rw [List.mem_singleton.mp hx]; exact ho.1
      · exact hpd x (List.mem_of_mem_drop hx)
    · have hd := List.all_eq_true.mp hr x hx
      rcases List.mem_append.mp hx with hx | hx
      · rcases List.mem_append.mp hx with hx | hx
        · exact hg x (List.mem_of_mem_take hx)
        · rw [List.mem_singleton.mp hx] at hd ⊢; exact ho.2 hd
      · exact hg x (List.mem_of_mem_drop hx)
  have nr : ∀ {d : D}, pd 100 d = true → runB d = false → Th d := fun h1 h2 => ⟨h1, fun z => by rw [h2] at z; cases z⟩
  simp only [List.mem_append, List.mem_cons, List.not_mem_nil, or_false] at hm
  rcases hm with (rfl | rfl | rfl | rfl) | rfl | rfl | rfl | rfl | rfl | rfl | rfl
  · exact t1
  · exact t1
  · exact t1
  · exact t1
  · exact nr (pd_ls.mpr ⟨by omega, hpd⟩) rfl
  · exact nr rfl rfl
  · exact nr (by decide) rfl
  · exact nr rfl rfl
  · exact nr (deep_pd _ 28) (by decide)
  · exact nr (deep_pd _ 28) (by decide)
  · exact ⟨p0 (by omega) hpd, fun _ => ⟨ds, rfl, hg, by omega⟩⟩
end

end K53
end M3
end L2

set_option Elab.async false
set_option linter.all false
set_option maxRecDepth 100000
set_option maxHeartbeats 2000000
namespace L2
namespace M3
namespace K53
open PySem PySem.Spec PyProof.Rows
section
variable {k : Nat} {d : D} {G : Gs} {X : Exc → Gs → Prop}
theorem dp_up : ∀ {n : Nat} {d : D}, dp n d = true → dp (n + 1) d = true
  | 0, _, h => by cases h
  | n + 1, .tup ds, h => by
    simp only [dp, Bool.and_eq_true, decide_eq_true_eq, List.all_eq_true] at h ⊢
    exact ⟨h.1, fun x hx => dp_up (h.2 x hx)⟩
  | n + 1, .tl ds, h => by
    simp only [dp, Bool.and_eq_true, decide_eq_true_eq, List.all_eq_true] at h ⊢
    exact ⟨h.1, fun x hx => dp_up (h.2 x hx)⟩
  | _ + 1, .non, _ => rfl
  | _ + 1, .bl _, _ => rfl
  | _ + 1, .int _, _ => rfl
  | _ + 1, .str _, _ => rfl
  | _ + 1, .ty _, h => by simp [dp] at h
  | _ + 1, .glo _, h => by simp [dp] at h
  | _ + 1, .fz _, h => by simp [dp] at h
  | _ + 1, .ti _ _ _, h => by simp [dp] at h
  | _ + 1, .td _ _, h => by simp [dp] at h
  | _ + 1, .obj _, h => by simp [dp] at h
theorem line_dp {s : Str} (hs : s.length ≤ 4000) : dp 2 (lineD s) = true := by
  have hl := PyProof.Rows.split_le s " "
  show (decide (_ ≤ 100000) && _) = true
  rw [Bool.and_eq_true, decide_eq_true_eq, List.all_eq_true]
  refine ⟨by simp only [List.length_cons, List.length_map, List.length_tail]; omega, fun x hx => ?_⟩
  rcases List.mem_cons.mp hx with rfl | hx
  · rfl
  · obtain ⟨p, _, rfl⟩ := List.mem_map.mp hx
    cases numO p <;> rfl
theorem readR_of : ∀ {L : List Str} {n : Nat} {ds : List D}, readR n L = .inr ds → ds.length = L.length ∧ ∀ d ∈ ds, ∃ s ∈ L, d = lineD s
  | [], _, _, h => by cases h; exact ⟨rfl, fun d hd => by cases hd⟩
  | s :: L, n, ds, h => by
    simp only [readR] at h
    split at h
    · cases q : readR (n + 1) L with
      | inl k => rw [q] at h; cases h
      | inr es =>
        rw [q] at h
        cases h
        obtain ⟨h1, h2⟩ := readR_of q
        refine ⟨by simp [h1], fun d hd => ?_⟩
        rcases List.mem_cons.mp hd with rfl | hd
        · exact ⟨s, by simp, rfl⟩
        · obtain ⟨s', hs', e⟩ := h2 d hd
          exact ⟨s', List.mem_cons_of_mem _ hs', e⟩
    · cases h
theorem told_dp {t : Str} (ht : t.length ≤ 4000) : dp 4 (toldT (readT t)) = true := by
  cases q : readT t with
  | inl n => rfl
  | inr ds =>
    have hds : dp 3 (.tup ds) = true := by
      unfold readT at q
      split at q
      · cases q; rfl
      · obtain ⟨h1, h2⟩ := readR_of q
        have hl := PyProof.Rows.split_le t "\n"
        show (decide (_ ≤ 100000) && _) = true
        rw [Bool.and_eq_true, decide_eq_true_eq, List.all_eq_true]
        refine ⟨by omega, fun x hx => ?_⟩
        obtain ⟨s, hs, rfl⟩ := h2 x hx
        exact line_dp (Nat.le_trans (sep_nl.part hs) ht)
    show (decide (2 ≤ 100000) && (true && (dp 3 (.tup ds) && true))) = true
    rw [hds]
    rfl
theorem good_dp {ds : List D} (h : ∀ d ∈ ds, good d = true) (hl : ds.length ≤ 100) : dp 3 (.tup ds) = true := by
  show (decide (_ ≤ 100000) && _) = true
  rw [Bool.and_eq_true, decide_eq_true_eq, List.all_eq_true]
  refine ⟨by omega, fun x hx => ?_⟩
  obtain ⟨w, y, r, rfl, hw, hr, hi⟩ := good_form (h x hx)
  show (decide (_ ≤ 100000) && _) = true
  rw [Bool.and_eq_true, decide_eq_true_eq, List.all_eq_true]
  refine ⟨by simp only [List.length_cons]; omega, fun z hz => ?_⟩
  rcases List.mem_cons.mp hz with rfl | hz
  · rfl
  · obtain ⟨i, rfl, _⟩ := hi z hz
    rfl
theorem is5 {d : D} (h : dp 5 d = true) : f__law_is [d, d] G = .ok (.bl true) G := w_is 5 d h
def bnd' : Nat → Nat
  | 0 => 372
  | n + 1 => 3 * bnd' n + 10
theorem pw30 {G : Gs} : powD (.int 10) (.int 30) G = some (.int (10 ^ 30)) := by
  show (if 0 ≤ (30 : Int) ∧ (30 : Int) ≤ 1000000 ∧ (10 : Int).natAbs < 2 ^ 64 then some (D.int ((10 : Int) ^ (30 : Int).toNat)) else none) = _
  rw [if_pos ⟨by omega, by omega, by show 10 < 2 ^ 64; omega⟩]
  have : (30 : Int).toNat = 30 := rfl
  rw [this]
theorem mkL_9' {G : Gs} {a b c d e f g h i : D} : mkL [a, b, c, d, e, f, g, h, i] G = some (.tl [a, b, c, d, e, f, g, h, i]) := mkL_c (by simp)
theorem law_ok {ns : List Int} : wR (f_law [.fz (ns.map D.int)] []) X (fun r G' => r = .bl true) := by
  unfold f_law b_law
  rw [wR_runF, wS_seq, wS_bnd, wR_bnd, wR_bnd, wR_rd]
  refine ⟨_, rfl, ?_⟩
  rw [wR_bnd, wR_ret, wR_ret, wR_call]
  refine ⟨rfl, ?_⟩
  refine wR_imp w_hand (fun _ _ z => z) fun d G1 ⟨e, h0, H0, eG⟩ => ?_
  subst e eG
  have r3 : ∀ G, toRng1 [.int 3] G = some (.rng 0 3) := fun G => rng1 (by decide) (by decide)
  simp only [wS_seq, wS_bnd, wR_bnd, wR_rd, wR_ret, wR_call, wR_lo, wS_set, wS_nxt, List.length_cons, List.length_nil, Nat.reduceAdd, true_and, List.getElem?_cons_zero, List.getElem?_cons_succ, Option.some.injEq, exists_eq_left', List.set_cons_zero, List.set_cons_succ, tb_b, wR_ok, startD, List.map_cons, List.map_nil, List.replicate, List.cons_append, List.nil_append, Nat.reduceSub, r3]
  refine wS_for (its := (List.range 3).map fun (i : Nat) => D.int (0 + (i : Int))) (fun q l G' => ∃ h s a1 a2 a3 a5 a6 a7 a8 a9 a10 a11, Hd h ∧ G' = [gH h] ∧ l = [s, a1, a2, a3, some (.obj 0), a5, a6, a7, a8, a9, a10, a11]) rfl ⟨h0, _, _, _, _, _, _, _, _, _, _, _, H0, rfl, rfl⟩ (fun _ _ _ _ => rfl) ?_ ?_
  · rintro x q l G' ⟨h, s, a1, a2, a3, a5, a6, a7, a8, a9, a10, a11, H, rfl, rfl⟩
    simp only [wS_nm, wS_seq, wS_bnd, wR_bnd, wR_rd, wR_ret, wR_call, wR_lo, wS_set, wS_nxt, List.length_cons, List.length_nil, Nat.reduceAdd, true_and, List.getElem?_cons_zero, List.getElem?_cons_succ, Option.some.injEq, exists_eq_left', List.set_cons_zero, List.set_cons_succ, tb_b, wR_ok]
    refine wR_imp (w_rundrawn H) (fun _ _ z => z) fun d G1 ⟨ds, e, hg, hl, h1, H1, eG⟩ => ?_
    subst e eG
    have hW : ∀ h : HS, below [gH h].length [gH h] = true := fun h => bel_H
    have tl := text_len hg hl
    have d3 := good_dp hg (by omega)
    have hread : ∀ (h : HS) (X : Exc → Gs → Prop) (Q : D → Gs → Prop), Q (.tup ds) [gH h] → wR (f_read_run [.str (textR ds)] [gH h]) X Q := fun h X Q hq => by
      refine wR_imp (w_read_run (by omega) (hW h)) (fun e G' ⟨n, z, _⟩ => ?_) fun d G' ⟨es, z, e1, e2⟩ => ?_
      · rw [read_back hg] at z; cases z
      · rw [read_back hg] at z
        cases z
        rw [e1, e2]
        exact hq
    simp only [wS_seq, wS_bnd, wR_bnd, wR_rd, wR_ret, wR_call, wR_lo, wS_set, wS_nxt, List.length_cons, List.length_nil, Nat.reduceAdd, true_and, List.getElem?_cons_zero, List.getElem?_cons_succ, Option.some.injEq, exists_eq_left', List.set_cons_zero, List.set_cons_succ, tb_b, wR_ok, w_lruntext hg (show ds.length ≤ 100 by omega), w_runtext hg (show ds.length ≤ 100 by omega), is5 (d := .str (textR ds)) rfl, Bool.not_true, Bool.false_eq_true, if_false]
    refine hread _ _ _ ?_
    simp only [wS_seq, wS_bnd, wR_bnd, wR_rd, wR_ret, wR_call, wR_lo, wS_set, wS_nxt, List.length_cons, List.length_nil, Nat.reduceAdd, true_and, List.getElem?_cons_zero, List.getElem?_cons_succ, Option.some.injEq, exists_eq_left', List.set_cons_zero, List.set_cons_succ, tb_b, wR_ok, is5 (dp_up (dp_up d3)), Bool.not_true, Bool.false_eq_true, if_false, r3]
    refine wS_for (its := (List.range 3).map fun (i : Nat) => D.int (0 + (i : Int))) (fun q l G' => ∃ h s a1 a2 a3 a5 a6 a9 a10 a11, Hd h ∧ G' = [gH h] ∧ l = [s, a1, a2, a3, some (.obj 0), a5, a6, some (.tup ds), some (.str (textR ds)), a9, a10, a11]) rfl ⟨h1, _, _, _, _, _, _, _, _, _, H1, rfl, rfl⟩ (fun _ _ _ _ => rfl) ?_ ?_
    · rintro x2 q2 l2 G2 ⟨h, s, a1, a2, a3, a5, a6, a9, a10, a11, H, rfl, rfl⟩
      simp only [wS_nm, wS_seq, wS_bnd, wR_bnd, wR_rd, wR_ret, wR_call, wR_lo, wS_set, wS_nxt, List.length_cons, List.length_nil, Nat.reduceAdd, true_and, List.getElem?_cons_zero, List.getElem?_cons_succ, Option.some.injEq, exists_eq_left', List.set_cons_zero, List.set_cons_succ, tb_b, wR_ok]
      refine wR_imp (w_draw H (many := 2) (by omega) (log9 (by omega) (by omega))) (fun _ _ z => z) fun d G3 ⟨v, h3, e, v0, v1, H3, eG⟩ => ?_
      subst e eG
      simp only [wR_lo, addD_i, Option.some.injEq, exists_eq_left', rng1 (show -(2 ^ 62) ≤ 1 + v by omega) (show 1 + v < 2 ^ 62 by omega)]
      refine wS_for (its := (List.range (1 + v).toNat).map fun (i : Nat) => D.int (0 + (i : Int))) (fun q l G' => ∃ h s a1 a3 a5 a6 a9 a10 a11 t i, Hd h ∧ G' = [gH h] ∧ l = [s, a1, some (.str t), a3, some (.obj 0), a5, a6, some (.tup ds), some (.str (textR ds)), a9, a10, a11] ∧ t.length ≤ bnd' i ∧ i + q.length = (1 + v).toNat) rfl ⟨h3, _, _, _, _, _, _, _, _, _, 0, H3, rfl, rfl, by show _ ≤ 372; omega, by simp⟩ (fun _ _ _ _ => rfl) ?_ ?_
      · rintro x4 q4 l4 G4 ⟨h, s, a1, a3, a5, a6, a9, a10, a11, t, i, H, rfl, rfl, ht, hi⟩
        have hi2 : i ≤ 1 := by simp only [List.length_cons] at hi; omega
        have ht2 : t.length ≤ 2000 := by
          have : bnd' i ≤ 1126 := by
            match i, hi2 with
            | 0, _ => decide
            | 1, _ => decide
          omega
        simp only [wS_nm, wS_seq, wS_bnd, wR_bnd, wR_rd, wR_ret, wR_call, wR_lo, wS_set, wS_nxt, List.length_cons, List.length_nil, Nat.reduceAdd, true_and, List.getElem?_cons_zero, List.getElem?_cons_succ, Option.some.injEq, exists_eq_left', List.set_cons_zero, List.set_cons_succ, tb_b, wR_ok]
        refine wR_imp (w_bent H ht2) (fun _ _ z => z) fun d G5 ⟨t', e, ht', h5, H5, eG⟩ => ?_
        subst e eG
        try simp only [wS_seq, wS_bnd, wR_bnd, wR_rd, wR_ret, wR_call, wR_lo, wS_set, wS_nxt, List.length_cons, List.length_nil, Nat.reduceAdd, true_and, List.getElem?_cons_zero, List.getElem?_cons_succ, Option.some.injEq, exists_eq_left', List.set_cons_zero, List.set_cons_succ, tb_b, wR_ok]
        exact ⟨h5, _, _, _, _, _, _, _, _, t', i + 1, H5, rfl, rfl, by show _ ≤ 3 * bnd' i + 10; omega, by simp only [List.length_cons] at hi; omega⟩
      · rintro l4 G4 ⟨h, s, a1, a3, a5, a6, a9, a10, a11, t, i, H, rfl, rfl, ht, hi⟩
        have ht2 : t.length ≤ 4000 := by
          have hi2 : i ≤ 2 := by simp only [List.length_nil] at hi; omega
          have : bnd' i ≤ 3388 := by
            match i, hi2 with
            | 0, _ => decide
            | 1, _ => decide
            | 2, _ => decide
          omega
        simp only [wS_seq, wS_bnd, wR_bnd, wR_rd, wR_ret, wR_call, wR_lo, wS_set, wS_nxt, List.length_cons, List.length_nil, Nat.reduceAdd, true_and, List.getElem?_cons_zero, List.getElem?_cons_succ, Option.some.injEq, exists_eq_left', List.set_cons_zero, List.set_cons_succ, tb_b, wR_ok]
        refine wR_imp (w_told ht2 (hW h)) (fun _ _ z => z) fun d G5 ⟨e, eG⟩ => ?_
        subst e eG
        refine wR_imp (w_lread ht2 (hW h)) (fun _ _ z => z) fun d G5 ⟨eG, e, _⟩ => ?_
        subst eG
        have e' : d = toldT (readT t) := by rw [e]; cases readT t <;> rfl
        rw [e', is5 (dp_up (told_dp ht2))]
        simp only [wR_ok, wR_lo, tb_b, Option.some.injEq, exists_eq_left', Bool.not_true, Bool.false_eq_true, if_false, wS_nxt]
        exact ⟨h, _, _, _, _, _, _, _, _, _, H, rfl, rfl⟩
    · rintro l2 G2 ⟨h, s, a1, a2, a3, a5, a6, a9, a10, a11, H, rfl, rfl⟩
      simp only [wS_seq, wS_bnd, wR_bnd, wR_rd, wR_ret, wR_call, wR_lo, wS_set, wS_nxt, List.length_cons, List.length_nil, Nat.reduceAdd, true_and, List.getElem?_cons_zero, List.getElem?_cons_succ, Option.some.injEq, exists_eq_left', List.set_cons_zero, List.set_cons_succ, tb_b, wR_ok]
      refine wR_imp (w_bentrun H hg hl) (fun _ _ z => z) fun th G3 ⟨⟨hp, hth⟩, h3, H3, eG⟩ => ?_
      subst eG
      have oddF : ∀ d ∈ [D.non, .int 0, .bl true, .tl [.str (textR ds)], .tup [.str (textR ds)], .td [] [], .tup ds, deepD (!decide ((0 : Int) = 0)) 28, .int (10 ^ 30)], pd 100 d = true ∧ isB d "str" = false := by
        have tt : pd 100 (.str (textR ds)) = true := by simp only [pd, decide_eq_true_eq]; omega
        intro d hd
        simp only [List.mem_cons, List.not_mem_nil, or_false] at hd
        rcases hd with rfl | rfl | rfl | rfl | rfl | rfl | rfl | rfl | rfl
        · exact ⟨rfl, by decide⟩
        · exact ⟨rfl, by decide⟩
        · exact ⟨rfl, by decide⟩
        · exact ⟨pd_ls.mpr ⟨by simp, fun x hx => by rw [List.mem_singleton.mp hx]; exact tt⟩, by simp [isB, tyB]⟩
        · exact ⟨pd_tp.mpr ⟨by simp, fun x hx => by rw [List.mem_singleton.mp hx]; exact tt⟩, by simp [isB, tyB]⟩
        · exact ⟨rfl, by simp [isB, tyB]⟩
        · exact ⟨run_pd hg (by omega), by simp [isB, tyB]⟩
        · exact ⟨deep_pd _ 28, by decide⟩
        · exact ⟨rfl, by simp [isB, tyB]⟩
      by_cases c0 : isB th "tuple" = true
      case neg =>
        have c0' : isB th "tuple" = false := by simpa using c0
        have e : runB th = false := by
          cases th <;> first | rfl | (simp [isB, tyB] at c0)
        have hx1 : ∀ G, f__law_written [th] G = .ok (.int 0) G := fun G => by rw [w_written hp hth, if_neg (by rw [e]; decide)]
        simp only [wS_seq, wS_bnd, wR_bnd, wR_rd, wR_ret, wR_call, wR_lo, wS_set, wS_nxt, List.length_cons, List.length_nil, Nat.reduceAdd, true_and, List.getElem?_cons_zero, List.getElem?_cons_succ, Option.some.injEq, exists_eq_left', List.set_cons_zero, List.set_cons_succ, tb_b, wR_ok, is_t (pd_ty hp), c0', hx1, if_false, is5 (d := .int 0) rfl, Bool.not_true, Bool.false_eq_true, mkL_1, mkT_1, wR_d0, w_deep, pw30, mkL_9', mk2]
        refine wR_imp (w_some H3 (by simp) (by simp)) (fun _ _ z => z) fun d G4 ⟨hm, h4, H4, eG⟩ => ?_
        subst eG
        have ho := oddF d hm
        refine wR_imp (w_told_odd ho.1 ho.2 (hW h4)) (fun _ _ z => z) fun r G5 ⟨er, eG⟩ => ?_
        subst er eG
        simp only [wS_seq, wS_bnd, wR_bnd, wR_rd, wR_ret, wR_call, wR_lo, wS_set, wS_nxt, List.length_cons, List.length_nil, Nat.reduceAdd, true_and, List.getElem?_cons_zero, List.getElem?_cons_succ, Option.some.injEq, exists_eq_left', List.set_cons_zero, List.set_cons_succ, tb_b, wR_ok, is5 (d := .tup [.str "text", .int 0]) rfl, Bool.not_true, Bool.false_eq_true, if_false]
        exact ⟨h4, _, _, _, _, _, _, _, _, _, _, _, H4, rfl, rfl⟩
      obtain ⟨es, rfl⟩ := isB_tup c0
      obtain ⟨hl', hm'⟩ := pd_tp.mp hp
      simp only [wS_seq, wS_bnd, wR_bnd, wR_rd, wR_ret, wR_call, wR_lo, wS_set, wS_nxt, List.length_cons, List.length_nil, Nat.reduceAdd, true_and, List.getElem?_cons_zero, List.getElem?_cons_succ, Option.some.injEq, exists_eq_left', List.set_cons_zero, List.set_cons_succ, tb_b, wR_ok, is_t (pd_ty hp), c0, if_true, srcA_t]
      rw [compB es deedB rfl (by omega) (fun y hy => eq_of_wR ?_)]
      rotate_left
      · simp only [wipeD, wS_seq, wS_bnd, wR_bnd, wR_rd, wR_ret, wR_call, wR_lo, wS_set, wS_nxt, List.length_cons, List.length_nil, Nat.reduceAdd, true_and, List.getElem?_cons_zero, List.getElem?_cons_succ, Option.some.injEq, exists_eq_left', List.set_cons_zero, List.set_cons_succ, tb_b, wR_ok, w_ldeed (show 100 ≤ 100000 by omega) (hm' y hy), and_self]
      have er0 : runB (.tup es) = es.all deedB := rfl
      by_cases cr : es.all deedB = true
      · obtain ⟨es', e2, hge, hle⟩ := hth (by rw [er0]; exact cr)
        cases e2
        have hx1 : ∀ G, f__law_written [.tup es] G = .ok (.str (textR es)) G := fun G => by rw [w_written hp hth, if_pos (by rw [er0]; exact cr)]
        simp only [allF_map, cr, wS_seq, wS_bnd, wR_bnd, wR_rd, wR_ret, wR_call, wR_lo, wS_set, wS_nxt, List.length_cons, List.length_nil, Nat.reduceAdd, true_and, List.getElem?_cons_zero, List.getElem?_cons_succ, Option.some.injEq, exists_eq_left', List.set_cons_zero, List.set_cons_succ, tb_b, wR_ok, hx1, if_true, w_lruntext hge hle, is5 (d := .str (textR es)) rfl, Bool.not_true, Bool.false_eq_true, if_false, mkL_1, mkT_1, wR_d0, w_deep, pw30, mkL_9', mk2]
        refine wR_imp (w_some H3 (by simp) (by simp)) (fun _ _ z => z) fun d G4 ⟨hm, h4, H4, eG⟩ => ?_
        subst eG
        have ho := oddF d hm
        refine wR_imp (w_told_odd ho.1 ho.2 (hW h4)) (fun _ _ z => z) fun r G5 ⟨er, eG⟩ => ?_
        subst er eG
        simp only [wS_seq, wS_bnd, wR_bnd, wR_rd, wR_ret, wR_call, wR_lo, wS_set, wS_nxt, List.length_cons, List.length_nil, Nat.reduceAdd, true_and, List.getElem?_cons_zero, List.getElem?_cons_succ, Option.some.injEq, exists_eq_left', List.set_cons_zero, List.set_cons_succ, tb_b, wR_ok, is5 (d := .tup [.str "text", .int 0]) rfl, Bool.not_true, Bool.false_eq_true, if_false]
        exact ⟨h4, _, _, _, _, _, _, _, _, _, _, _, H4, rfl, rfl⟩
      · have cr' : es.all deedB = false := by simpa using cr
        have hx1 : ∀ G, f__law_written [.tup es] G = .ok (.int 0) G := fun G => by rw [w_written hp hth, if_neg (by rw [er0, cr']; decide)]
        simp only [allF_map, cr', wS_seq, wS_bnd, wR_bnd, wR_rd, wR_ret, wR_call, wR_lo, wS_set, wS_nxt, List.length_cons, List.length_nil, Nat.reduceAdd, true_and, List.getElem?_cons_zero, List.getElem?_cons_succ, Option.some.injEq, exists_eq_left', List.set_cons_zero, List.set_cons_succ, tb_b, wR_ok, hx1, if_false, is5 (d := .int 0) rfl, Bool.not_true, Bool.false_eq_true, mkL_1, mkT_1, wR_d0, w_deep, pw30, mkL_9', mk2]
        refine wR_imp (w_some H3 (by simp) (by simp)) (fun _ _ z => z) fun d G4 ⟨hm, h4, H4, eG⟩ => ?_
        subst eG
        have ho := oddF d hm
        refine wR_imp (w_told_odd ho.1 ho.2 (hW h4)) (fun _ _ z => z) fun r G5 ⟨er, eG⟩ => ?_
        subst er eG
        simp only [wS_seq, wS_bnd, wR_bnd, wR_rd, wR_ret, wR_call, wR_lo, wS_set, wS_nxt, List.length_cons, List.length_nil, Nat.reduceAdd, true_and, List.getElem?_cons_zero, List.getElem?_cons_succ, Option.some.injEq, exists_eq_left', List.set_cons_zero, List.set_cons_succ, tb_b, wR_ok, is5 (d := .tup [.str "text", .int 0]) rfl, Bool.not_true, Bool.false_eq_true, if_false]
        exact ⟨h4, _, _, _, _, _, _, _, _, _, _, _, H4, rfl, rfl⟩
  · rintro l G' ⟨h, s, a1, a2, a3, a5, a6, a7, a8, a9, a10, a11, H, rfl, rfl⟩
    simp only [wR_bnd, wR_ret, wR_rd, wR_lo, wR_lof, wR_chk, wR_ite, wR_call, wR_runF, wR_newL, wR_chn, wS_seq, wS_bnd, wS_nxt, wS_ret, wS_set, wS_brk, wS_cnt, wS_rz0, wS_rz, wS_ite, wS_setIx, wS_try, wS_end, wR_ok, startD, wipeD, List.map_cons, List.map_nil, List.length_cons, List.length_nil, List.replicate, List.cons_append, List.nil_append, List.getElem?_cons_zero, List.getElem?_cons_succ, List.set_cons_zero, List.set_cons_succ, Option.some.injEq, exists_eq_left', Nat.reduceAdd, Nat.reduceSub, Nat.reduceLeDiff, D.int.injEq, D.bl.injEq, addD_i, subD_i, mulD_i, fdivD_i, modD_i, ltD_i, leD_i, gtD_i, geD_i, tb_b, toI_i, intF_i, intF2_i, absF_i, ixD_o, ixD_tl, ixD_tup, ixD_fz, lenF_o, lenF_tl, lenF_tup, lenF_fz, objL_o, tyOk_o, lstO_0, lstO_s, negD_i, eqD2_i, neD2_i, eqD2_s, neD2_s, eqD2_b, neD2_b, Option.bind_some, Option.map_some, Option.isSome_some, Prod.mk.injEq, and_assoc, exists_and_left, decide_eq_true_eq, Option.ite_none_right_eq_some, true_and, and_true]
end
theorem pure_law : ∀ ns : List Int, ns.length ≤ 63 → ∃ G, f_law [.fz (ns.map D.int)] [] = .ok (.bl true) G := fun ns _ => by
  have h := law_ok (ns := ns) (X := fun _ _ => False)
  revert h
  cases f_law [.fz (ns.map D.int)] [] with
  | ok r G => exact fun h => ⟨G, by rw [show r = D.bl true from h]⟩
  | exc e G => exact fun h => h.elim
  | stuck => exact fun h => h.elim

end K53
end M3
end L2

set_option Elab.async false
set_option linter.all false
set_option maxRecDepth 100000
set_option maxHeartbeats 0
namespace L2
namespace M3
namespace K53
open PySem PySem.Spec PyProof.Rows
end K53
end M3
end L2
open PySem PySem.W PySem.Calls PyProof.Rows L2 L2.M3
theorem PySem.Challenge.cw_threecopies_k53_whole_texts_of_runs_holds : PySem.Challenge.rw_threecopies_k53_whole_texts_of_runs.Holds := by
  w_on; o_law
  refine HandSHeadRun.head_any (r := OpenLaw.row PySem.Challenge.rw_threecopies_k53_whole_texts_of_runs) (q := view (OpenLaw.row PySem.Challenge.rw_threecopies_k53_whole_texts_of_runs).prog [32]) (H := K53.hd.hook) (ob := K53.hd.ob) (M := 4000) (loose := K53.nms) (d := HandSHeadRun.topDef (OpenLaw.row PySem.Challenge.rw_threecopies_k53_whole_texts_of_runs).prog 32) (kwd := []) K53.hd.ob_eq
    (by kernel_rfl) (fun s => by kernel_rfl) K53.run (by kernel_rfl) (by kernel_rfl) (by kernel_rfl) (by rfl) (by first | assumption | decide +kernel) (by decide +kernel) ⟨rfl, rfl, rfl, rfl, rfl, by decide +kernel⟩ ?hw ?hc
  case hw => w_witness2
  case hc =>
    exact walk_end (l := PySem.Challenge.rw_threecopies_k53_whole_texts_of_runs) (h := K53.hd) (k := 7) (x := "_law_script") (fm := K53.f_law) rfl (by kernel_rfl) ⟨rfl, by decide, by decide⟩ (by kernel_rfl)
      (fun w mg hp base K c X G => K53.ok_law rfl c X G) (fun mg hp K c X G => K53.g_law rfl c X G) K53.pure_law

