import PyProof.Rows.All
import Wide.All
import OpenK.AllK
import Wide.FinOn
import HandS.ForMost
import HandS.ForExc
import HandS.Defaults
import HandS.HeadEnd
import HandS.HeadHook1
import HandS.HeadHook2
import HandS.TupAny
import HandS.TupMul
import HandS.IsInst
import HandS.Wide
import HandS.Codes
import HandS.Conv
import HandS.SortInts
import HandS.Iter
import HandS.Zip
import KE.KExcSuper
import KE.KSuper
import HandS.ExcIs
import HandS.ExcField
import HandS.ExcOwn
import HandS.DictSubMake
import KE.KExcIs
import HandS.Head0
import HandS.Head1
import HandS.Head2
import HandS.Words
import HandS.WordsExc
import HandS.More
import HandS.Dict
import PyProof.Rows.EnumRows
import KE.KStateDown
import Lean
import PySem.Challenge.RW_threecopies_k12_books_judged
set_option Elab.async false
set_option linter.all false
set_option maxRecDepth 100000
set_option maxHeartbeats 1000000
/-! M3: a mirror layer over HandS. Values as data (tuples, frozen lists, frozen instances are data; what is changed stands in a list of objects), code as functions that can be run. -/
namespace L2
namespace M3
open PySem PySem.Spec PyProof.Rows

inductive D where
  | non | bl (b : Bool) | int (i : Int) | str (x : Str) | ty (n : String) | glo (x : Str)
  | tup (ds : List D) | tl (ds : List D) | fz (ds : List D) | ti (C : Str) (ks : List Str) (ds : List D) | td (ks : List D) (ds : List D)
  | obj (i : Nat)
  deriving Inhabited

inductive MO where
  | lst (ds : List D) | dct (kvs : List (D × D)) | ins (C : Str) (fs : List (Str × D))
  deriving Inhabited

abbrev Gs := List MO
abbrev Sl := List (Option D)
structure Exc where
  c : Str
  f : Option (Str × D)
inductive R (α : Type) where
  | ok (a : α) (G : Gs) | exc (e : Exc) (G : Gs) | stuck
inductive RS where
  | nx (ds : Sl) (G : Gs) | rt (d : D) (G : Gs) | bk (ds : Sl) (G : Gs) | ct (ds : Sl) (G : Gs) | exc (e : Exc) (ds : Sl) (G : Gs) | stuck
/-- code: an expression's, a test's, a statement's, a def's -/
abbrev M (α : Type) := Sl → Gs → R α
abbrev MS := Sl → Gs → RS
abbrev FM := List D → Gs → R D

/-! ### the relation of data to the abstract heap -/
/-- where the objects stand; what is hidden (a comprehension's list that grows) -/
structure Rho where
  os : List Addr
  hd : List Addr
def Rho.no (ρ : Rho) (a : Addr) : Prop := ¬ a ∈ ρ.os ∧ ¬ a ∈ ρ.hd
def TupN (K : PySem.W.Frag) (ρ : Rho) (H : Hp) (a : Addr) (xs : List V) : Prop :=
  (ρ.no a ∧ Rd H a (.tup xs)) ∨
    ∃ (o : Obj) (its : Array Value) (n : Nat), K.lookup a = some o ∧ o.cls = .type "tuple" ∧ o.data = .seq its n ∧ its.size ≤ sizeLine ∧ Vals xs its.toList
def LstN (ρ : Rho) (H : Hp) (a : Addr) (xs : List V) : Prop := ρ.no a ∧ H a = some (.lst xs)
def LstF (K : PySem.W.Frag) (ρ : Rho) (H : Hp) (a : Addr) (xs : List V) : Prop :=
  (ρ.no a ∧ Rd H a (.lst xs)) ∨
    ∃ (o : Obj) (its : Array Value) (n : Nat), K.lookup a = some o ∧ o.cls = .type "list" ∧ o.dict = none ∧ o.data = .seq its n ∧ its.size ≤ sizeLine ∧ Vals xs its.toList
theorem TupN.sq {K ρ H a xs} (h : TupN K ρ H a xs) : SqT K H a xs := h.imp (fun x => x.2) id
theorem LstN.sq {K ρ H a xs} (h : LstN ρ H a xs) : SqL K H a xs := .of h.2
theorem LstF.sq {K ρ H a xs} (h : LstF K ρ H a xs) : SqL K H a xs := h.imp (fun x => x.2) id
def kD : Key → D
  | .inl i => .int i
  | .inr s => .str s

mutual
def DRel (K : PySem.W.Frag) (ρ : Rho) (H : Hp) : D → V → Prop
  | .non, v => v = .non
  | .bl b, v => v = .bl b
  | .int i, v => v = .int i
  | .str x, v => v = .str x
  | .ty n, v => v = .ty n
  | .glo x, v => v = .ref (He.ga K x)
  | .obj i, v => ∃ a, ρ.os[i]? = some a ∧ v = .ref a
  | .tup ds, v => ∃ a xs, v = .ref a ∧ TupN K ρ H a xs ∧ DRels K ρ H ds xs
  | .tl ds, v => ∃ a xs, v = .ref a ∧ LstN ρ H a xs ∧ DRels K ρ H ds xs
  | .fz ds, v => ∃ a xs, v = .ref a ∧ LstF K ρ H a xs ∧ DRels K ρ H ds xs
  | .td ks ds, v => ∃ a xs, v = .ref a ∧ ρ.no a ∧ ((∃ l : List (Key × V), H a = some (.dK l) ∧ ks = l.map (fun p => kD p.1) ∧ xs = l.map (·.2)) ∨
      (∃ l : List (List Key × V), H a = some (.dT l) ∧ ks = l.map (fun p => D.tup (p.1.map kD)) ∧ xs = l.map (·.2))) ∧ DRels K ρ H ds xs
  | .ti C ks ds, v => ∃ a dx xs, v = .ref a ∧ ρ.no a ∧ H a = some (.ins (He.ga K C) dx (ks.zip xs)) ∧ ks.length = xs.length ∧ DRels K ρ H ds xs
def DRels (K : PySem.W.Frag) (ρ : Rho) (H : Hp) : List D → List V → Prop
  | [], vs => vs = []
  | d :: ds, vs => ∃ v r, vs = v :: r ∧ DRel K ρ H d v ∧ DRels K ρ H ds r
end

/-- what stood stands, whatever is hidden -/
structure Grow (ρ : Rho) (H : Hp) (ρ' : Rho) (H' : Hp) : Prop where
  ext : ∃ t, ρ'.os = ρ.os ++ t
  keep : ∀ a o, H a = some o → ρ.no a → H' a = some o ∧ ρ'.no a
structure Step (ρ : Rho) (H : Hp) (ρ' : Rho) (H' : Hp) : Prop where
  ext : ∃ t, ρ'.os = ρ.os ++ t
  hid : ρ'.hd = ρ.hd
  keep : ∀ a o, H a = some o → ρ.no a → H' a = some o ∧ ρ'.no a
  kh : ∀ a ∈ ρ.hd, H' a = H a
theorem Step.g {ρ H ρ' H'} (s : Step ρ H ρ' H') : Grow ρ H ρ' H' := ⟨s.ext, s.keep⟩
theorem Step.refl (ρ : Rho) (H : Hp) : Step ρ H ρ H := ⟨⟨[], by simp⟩, rfl, fun a o h n => ⟨h, n⟩, fun _ _ => rfl⟩
theorem Step.trans {ρ H ρ1 H1 ρ2 H2} (a : Step ρ H ρ1 H1) (b : Step ρ1 H1 ρ2 H2) : Step ρ H ρ2 H2 := by
  obtain ⟨t, e⟩ := a.ext
  obtain ⟨u, e2⟩ := b.ext
  refine ⟨⟨t ++ u, by rw [e2, e, List.append_assoc]⟩, b.hid.trans a.hid, fun c o h n => ?_, fun c hc => ?_⟩
  · obtain ⟨h1, n1⟩ := a.keep c o h n
    exact b.keep c o h1 n1
  · exact (b.kh c (by rw [a.hid]; exact hc)).trans (a.kh c hc)
section
variable {K : PySem.W.Frag} {ρ ρ' : Rho} {H H' : Hp}
theorem Grow.rd (s : Grow ρ H ρ' H') {a : Addr} {u : HO} (n : ρ.no a) (h : Rd H a u) : ρ'.no a ∧ Rd H' a u := by
  rcases h with h | ⟨o, h⟩
  · exact ⟨(s.keep a _ h n).2, .inl (s.keep a _ h n).1⟩
  · exact ⟨(s.keep a _ h n).2, .inr ⟨o, (s.keep a _ h n).1⟩⟩
theorem TupN.grow (s : Grow ρ H ρ' H') {a xs} (h : TupN K ρ H a xs) : TupN K ρ' H' a xs := h.imp (fun x => s.rd x.1 x.2) id
theorem LstN.grow (s : Grow ρ H ρ' H') {a xs} (h : LstN ρ H a xs) : LstN ρ' H' a xs := ⟨(s.keep _ _ h.2 h.1).2, (s.keep _ _ h.2 h.1).1⟩
theorem LstF.grow (s : Grow ρ H ρ' H') {a xs} (h : LstF K ρ H a xs) : LstF K ρ' H' a xs := h.imp (fun x => s.rd x.1 x.2) id
mutual
theorem DRel.grow (s : Grow ρ H ρ' H') : ∀ {d : D} {v : V}, DRel K ρ H d v → DRel K ρ' H' d v
  | .non, _, h => h
  | .bl _, _, h => h
  | .int _, _, h => h
  | .str _, _, h => h
  | .ty _, _, h => h
  | .glo _, _, h => h
  | .obj i, _, h => by
    obtain ⟨a, h1, h2⟩ := h
    obtain ⟨t, et⟩ := s.ext
    have hl : i < ρ.os.length := (List.getElem?_eq_some_iff.mp h1).1
    exact ⟨a, by rw [et, List.getElem?_append_left hl]; exact h1, h2⟩
  | .tup ds, _, h => by
    obtain ⟨a, xs, e, h1, h2⟩ := h
    exact ⟨a, xs, e, h1.grow s, DRels.grow s h2⟩
  | .tl ds, _, h => by
    obtain ⟨a, xs, e, h1, h2⟩ := h
    exact ⟨a, xs, e, h1.grow s, DRels.grow s h2⟩
  | .fz ds, _, h => by
    obtain ⟨a, xs, e, h1, h2⟩ := h
    exact ⟨a, xs, e, h1.grow s, DRels.grow s h2⟩
  | .td ks ds, _, h => by
    obtain ⟨a, xs, e, h1, h2, h3⟩ := h
    rcases h2 with ⟨l, e1, e2, e3⟩ | ⟨l, e1, e2, e3⟩
    · exact ⟨a, xs, e, (s.keep _ _ e1 h1).2, .inl ⟨l, (s.keep _ _ e1 h1).1, e2, e3⟩, DRels.grow s h3⟩
    · exact ⟨a, xs, e, (s.keep _ _ e1 h1).2, .inr ⟨l, (s.keep _ _ e1 h1).1, e2, e3⟩, DRels.grow s h3⟩
  | .ti C ks ds, _, h => by
    obtain ⟨a, dx, xs, e, h1, h2, h3, h4⟩ := h
    exact ⟨a, dx, xs, e, (s.keep _ _ h2 h1).2, (s.keep _ _ h2 h1).1, h3, DRels.grow s h4⟩
theorem DRels.grow (s : Grow ρ H ρ' H') : ∀ {ds : List D} {vs : List V}, DRels K ρ H ds vs → DRels K ρ' H' ds vs
  | [], _, h => h
  | d :: ds, _, h => by
    obtain ⟨v, r, e, h1, h2⟩ := h
    exact ⟨v, r, e, DRel.grow s h1, DRels.grow s h2⟩
end
theorem TupN.step (s : Step ρ H ρ' H') {a xs} (h : TupN K ρ H a xs) : TupN K ρ' H' a xs := h.grow s.g
theorem LstN.step (s : Step ρ H ρ' H') {a xs} (h : LstN ρ H a xs) : LstN ρ' H' a xs := h.grow s.g
theorem LstF.step (s : Step ρ H ρ' H') {a xs} (h : LstF K ρ H a xs) : LstF K ρ' H' a xs := h.grow s.g
theorem DRel.step (s : Step ρ H ρ' H') {d : D} {v : V} (h : DRel K ρ H d v) : DRel K ρ' H' d v := h.grow s.g
theorem DRels.step (s : Step ρ H ρ' H') {ds : List D} {vs : List V} (h : DRels K ρ H ds vs) : DRels K ρ' H' ds vs := h.grow s.g
theorem DRels.length : ∀ {ds : List D} {vs : List V}, DRels K ρ H ds vs → ds.length = vs.length
  | [], _, h => by cases h; rfl
  | d :: ds, _, h => by
    obtain ⟨v, r, rfl, h1, h2⟩ := h
    simp [h2.length]
theorem DRels.get : ∀ {ds : List D} {vs : List V} {i : Nat} {d : D}, DRels K ρ H ds vs → ds[i]? = some d → ∃ v, vs[i]? = some v ∧ DRel K ρ H d v
  | [], _, i, d, h, e => by simp at e
  | d :: ds, _, 0, d', h, e => by
    obtain ⟨v, r, rfl, h1, h2⟩ := h
    simp at e
    subst e
    exact ⟨v, rfl, h1⟩
  | d :: ds, _, i + 1, d', h, e => by
    obtain ⟨v, r, rfl, h1, h2⟩ := h
    obtain ⟨u, e1, e2⟩ := DRels.get (i := i) h2 (by simpa using e)
    exact ⟨u, by simpa using e1, e2⟩
theorem DRels.getV : ∀ {ds : List D} {vs : List V} {i : Nat} {v : V}, DRels K ρ H ds vs → vs[i]? = some v → ∃ d, ds[i]? = some d ∧ DRel K ρ H d v := fun {ds vs i v} h e => by
  have hl : i < vs.length := (List.getElem?_eq_some_iff.mp e).1
  have hl2 : i < ds.length := by rw [h.length]; exact hl
  obtain ⟨u, e1, e2⟩ := h.get (i := i) (d := ds[i]) (by simp [hl2])
  rw [e] at e1
  cases e1
  exact ⟨_, by simp [hl2], e2⟩
theorem DRels.append : ∀ {ds es : List D} {vs us : List V}, DRels K ρ H ds vs → DRels K ρ H es us → DRels K ρ H (ds ++ es) (vs ++ us)
  | [], _, _, _, h, h' => by cases h; exact h'
  | d :: ds, es, _, us, h, h' => by
    obtain ⟨v, r, rfl, h1, h2⟩ := h
    exact ⟨v, r ++ us, rfl, h1, DRels.append h2 h'⟩
theorem DRels.take : ∀ {ds : List D} {vs : List V} (n : Nat), DRels K ρ H ds vs → DRels K ρ H (ds.take n) (vs.take n)
  | _, _, 0, _ => by simp [DRels]
  | [], _, n + 1, h => by cases h; simp [DRels]
  | d :: ds, _, n + 1, h => by
    obtain ⟨v, r, rfl, h1, h2⟩ := h
    exact ⟨v, r.take n, by simp, h1, DRels.take n h2⟩
theorem DRels.drop : ∀ {ds : List D} {vs : List V} (n : Nat), DRels K ρ H ds vs → DRels K ρ H (ds.drop n) (vs.drop n)
  | _, _, 0, h => by simpa using h
  | [], _, n + 1, h => by cases h; simp [DRels]
  | d :: ds, _, n + 1, h => by
    obtain ⟨v, r, rfl, h1, h2⟩ := h
    simpa using DRels.drop n h2
theorem DRels.set : ∀ {ds : List D} {vs : List V} {d : D} {v : V} (i : Nat), DRel K ρ H d v → DRels K ρ H ds vs → DRels K ρ H (ds.set i d) (vs.set i v)
  | [], _, _, _, _, _, h => by cases h; simp [DRels]
  | d :: ds, _, _, _, 0, hd, h => by
    obtain ⟨v, r, rfl, h1, h2⟩ := h
    exact ⟨_, r, rfl, hd, h2⟩
  | d :: ds, _, _, _, i + 1, hd, h => by
    obtain ⟨v, r, rfl, h1, h2⟩ := h
    exact ⟨v, r.set i _, rfl, h1, DRels.set i hd h2⟩
theorem drels_one {d : D} {v : V} (h : DRel K ρ H d v) : DRels K ρ H [d] [v] := ⟨v, [], rfl, h, rfl⟩
theorem drels_cons {d : D} {v : V} {ds : List D} {vs : List V} (h : DRel K ρ H d v) (t : DRels K ρ H ds vs) : DRels K ρ H (d :: ds) (v :: vs) := ⟨v, vs, rfl, h, t⟩
end

/-- one object -/
def MRel (K : PySem.W.Frag) (ρ : Rho) (H : Hp) (a : Addr) : MO → Prop
  | .lst ds => ∃ xs, H a = some (.lst xs) ∧ DRels K ρ H ds xs
  | .ins C fs => ∃ dx xs, H a = some (.ins (He.ga K C) dx ((fs.map (·.1)).zip xs)) ∧ DRels K ρ H (fs.map (·.2)) xs
  | .dct kvs => (∃ l : List (Key × V), H a = some (.dK l) ∧ kvs.map (·.1) = l.map (fun p => kD p.1) ∧ DRels K ρ H (kvs.map (·.2)) (l.map (·.2))) ∨
      (∃ l : List (List Key × V), H a = some (.dT l) ∧ kvs.map (·.1) = l.map (fun p => D.tup (p.1.map kD)) ∧ DRels K ρ H (kvs.map (·.2)) (l.map (·.2)))
structure Rl (K : PySem.W.Frag) (ρ : Rho) (G : Gs) (H : Hp) : Prop where
  nd : ρ.os.Nodup
  len : G.length = ρ.os.length
  dj : ∀ a ∈ ρ.hd, ¬ a ∈ ρ.os
  hs : ∀ a ∈ ρ.hd, ∃ o, H a = some o
  at_ : ∀ (i : Nat) (o : MO) (a : Addr), G[i]? = some o → ρ.os[i]? = some a → MRel K ρ H a o
def XRel (K : PySem.W.Frag) (ρ : Rho) (H : Hp) (e : Exc) (cls : Value) (dd : Option Addr) : Prop :=
  cls = .ref (He.ga K e.c) ∧ (match e.f with
    | none => dd = none
    | some (x, d) => ∃ a v, dd = some a ∧ ρ.no a ∧ H a = some (.xd [(x, v)]) ∧ DRel K ρ H d v)
theorem XRel.step {K ρ H ρ' H' e cls dd} (s : Step ρ H ρ' H') (h : XRel K ρ H e cls dd) : XRel K ρ' H' e cls dd := by
  refine ⟨h.1, ?_⟩
  have h2 := h.2
  revert h2
  cases e.f with
  | none => exact id
  | some p =>
    rintro ⟨a, v, e1, e2, e3, e4⟩
    exact ⟨a, v, e1, (s.keep _ _ e3 e2).2, (s.keep _ _ e3 e2).1, e4.step s⟩
/-- the slots -/
def SRel (K : PySem.W.Frag) (ρ : Rho) (H : Hp) (ds : Sl) (σ : St) : Prop := ∀ (i : Nat) (d : D), ds[i]? = some (some d) → ∃ v, σ[i]? = some (some v) ∧ DRel K ρ H d v
theorem SRel.grow {K ρ H ρ' H' ds σ} (s : Grow ρ H ρ' H') (h : SRel K ρ H ds σ) : SRel K ρ' H' ds σ := fun i d e => by
  obtain ⟨v, e1, e2⟩ := h i d e
  exact ⟨v, e1, e2.grow s⟩
theorem SRel.step {K ρ H ρ' H' ds σ} (s : Step ρ H ρ' H') (h : SRel K ρ H ds σ) : SRel K ρ' H' ds σ := h.grow s.g
theorem SRel.set {K ρ H} {ds : Sl} {σ : St} {d : D} {v : V} (hl : ds.length ≤ σ.length) (i : Nat) (h : SRel K ρ H ds σ) (r : DRel K ρ H d v) : SRel K ρ H (ds.set i (some d)) (σ.set i (some v)) := fun j e hj => by
  by_cases q : j = i
  · subst q
    have hlt : j < ds.length := by
      have := (List.getElem?_eq_some_iff.mp hj).1
      simpa using this
    rw [List.getElem?_set_self hlt] at hj
    cases hj
    refine ⟨v, ?_, r⟩
    rw [List.getElem?_set_self (by omega)]
  · rw [List.getElem?_set_ne (Ne.symm q)] at hj
    obtain ⟨u, e1, e2⟩ := h j e hj
    exact ⟨u, by rw [List.getElem?_set_ne (Ne.symm q)]; exact e1, e2⟩

/-! ### readings out of code -/
/-- what is wanted of exceptions; slots that are known by their value; what else is known -/
structure Wq where
  w : WX
  fx : List (Nat × V)
  iv : Rho → Hp → Prop
  st : ∀ ρ H ρ' H', Step ρ H ρ' H' → iv ρ H → iv ρ' H'
structure Lk (W : Wq) (ρ : Rho) (H : Hp) (ds : Sl) (σ : St) : Prop where
  len : ds.length = σ.length
  fx : ∀ p ∈ W.fx, σ[p.1]? = some (some p.2)
  iv : W.iv ρ H
theorem Lk.step {W ρ H ρ' H' ds σ} (s : Step ρ H ρ' H') (h : Lk W ρ H ds σ) : Lk W ρ' H' ds σ := ⟨h.len, h.fx, W.st _ _ _ _ s h.iv⟩
theorem Lk.set {W ρ H ds σ} {i : Nat} {d : D} {v : V} (hf : ∀ p ∈ W.fx, p.1 ≠ i) (h : Lk W ρ H ds σ) : Lk W ρ H (ds.set i (some d)) (σ.set i (some v)) :=
  ⟨by simp [h.len], fun p hp => by rw [List.getElem?_set_ne (Ne.symm (hf p hp))]; exact h.fx p hp, h.iv⟩
section
variable (K : PySem.W.Frag) (W : Wq)
def Pst {α β : Type} (Rel : Rho → Hp → α → β → Prop) (σ : St) (ρ : Rho) (H : Hp) (r : R α) (Q : β → Hp → Prop) : Prop := match r with
  | .ok d G' => ∀ ρ' H' v, Step ρ H ρ' H' → Rl K ρ' G' H' → Rel ρ' H' d v → Q v H'
  | .exc e G' => ∀ ρ' H' c dd, Step ρ H ρ' H' → Rl K ρ' G' H' → XRel K ρ' H' e c dd → W.w c dd σ H'
  | .stuck => False
def LE (m : M D) : TE := fun σ H Q => ∃ ρ G ds, Rl K ρ G H ∧ SRel K ρ H ds σ ∧ Lk W ρ H ds σ ∧ Pst K W (DRel K) σ ρ H (m ds G) Q
def LT (m : M Bool) : TT := fun σ H Q => ∃ ρ G ds, Rl K ρ G H ∧ SRel K ρ H ds σ ∧ Lk W ρ H ds σ ∧ Pst K W (fun _ _ b c => b = c) σ ρ H (m ds G) Q
def LA (m : M (List D)) : TA := fun σ H Q => ∃ ρ G ds, Rl K ρ G H ∧ SRel K ρ H ds σ ∧ Lk W ρ H ds σ ∧ Pst K W (DRels K) σ ρ H (m ds G) Q
def PstS (ρ : Rho) (H : Hp) (n : Nat) (r : RS) (E : Ends) : Prop := match r with
  | .nx ds G => ∀ ρ' H' σ', Step ρ H ρ' H' → Rl K ρ' G H' → SRel K ρ' H' ds σ' → Lk W ρ' H' ds σ' → σ'.length = n → E.nx σ' H'
  | .bk ds G => ∀ ρ' H' σ', Step ρ H ρ' H' → Rl K ρ' G H' → SRel K ρ' H' ds σ' → Lk W ρ' H' ds σ' → σ'.length = n → E.bk σ' H'
  | .ct ds G => ∀ ρ' H' σ', Step ρ H ρ' H' → Rl K ρ' G H' → SRel K ρ' H' ds σ' → Lk W ρ' H' ds σ' → σ'.length = n → E.ct σ' H'
  | .rt d G => ∀ ρ' H' v, Step ρ H ρ' H' → Rl K ρ' G H' → DRel K ρ' H' d v → E.rt v H'
  | .exc e ds G => ∀ ρ' H' σ' c dd, Step ρ H ρ' H' → Rl K ρ' G H' → SRel K ρ' H' ds σ' → Lk W ρ' H' ds σ' → σ'.length = n → XRel K ρ' H' e c dd → W.w c dd σ' H'
  | .stuck => False
def LS (m : MS) : TS := fun E σ H => ∃ ρ G ds, Rl K ρ G H ∧ SRel K ρ H ds σ ∧ Lk W ρ H ds σ ∧ PstS K W ρ H σ.length (m ds G) E
end
/-- what a def's code promises -/
def spM (K : PySem.W.Frag) (n : Nat) (f : FM) : Sp := fun vs H Q E => vs.length = n ∧ ∃ ρ G ds, Rl K ρ G H ∧ DRels K ρ H ds vs ∧ (match f ds G with
  | .ok d G' => ∀ ρ' H' v, Step ρ H ρ' H' → Rl K ρ' G' H' → DRel K ρ' H' d v → Q v H'
  | .exc e G' => ∀ ρ' H' c dd, Step ρ H ρ' H' → Rl K ρ' G' H' → XRel K ρ' H' e c dd → E c dd H'
  | .stuck => False)

section
variable {K : PySem.W.Frag} {W : Wq} {ρ ρ' : Rho} {H H' : Hp}
theorem Pst.step {α β : Type} {Rel : Rho → Hp → α → β → Prop} {σ : St} {r : R α} {Q : β → Hp → Prop} (s : Step ρ H ρ' H') (h : Pst K W Rel σ ρ H r Q) : Pst K W Rel σ ρ' H' r Q := by
  cases r with
  | ok d G => exact fun ρ2 H2 v s2 => h ρ2 H2 v (s.trans s2)
  | exc e G => exact fun ρ2 H2 c dd s2 => h ρ2 H2 c dd (s.trans s2)
  | stuck => exact h
theorem PstS.step {n : Nat} {r : RS} {E : Ends} (s : Step ρ H ρ' H') (h : PstS K W ρ H n r E) : PstS K W ρ' H' n r E := by
  cases r with
  | nx d G => exact fun ρ2 H2 v s2 => h ρ2 H2 v (s.trans s2)
  | bk d G => exact fun ρ2 H2 v s2 => h ρ2 H2 v (s.trans s2)
  | ct d G => exact fun ρ2 H2 v s2 => h ρ2 H2 v (s.trans s2)
  | rt d G => exact fun ρ2 H2 v s2 => h ρ2 H2 v (s.trans s2)
  | exc e ds G => exact fun ρ2 H2 v c dd s2 => h ρ2 H2 v c dd (s.trans s2)
  | stuck => exact h
end

/-! ### the judgements -/
def ME (X : Cx) (W : Wq) (e : Expr) (m : M D) : Prop := PE X e (LE X.K W m)
def MT (X : Cx) (W : Wq) (e : Expr) (m : M Bool) : Prop := PT X e (LT X.K W m)
def MWd (X : Cx) (W : Wq) (e : Expr) (m : M Bool) : Prop := PW X e (LT X.K W m)
def MA (X : Cx) (W : Wq) (es : List Expr) (m : M (List D)) : Prop := PA X es (LA X.K W m)
def MSt (X : Cx) (W : Wq) (st : Stmt) (m : MS) : Prop := PS X st (LS X.K W m)
def MSs (X : Cx) (W : Wq) (sts : List Stmt) (m : MS) : Prop := PSs X sts (LS X.K W m)
theorem _root_.L2.PE.conv {X : Cx} {e : Expr} {t t' : TE} (h : PE X e t) (c : ∀ σ H Q, t' σ H Q → t σ H Q) : PE X e t' := ⟨fun pins s σ H Q I q => h.run pins s σ H Q I (c _ _ _ q)⟩
theorem _root_.L2.PT.conv {X : Cx} {e : Expr} {t t' : TT} (h : PT X e t) (c : ∀ σ H Q, t' σ H Q → t σ H Q) : PT X e t' := ⟨fun pins s σ H Q I q => h.run pins s σ H Q I (c _ _ _ q)⟩
theorem _root_.L2.PW.conv {X : Cx} {e : Expr} {t t' : TT} (h : PW X e t) (c : ∀ σ H Q, t' σ H Q → t σ H Q) : PW X e t' := ⟨fun wh pins s σ H Q I q => h.run wh pins s σ H Q I (c _ _ _ q)⟩
theorem _root_.L2.PA.conv {X : Cx} {e : List Expr} {t t' : TA} (h : PA X e t) (c : ∀ σ H Q, t' σ H Q → t σ H Q) : PA X e t' := ⟨fun pos pins s σ H Q I q => h.run pos pins s σ H Q I (c _ _ _ q)⟩
theorem _root_.L2.PS.conv {X : Cx} {e : Stmt} {t t' : TS} (h : PS X e t) (c : ∀ σ H Q, t' Q σ H → t Q σ H) : PS X e t' := ⟨fun pins s σ H Q I q => h.run pins s σ H Q I (c _ _ _ q)⟩
theorem _root_.L2.PSs.conv {X : Cx} {e : List Stmt} {t t' : TS} (h : PSs X e t) (c : ∀ σ H Q, t' Q σ H → t Q σ H) : PSs X e t' := ⟨fun pins s σ H Q I q => h.run pins s σ H Q I (c _ _ _ q)⟩

/-! ### combinators -/
def ret {α : Type} (a : α) : M α := fun _ G => .ok a G
def bnd {α β : Type} (m : M α) (k : α → M β) : M β := fun ds G => match m ds G with
  | .ok a G1 => k a ds G1
  | .exc e G1 => .exc e G1
  | .stuck => .stuck
def lft {α : Type} (f : Gs → R α) : M α := fun _ G => f G
def rd (i : Nat) : M D := fun ds G => match ds[i]? with
  | some (some d) => .ok d G
  | _ => .stuck
def stk {α : Type} : R α := .stuck
section
variable {X : Cx} {W : Wq}
theorem me_rd {i : Nat} {x : Str} {pos : Pos} (h : PE X (.Name x pos) (tVar i)) : ME X W (.Name x pos) (rd i) := h.conv fun σ H Q ⟨ρ, G, ds, rl, sr, hl, p⟩ => by
  unfold rd at p
  cases e : ds[i]? with
  | none => rw [e] at p; exact p.elim
  | some o =>
    cases o with
    | none => rw [e] at p; exact p.elim
    | some d =>
      rw [e] at p
      obtain ⟨v, e1, e2⟩ := sr i d e
      exact ⟨v, e1, p ρ H v (Step.refl ρ H) rl e2⟩
theorem me_c {e : Expr} {d : D} {v : V} (h : PE X e (tC v)) (hd : ∀ ρ H, DRel X.K ρ H d v) : ME X W e (ret d) := h.conv fun σ H Q ⟨ρ, G, ds, rl, sr, hl, p⟩ => p ρ H v (Step.refl ρ H) rl (hd ρ H)
theorem me_int {i : Int} {j pos} : ME X W (.Constant (.int i) j pos) (ret (.int i)) := me_c pe_int fun _ _ => by simp [DRel]
theorem me_bl {i : Bool} {j pos} : ME X W (.Constant (.bool i) j pos) (ret (.bl i)) := me_c pe_bl fun _ _ => by simp [DRel]
theorem me_non {j pos} : ME X W (.Constant .none j pos) (ret .non) := me_c pe_non fun _ _ => by simp [DRel]
theorem me_str {x : Str} {j pos} : ME X W (.Constant (.str x) j pos) (ret (.str x)) := me_c pe_str fun _ _ => by simp [DRel]
end
end M3
end L2

set_option Elab.async false
set_option linter.all false
set_option maxRecDepth 100000
set_option maxHeartbeats 1000000
/-! M3b: moves of the heap, operators. -/
namespace L2
namespace M3
open PySem PySem.Spec PyProof.Rows

section
variable {K : PySem.W.Frag} {W : Wq} {ρ ρ' : Rho} {H H' : Hp} {G : Gs}
theorem MRel.grow (s : Grow ρ H ρ' H') {a : Addr} (e : H' a = H a) : ∀ {o : MO}, MRel K ρ H a o → MRel K ρ' H' a o
  | .lst ds, h => by
    obtain ⟨xs, h1, h2⟩ := h
    exact ⟨xs, e.trans h1, h2.grow s⟩
  | .ins C fs, h => by
    obtain ⟨dx, xs, h1, h2⟩ := h
    exact ⟨dx, xs, e.trans h1, h2.grow s⟩
  | .dct kvs, h => by
    rcases h with ⟨l, h1, h2, h3⟩ | ⟨l, h1, h2, h3⟩
    · exact .inl ⟨l, e.trans h1, h2, h3.grow s⟩
    · exact .inr ⟨l, e.trans h1, h2, h3.grow s⟩
theorem MRel.step (s : Step ρ H ρ' H') {a : Addr} (e : H' a = H a) {o : MO} (h : MRel K ρ H a o) : MRel K ρ' H' a o := h.grow s.g e
theorem MRel.some : ∀ {o : MO} {a : Addr}, MRel K ρ H a o → ∃ u, H a = some u
  | .lst ds, _, h => let ⟨_, h1, _⟩ := h; ⟨_, h1⟩
  | .ins C fs, _, h => let ⟨_, _, h1, _⟩ := h; ⟨_, h1⟩
  | .dct kvs, _, h => by
    rcases h with ⟨l, h1, h2, h3⟩ | ⟨l, h1, h2, h3⟩
    · exact ⟨_, h1⟩
    · exact ⟨_, h1⟩
theorem Rl.has (rl : Rl K ρ G H) {a : Addr} (h : a ∈ ρ.os) : ∃ u, H a = some u := by
  obtain ⟨i, hi, e⟩ := List.mem_iff_getElem.mp h
  have hg : i < G.length := by rw [rl.len]; exact hi
  exact (rl.at_ i G[i] a (by simp [hg]) (by simp [hi, e])).some
theorem Rl.new (rl : Rl K ρ G H) {p : Addr} (h : H p = none) : ρ.no p := by
  refine ⟨fun q => ?_, fun q => ?_⟩
  · obtain ⟨u, e⟩ := rl.has q
    rw [h] at e
    cases e
  · obtain ⟨u, e⟩ := rl.hs p q
    rw [h] at e
    cases e
theorem Rl.frame (rl : Rl K ρ G H) (s : Step ρ H ρ H') (k : ∀ a ∈ ρ.os, H' a = H a) : Rl K ρ G H' :=
  ⟨rl.nd, rl.len, rl.dj, fun a ha => let ⟨o, e⟩ := rl.hs a ha; ⟨o, (s.kh a ha).trans e⟩, fun i o a h1 h2 => (rl.at_ i o a h1 h2).step s (k a (List.mem_of_getElem? h2))⟩
theorem step_upd (rl : Rl K ρ G H) {p : Addr} {o : HO} (h : H p = none) : Step ρ H ρ (upd H p o) :=
  ⟨⟨[], by simp⟩, rfl, fun a u e n => ⟨by rw [upd_ne (ne_of_none e h)]; exact e, n⟩, fun a ha => upd_ne fun e => (rl.new h).2 (e ▸ ha)⟩
theorem Rl.updN (rl : Rl K ρ G H) {p : Addr} {o : HO} (h : H p = none) : Rl K ρ G (upd H p o) :=
  rl.frame (step_upd rl h) fun a ha => upd_ne fun e => (rl.new h).1 (e ▸ ha)
/-- an object of the list is changed -/
theorem step_write (rl : Rl K ρ G H) {a : Addr} {o : HO} (ha : a ∈ ρ.os) : Step ρ H ρ (upd H a o) :=
  ⟨⟨[], by simp⟩, rfl, fun b u e n => ⟨by rw [upd_ne fun z => n.1 (by rw [z]; exact ha)]; exact e, n⟩, fun b hb => upd_ne fun e => rl.dj b hb (by rw [e]; exact ha)⟩
theorem Rl.write (rl : Rl K ρ G H) {i : Nat} {a : Addr} {o : HO} {m : MO} (hi : ρ.os[i]? = some a) (hm : MRel K ρ (upd H a o) a m) : Rl K ρ (G.set i m) (upd H a o) := by
  have ha : a ∈ ρ.os := List.mem_of_getElem? hi
  have st := step_write (o := o) rl ha
  refine ⟨rl.nd, by simp [rl.len], rl.dj, fun b hb => let ⟨u, e⟩ := rl.hs b hb; ⟨u, (st.kh b hb).trans e⟩, fun j u b h1 h2 => ?_⟩
  by_cases e : j = i
  · subst e
    rw [hi] at h2
    cases h2
    have hl : j < G.length := by rw [rl.len]; exact (List.getElem?_eq_some_iff.mp hi).1
    rw [List.getElem?_set_self hl] at h1
    cases h1
    exact hm
  · rw [List.getElem?_set_ne (Ne.symm e)] at h1
    have nb : b ≠ a := fun z => e (by
      subst z
      obtain ⟨l1, e1⟩ := List.getElem?_eq_some_iff.mp h2
      obtain ⟨l2, e2⟩ := List.getElem?_eq_some_iff.mp hi
      exact (List.getElem_inj rl.nd).mp (e1.trans e2.symm))
    exact (rl.at_ j u b h1 h2).step st (upd_ne nb)
/-- with one object more -/
def Rho.more (ρ : Rho) (p : Addr) : Rho := ⟨ρ.os ++ [p], ρ.hd⟩
theorem step_alloc (rl : Rl K ρ G H) {p : Addr} {o : HO} (h : H p = none) : Step ρ H (ρ.more p) (upd H p o) :=
  ⟨⟨[p], rfl⟩, rfl, fun a u e n => ⟨by rw [upd_ne (ne_of_none e h)]; exact e, by
    refine ⟨?_, n.2⟩
    show ¬ a ∈ ρ.os ++ [p]
    simp only [List.mem_append, List.mem_singleton, not_or]
    exact ⟨n.1, ne_of_none e h⟩⟩, fun a ha => upd_ne fun e => (rl.new h).2 (e ▸ ha)⟩
theorem Rl.alloc (rl : Rl K ρ G H) {p : Addr} {o : HO} {m : MO} (h : H p = none) (hm : MRel K (ρ.more p) (upd H p o) p m) : Rl K (ρ.more p) (G ++ [m]) (upd H p o) := by
  have hp := rl.new h
  have st := step_alloc (o := o) rl h
  refine ⟨?_, ?_, fun b hb => ?_, fun b hb => let ⟨u, e⟩ := rl.hs b hb; ⟨u, (st.kh b hb).trans e⟩, fun j u b h1 h2 => ?_⟩
  · show (ρ.os ++ [p]).Nodup
    rw [List.nodup_append]
    exact ⟨rl.nd, by simp, fun a ha b hb e => hp.1 (by simp at hb; rw [← hb, ← e]; exact ha)⟩
  · show _ = (ρ.os ++ [p]).length
    simp [rl.len]
  · show ¬ b ∈ ρ.os ++ [p]
    simp only [List.mem_append, List.mem_singleton, not_or]
    exact ⟨rl.dj b hb, fun e => hp.2 (e ▸ hb)⟩
  · have h2' : (ρ.os ++ [p])[j]? = some b := h2
    by_cases e : j < ρ.os.length
    · rw [List.getElem?_append_left e] at h2'
      rw [List.getElem?_append_left (by rw [rl.len]; exact e)] at h1
      exact (rl.at_ j u b h1 h2').step st (upd_ne fun z => hp.1 (z ▸ List.mem_of_getElem? h2'))
    · have e2 : j = ρ.os.length := by
        have := (List.getElem?_eq_some_iff.mp h2').1
        simp at this
        omega
      subst e2
      rw [List.getElem?_append_right (Nat.le_refl _)] at h2'
      rw [List.getElem?_append_right (by rw [rl.len]; exact Nat.le_refl _), rl.len] at h1
      simp at h1 h2'
      subst h1 h2'
      exact hm
theorem tup_new {a : Addr} {ds : List D} {xs : List V} (rl : Rl K ρ G H) (h : H a = none) (d : DRels K ρ H ds xs) : DRel K ρ (upd H a (.tup xs)) (.tup ds) (.ref a) :=
  ⟨a, xs, rfl, .inl ⟨rl.new h, .inl upd_same⟩, d.step (step_upd rl h)⟩
theorem tl_new {a : Addr} {ds : List D} {xs : List V} (rl : Rl K ρ G H) (h : H a = none) (d : DRels K ρ H ds xs) : DRel K ρ (upd H a (.lst xs)) (.tl ds) (.ref a) :=
  ⟨a, xs, rfl, ⟨rl.new h, upd_same⟩, d.step (step_upd rl h)⟩

/-! ### going on behind a part -/
theorem le_seq {β δ : Type} {Rb : Rho → Hp → β → δ → Prop} {σ : St} {ds : Sl} {m : M D} {k : D → M β} {Q : δ → Hp → Prop} {Z : VK} (p : Pst K W Rb σ ρ H (bnd m k ds G) Q) (rl : Rl K ρ G H) (sr : SRel K ρ H ds σ) (hl : Lk W ρ H ds σ)
    (h : ∀ v H1 ρ1 G1 a, Step ρ H ρ1 H1 → Rl K ρ1 G1 H1 → SRel K ρ1 H1 ds σ → Lk W ρ1 H1 ds σ → DRel K ρ1 H1 a v → Pst K W Rb σ ρ1 H1 (k a ds G1) Q → Z v H1) : LE K W m σ H Z := by
  refine ⟨ρ, G, ds, rl, sr, hl, ?_⟩
  unfold bnd at p
  revert p
  cases m ds G with
  | ok a G1 => exact fun p ρ1 H1 v s1 r1 d1 => h v H1 ρ1 G1 a s1 r1 (sr.step s1) (hl.step s1) d1 (p.step s1)
  | exc e G1 => exact fun p => p
  | stuck => exact fun p => p
theorem la_seq {β δ : Type} {Rb : Rho → Hp → β → δ → Prop} {σ : St} {ds : Sl} {m : M (List D)} {k : List D → M β} {Q : δ → Hp → Prop} {Z : List V → Hp → Prop} (p : Pst K W Rb σ ρ H (bnd m k ds G) Q) (rl : Rl K ρ G H) (sr : SRel K ρ H ds σ) (hl : Lk W ρ H ds σ)
    (h : ∀ v H1 ρ1 G1 a, Step ρ H ρ1 H1 → Rl K ρ1 G1 H1 → SRel K ρ1 H1 ds σ → Lk W ρ1 H1 ds σ → DRels K ρ1 H1 a v → Pst K W Rb σ ρ1 H1 (k a ds G1) Q → Z v H1) : LA K W m σ H Z := by
  refine ⟨ρ, G, ds, rl, sr, hl, ?_⟩
  unfold bnd at p
  revert p
  cases m ds G with
  | ok a G1 => exact fun p ρ1 H1 v s1 r1 d1 => h v H1 ρ1 G1 a s1 r1 (sr.step s1) (hl.step s1) d1 (p.step s1)
  | exc e G1 => exact fun p => p
  | stuck => exact fun p => p
theorem lt_seq {β δ : Type} {Rb : Rho → Hp → β → δ → Prop} {σ : St} {ds : Sl} {m : M Bool} {k : Bool → M β} {Q : δ → Hp → Prop} {Z : Bool → Hp → Prop} (p : Pst K W Rb σ ρ H (bnd m k ds G) Q) (rl : Rl K ρ G H) (sr : SRel K ρ H ds σ) (hl : Lk W ρ H ds σ)
    (h : ∀ b H1 ρ1 G1, Step ρ H ρ1 H1 → Rl K ρ1 G1 H1 → SRel K ρ1 H1 ds σ → Lk W ρ1 H1 ds σ → Pst K W Rb σ ρ1 H1 (k b ds G1) Q → Z b H1) : LT K W m σ H Z := by
  refine ⟨ρ, G, ds, rl, sr, hl, ?_⟩
  unfold bnd at p
  revert p
  cases m ds G with
  | ok a G1 =>
    intro p ρ1 H1 v s1 r1 d1
    obtain rfl : a = v := d1
    exact h a H1 ρ1 G1 s1 r1 (sr.step s1) (hl.step s1) (p.step s1)
  | exc e G1 => exact fun p => p
  | stuck => exact fun p => p
end

/-! ### operators by values -/
/-- a pure answer -/
def lo {α : Type} (f : Gs → Option α) : M α := fun _ G => match f G with
  | some d => .ok d G
  | none => .stuck
theorem lo_inv {K W α β} {Rel : Rho → Hp → α → β → Prop} {σ ρ H} {f : Gs → Option α} {ds G} {Q : β → Hp → Prop} (p : Pst K W Rel σ ρ H (lo f ds G) Q) :
    ∃ d, f G = some d ∧ ∀ ρ' H' v, Step ρ H ρ' H' → Rl K ρ' G H' → Rel ρ' H' d v → Q v H' := by
  unfold lo at p
  revert p
  cases f G with
  | none => exact False.elim
  | some d => exact fun p => ⟨d, rfl, p⟩
/-- what a rule for two values is to do -/
def rO (K : PySem.W.Frag) (f : D → D → Gs → Option D) : R2 := fun x y H Q => ∃ ρ G a b d, Rl K ρ G H ∧ DRel K ρ H a x ∧ DRel K ρ H b y ∧ f a b G = some d ∧
  ∀ ρ' H' v, Step ρ H ρ' H' → Rl K ρ' G H' → DRel K ρ' H' d v → Q v H'
def rF (K : PySem.W.Frag) (f : List D → Gs → Option D) : List V → Hp → VK → Prop := fun xs H Q => ∃ ρ G as d, Rl K ρ G H ∧ DRels K ρ H as xs ∧ f as G = some d ∧
  ∀ ρ' H' v, Step ρ H ρ' H' → Rl K ρ' G H' → DRel K ρ' H' d v → Q v H'
section
variable {X : Cx} {W : Wq} {a b e : Expr} {es : List Expr} {pos p : Pos} {ma mb : M D}
theorem me_bin {op : Operator} {f : D → D → Gs → Option D} (ho : OpR X (binaryOp op) (rO X.K f)) (ha : ME X W a ma) (hb : ME X W b mb) :
    ME X W (.BinOp a op b pos) (bnd ma fun x => bnd mb fun y => lo (f x y)) := (pe_op ho ha hb).conv fun σ H Q ⟨ρ, G, ds, rl, sr, hl, p⟩ => by
  refine le_seq p rl sr hl fun x H1 ρ1 G1 c s1 r1 sr1 hl1 d1 p1 => ?_
  refine le_seq p1 r1 sr1 hl1 fun y H2 ρ2 G2 d s2 r2 sr2 hl2 d2 p2 => ?_
  obtain ⟨d', e, q⟩ := lo_inv p2
  exact ⟨ρ2, G2, c, d, d', r2, d1.step s2, d2, e, q⟩
theorem me_cmp {op : CmpOp} {f : D → D → Gs → Option D} (ho : OpR X (compareOp op) (rO X.K f)) (ha : ME X W a ma) (hb : ME X W b mb) (hm : behindInMarks op b = false) :
    ME X W (.Compare a [op] [b] pos) (bnd ma fun x => bnd mb fun y => lo (f x y)) := (pe_cmpR ho ha hb hm).conv fun σ H Q ⟨ρ, G, ds, rl, sr, hl, p⟩ => by
  refine le_seq p rl sr hl fun x H1 ρ1 G1 c s1 r1 sr1 hl1 d1 p1 => ?_
  refine le_seq p1 r1 sr1 hl1 fun y H2 ρ2 G2 d s2 r2 sr2 hl2 d2 p2 => ?_
  obtain ⟨d', e, q⟩ := lo_inv p2
  exact ⟨ρ2, G2, c, d, d', r2, d1.step s2, d2, e, q⟩
/-- a bool told -/
def tb (d : D) : Gs → Option Bool := fun _ => match d with
  | .bl b => some b
  | _ => none
theorem bl_inv {K ρ H} {d : D} {v : V} {b : Bool} {G : Gs} (h : tb d G = some b) (r : DRel K ρ H d v) : d = .bl b ∧ v = .bl b := by
  unfold tb at h
  cases d with
  | bl c =>
    have e : c = b := Option.some.inj h
    subst e
    exact ⟨rfl, r⟩
  | _ => cases h
/-- a value that is a bool, as a test -/
theorem mt_val (h : ME X W e ma) (he : ∀ whole, isTrue e X.env whole = (do let v ← whole; standAt e.pos; holding [v] (truthy v)) := by intro _; rfl) : MT X W e (bnd ma fun d => lo (tb d)) := (pt_val h he).conv fun σ H Q ⟨ρ, G, ds, rl, sr, hl, p⟩ => by
  refine le_seq p rl sr hl fun x H1 ρ1 G1 c s1 r1 sr1 hl1 d1 p1 => ?_
  obtain ⟨d', e, q⟩ := lo_inv p1
  obtain ⟨rfl, rfl⟩ := bl_inv e d1
  exact ⟨d', rfl, q ρ1 H1 d' (Step.refl _ _) r1 rfl⟩
theorem mt_cmp {op : CmpOp} {f : D → D → Gs → Option D} (ho : OpR X (compareOp op) (rO X.K f)) (ha : ME X W a ma) (hb : ME X W b mb) (hm : behindInMarks op b = false) :
    MT X W (.Compare a [op] [b] pos) (bnd ma fun x => bnd mb fun y => bnd (lo (f x y)) fun d => lo (tb d)) := (pt_cmpR ho ha hb hm).conv fun σ H Q ⟨ρ, G, ds, rl, sr, hl, p⟩ => by
  refine le_seq p rl sr hl fun x H1 ρ1 G1 c s1 r1 sr1 hl1 d1 p1 => ?_
  refine le_seq p1 r1 sr1 hl1 fun y H2 ρ2 G2 d s2 r2 sr2 hl2 d2 p2 => ?_
  have p3 := p2
  unfold bnd lo at p3
  cases q1 : f c d G2 with
  | none =>
    simp only [q1] at p3
    exact p3.elim
  | some d' =>
    simp only [q1] at p3
    refine ⟨ρ2, G2, c, d, d', r2, d1.step s2, d2, q1, fun ρ3 H3 v s3 r3 d3 => ?_⟩
    cases q2 : tb d' G2 with
    | none =>
      simp only [q2] at p3
      exact p3.elim
    | some k =>
      simp only [q2] at p3
      obtain ⟨rfl, rfl⟩ := bl_inv q2 d3
      exact ⟨k, rfl, p3 ρ3 H3 k s3 r3 rfl⟩
theorem pst_test {K : PySem.W.Frag} {σ : St} {ρ : Rho} {H : Hp} {m : M D} {ds : Sl} {G : Gs} {Q : Bool → Hp → Prop} (p : Pst K W (fun _ _ b c => b = c) σ ρ H (bnd m (fun d => lo (tb d)) ds G) Q) : Pst K W (DRel K) σ ρ H (m ds G) (fun x H' => ∃ k, x = V.bl k ∧ Q k H') := by
  unfold bnd at p
  revert p
  cases m ds G with
  | ok d G1 =>
    intro p ρ' H' v s r dd
    obtain ⟨k, e, z⟩ := lo_inv p
    obtain ⟨rfl, rfl⟩ := bl_inv e dd
    exact ⟨k, rfl, z ρ' H' k s r rfl⟩
  | exc e G1 => exact id
  | stuck => exact id
theorem ite_eq_T {c : Bool} {A B : Prop} (h : c = true) (x : A) : if c = true then A else B := by rw [if_pos h]; exact x
theorem ite_eq_F {c : Bool} {A B : Prop} (h : c = false) (x : B) : if c = true then A else B := by rw [h, if_neg Bool.false_ne_true]; exact x
/-- chains -/
def chn (f g : D → D → Gs → Option D) (x y : D) (mc : M D) : M D := bnd (lo (f x y)) fun r => bnd (lo (tb r)) fun k => if k = true then bnd mc fun z => lo (g y z) else ret (.bl false)
theorem chn_seq {K : PySem.W.Frag} {f g : D → D → Gs → Option D} {c d : D} {mc : M D} {σ : St} {ρ : Rho} {H2 : Hp} {ds : Sl} {G2 : Gs} {Q : VK} (p : Pst K W (DRel K) σ ρ H2 (chn f g c d mc ds G2) Q) :
    ∃ k, f c d G2 = some (.bl k) ∧ (if k = true then Pst K W (DRel K) σ ρ H2 (bnd mc (fun z => lo (g d z)) ds G2) Q else ∀ ρ' H' v, Step ρ H2 ρ' H' → Rl K ρ' G2 H' → DRel K ρ' H' (.bl false) v → Q v H') := by
  unfold chn at p
  unfold bnd at p
  unfold lo at p
  cases q1 : f c d G2 with
  | none => simp only [q1] at p; exact p.elim
  | some d' =>
    simp only [q1] at p
    cases d' with
    | bl k =>
      simp only [tb] at p
      cases k with
      | true => exact ⟨true, rfl, by simpa [lo, bnd] using p⟩
      | false => exact ⟨false, rfl, by simpa [ret, Pst] using p⟩
    | _ => simp only [tb] at p; exact p.elim
theorem me_chain {c : Expr} {mc : M D} {op op' : CmpOp} {f g : D → D → Gs → Option D} (ho : OpR X (compareOp op) (rO X.K f)) (ho' : OpR X (compareOp op') (rO X.K g)) (ha : ME X W a ma) (hb : ME X W b mb) (hc : ME X W c mc)
    (hm : lastMarks [op, op'] [b, c] = false := by with_unfolding_all rfl) : ME X W (.Compare a [op, op'] [b, c] pos) (bnd ma fun x => bnd mb fun y => chn f g x y mc) := (pe_chain ho ho' ha hb hc hm).conv fun σ H Q ⟨ρ, G, ds, rl, sr, hl, p⟩ => by
  refine le_seq p rl sr hl fun x H1 ρ1 G1 c s1 r1 sr1 hl1 d1 p1 => ?_
  refine le_seq p1 r1 sr1 hl1 fun y H2 ρ2 G2 d s2 r2 sr2 hl2 d2 p2 => ?_
  obtain ⟨k, e, q⟩ := chn_seq p2
  refine ⟨ρ2, G2, c, d, .bl k, r2, d1.step s2, d2, e, fun ρ3 H3 v s3 r3 d3 => ⟨k, d3, ?_⟩⟩
  cases k with
  | true =>
    rw [if_pos rfl] at q ⊢
    refine le_seq (q.step s3) r3 (sr2.step s3) (hl2.step s3) fun z H4 ρ4 G4 c' s4 r4 sr4 hl4 d4 p4 => ?_
    obtain ⟨d', e', q'⟩ := lo_inv p4
    exact ⟨ρ4, G4, d, c', d', r4, (d2.step s3).step s4, d4, e', q'⟩
  | false =>
    rw [if_neg Bool.false_ne_true] at q ⊢
    exact q ρ3 H3 _ s3 r3 rfl
theorem mt_chain {c : Expr} {mc : M D} {op op' : CmpOp} {f g : D → D → Gs → Option D} (ho : OpR X (compareOp op) (rO X.K f)) (ho' : OpR X (compareOp op') (rO X.K g)) (ha : ME X W a ma) (hb : ME X W b mb) (hc : ME X W c mc)
    (hm : lastMarks [op, op'] [b, c] = false := by with_unfolding_all rfl) : MT X W (.Compare a [op, op'] [b, c] pos) (bnd (bnd ma fun x => bnd mb fun y => chn f g x y mc) fun d => lo (tb d)) := (pt_chain ho ho' ha hb hc hm).conv fun σ H Q ⟨ρ, G, ds, rl, sr, hl, p⟩ => by
  have p' := pst_test p
  clear p
  refine le_seq p' rl sr hl fun x H1 ρ1 G1 c s1 r1 sr1 hl1 d1 p1 => ?_
  refine le_seq p1 r1 sr1 hl1 fun y H2 ρ2 G2 d s2 r2 sr2 hl2 d2 p2 => ?_
  obtain ⟨k, e, q⟩ := chn_seq p2
  refine ⟨ρ2, G2, c, d, .bl k, r2, d1.step s2, d2, e, fun ρ3 H3 v s3 r3 d3 => ⟨k, d3, ?_⟩⟩
  cases k with
  | true =>
    rw [if_pos rfl] at q ⊢
    refine le_seq (q.step s3) r3 (sr2.step s3) (hl2.step s3) fun z H4 ρ4 G4 c' s4 r4 sr4 hl4 d4 p4 => ?_
    obtain ⟨d', e', q'⟩ := lo_inv p4
    exact ⟨ρ4, G4, d, c', d', r4, (d2.step s3).step s4, d4, e', q'⟩
  | false =>
    rw [if_neg Bool.false_ne_true] at q ⊢
    exact q ρ3 H3 _ s3 r3 rfl
/-! tests joined -/
variable {ta tb' : M Bool} {rest : List Expr} {A B : Expr}
theorem mw_and1 (ha : MT X W A ta) : MWd X W (.BoolOp .And [A] pos) ta := pw_and1 ha
theorem mw_or1 (ha : MT X W A ta) : MWd X W (.BoolOp .Or [A] pos) ta := pw_or1 ha
theorem mw_and (ha : MT X W A ta) (hb : MWd X W (.BoolOp .And (B :: rest) pos) tb') : MWd X W (.BoolOp .And (A :: B :: rest) pos) (bnd ta fun k => if k = true then tb' else ret false) := (pw_and ha hb).conv fun σ H Q ⟨ρ, G, ds, rl, sr, hl, p⟩ => by
  refine lt_seq p rl sr hl fun k H1 ρ1 G1 s1 r1 sr1 hl1 p1 => ?_
  cases k with
  | true => exact ⟨ρ1, G1, ds, r1, sr1, hl1, p1⟩
  | false => exact p1 ρ1 H1 false (Step.refl _ _) r1 rfl
theorem mw_or (ha : MT X W A ta) (hb : MWd X W (.BoolOp .Or (B :: rest) pos) tb') : MWd X W (.BoolOp .Or (A :: B :: rest) pos) (bnd ta fun k => if k = true then ret true else tb') := (pw_or ha hb).conv fun σ H Q ⟨ρ, G, ds, rl, sr, hl, p⟩ => by
  refine lt_seq p rl sr hl fun k H1 ρ1 G1 s1 r1 sr1 hl1 p1 => ?_
  cases k with
  | true => exact p1 ρ1 H1 true (Step.refl _ _) r1 rfl
  | false => exact ⟨ρ1, G1, ds, r1, sr1, hl1, p1⟩
theorem mt_w (h : MWd X W A ta) : MT X W A ta := PW.pt h
theorem mt_not (ha : MT X W A ta) : MT X W (.UnaryOp .Not A pos) (bnd ta fun k => ret (!k)) := (pt_not ha).conv fun σ H Q ⟨ρ, G, ds, rl, sr, hl, p⟩ =>
  lt_seq p rl sr hl fun k H1 ρ1 G1 s1 r1 sr1 hl1 p1 => p1 ρ1 H1 (!k) (Step.refl _ _) r1 rfl
/-! .. as values -/
theorem me_one {op} (h : ME X W a ma) : ME X W (.BoolOp op [a] pos) ma := pe_one h
theorem me_and (ha : ME X W a ma) (hb : ME X W (.BoolOp .And (b :: rest) pos) mb) : ME X W (.BoolOp .And (a :: b :: rest) pos) (bnd ma fun x => bnd (lo (tb x)) fun k => if k = true then mb else ret (.bl false)) := (pe_and ha hb).conv fun σ H Q ⟨ρ, G, ds, rl, sr, hl, p⟩ => by
  refine le_seq p rl sr hl fun x H1 ρ1 G1 c s1 r1 sr1 hl1 d1 p1 => ?_
  unfold bnd lo at p1
  cases q1 : tb c G1 with
  | none => simp only [q1] at p1; exact p1.elim
  | some k =>
    simp only [q1] at p1
    obtain ⟨rfl, rfl⟩ := bl_inv q1 d1
    refine ⟨k, rfl, ?_⟩
    cases k with
    | true => rw [if_pos rfl]; exact ⟨ρ1, G1, ds, r1, sr1, hl1, p1⟩
    | false => rw [if_neg Bool.false_ne_true]; exact p1 ρ1 H1 _ (Step.refl _ _) r1 rfl
theorem me_or (ha : ME X W a ma) (hb : ME X W (.BoolOp .Or (b :: rest) pos) mb) : ME X W (.BoolOp .Or (a :: b :: rest) pos) (bnd ma fun x => bnd (lo (tb x)) fun k => if k = true then ret (.bl true) else mb) := (pe_or ha hb).conv fun σ H Q ⟨ρ, G, ds, rl, sr, hl, p⟩ => by
  refine le_seq p rl sr hl fun x H1 ρ1 G1 c s1 r1 sr1 hl1 d1 p1 => ?_
  unfold bnd lo at p1
  cases q1 : tb c G1 with
  | none => simp only [q1] at p1; exact p1.elim
  | some k =>
    simp only [q1] at p1
    obtain ⟨rfl, rfl⟩ := bl_inv q1 d1
    refine ⟨k, rfl, ?_⟩
    cases k with
    | true => rw [if_pos rfl]; exact p1 ρ1 H1 _ (Step.refl _ _) r1 rfl
    | false => rw [if_neg Bool.false_ne_true]; exact ⟨ρ1, G1, ds, r1, sr1, hl1, p1⟩
theorem me_not (ha : ME X W a ma) : ME X W (.UnaryOp .Not a pos) (bnd ma fun x => bnd (lo (tb x)) fun k => ret (.bl (!k))) := (pe_not ha).conv fun σ H Q ⟨ρ, G, ds, rl, sr, hl, p⟩ => by
  refine le_seq p rl sr hl fun x H1 ρ1 G1 c s1 r1 sr1 hl1 d1 p1 => ?_
  unfold bnd lo at p1
  cases q1 : tb c G1 with
  | none => simp only [q1] at p1; exact p1.elim
  | some k =>
    simp only [q1] at p1
    obtain ⟨rfl, rfl⟩ := bl_inv q1 d1
    exact ⟨k, rfl, p1 ρ1 H1 _ (Step.refl _ _) r1 rfl⟩
theorem me_if {c : Expr} {tc : M Bool} (hc : MT X W c tc) (ha : ME X W a ma) (hb : ME X W b mb) : ME X W (.IfExp c a b pos) (bnd tc fun k => if k = true then ma else mb) := (pe_ifExp hc ha hb).conv fun σ H Q ⟨ρ, G, ds, rl, sr, hl, p⟩ => by
  refine lt_seq p rl sr hl fun k H1 ρ1 G1 s1 r1 sr1 hl1 p1 => ?_
  cases k with
  | true => rw [if_pos rfl] at p1 ⊢; exact ⟨ρ1, G1, ds, r1, sr1, hl1, p1⟩
  | false => rw [if_neg Bool.false_ne_true] at p1 ⊢; exact ⟨ρ1, G1, ds, r1, sr1, hl1, p1⟩
/-! arguments, displays -/
variable {m : M (List D)} {me : M D}
theorem ma_nil : MA X W [] (ret []) := pa_nil.conv fun σ H Q ⟨ρ, G, ds, rl, sr, hl, p⟩ => p ρ H [] (Step.refl _ _) rl rfl
theorem ma_cons (ha : ME X W e me) (hr : MA X W es m) (hs : starEach (e :: es) X.env = (false, eval e X.env) :: starEach es X.env := by rfl) : MA X W (e :: es) (bnd me fun d => bnd m fun ds => ret (d :: ds)) := (pa_cons ha hr hs).conv fun σ H Q ⟨ρ, G, ds, rl, sr, hl, p⟩ => by
  refine le_seq p rl sr hl fun x H1 ρ1 G1 c s1 r1 sr1 hl1 d1 p1 => ?_
  refine la_seq p1 r1 sr1 hl1 fun y H2 ρ2 G2 d s2 r2 sr2 hl2 d2 p2 => ?_
  exact p2 ρ2 H2 _ (Step.refl _ _) r2 (drels_cons (d1.step s2) d2)
def mkT (ds : List D) : Gs → Option D := fun _ => if ds.length ≤ sizeLine then some (.tup ds) else none
def mkL (ds : List D) : Gs → Option D := fun _ => if ds.length ≤ sizeLine then some (.tl ds) else none
theorem me_tup {x1} (h : MA X W es m) : ME X W (.Tuple es x1 pos) (bnd m fun ds => lo (mkT ds)) := (pe_tup h).conv fun σ H Q ⟨ρ, G, ds, rl, sr, hl, p⟩ => by
  refine la_seq p rl sr hl fun xs H1 ρ1 G1 c s1 r1 sr1 hl1 d1 p1 => ?_
  obtain ⟨d', e, q⟩ := lo_inv p1
  unfold mkT at e
  split at e
  · cases e
    rename_i hz
    exact ⟨by rw [← d1.length]; exact hz, fun a ha => q ρ1 _ _ (step_upd r1 ha) (r1.updN ha) (tup_new r1 ha d1)⟩
  · cases e
theorem me_tl (h : MA X W es m) : ME X W (.List es pos) (bnd m fun ds => lo (mkL ds)) := (pe_lst h).conv fun σ H Q ⟨ρ, G, ds, rl, sr, hl, p⟩ => by
  refine la_seq p rl sr hl fun xs H1 ρ1 G1 c s1 r1 sr1 hl1 d1 p1 => ?_
  obtain ⟨d', e, q⟩ := lo_inv p1
  unfold mkL at e
  split at e
  · cases e
    rename_i hz
    exact ⟨by rw [← d1.length]; exact hz, fun a ha => q ρ1 _ _ (step_upd r1 ha) (r1.updN ha) (tl_new r1 ha d1)⟩
  · cases e
/-- a list display that is to be changed: a new object -/
def newL (ds : List D) : M D := fun _ G => if ds.length ≤ sizeLine then .ok (.obj G.length) (G ++ [.lst ds]) else .stuck
theorem me_lst (h : MA X W es m) : ME X W (.List es pos) (bnd m fun ds => newL ds) := (pe_lst h).conv fun σ H Q ⟨ρ, G, ds, rl, sr, hl, p⟩ => by
  refine la_seq p rl sr hl fun xs H1 ρ1 G1 c s1 r1 sr1 hl1 d1 p1 => ?_
  unfold newL at p1
  split at p1
  · rename_i hz
    refine ⟨by rw [← d1.length]; exact hz, fun a ha => p1 (ρ1.more a) _ _ (step_alloc r1 ha) (r1.alloc ha ⟨xs, upd_same, d1.step (step_alloc r1 ha)⟩) ?_⟩
    refine ⟨a, ?_, rfl⟩
    show (ρ1.os ++ [a])[G1.length]? = _
    rw [r1.len]
    simp
  · exact p1.elim
/-! builtins -/
theorem me_callB {x : Str} {id : String} {f : List D → Gs → Option D} (hc : CallR X (.builtin id) (rF X.K f)) (hg : Gl X x) (hmg : X.mg x = none) (hv : bootBuiltins x = some (.builtin id)) (ha : MA X W (e :: es) m) (hn : x ≠ "__name__" := by decide) (hdb : (x == ("__debug__" : Str)) = false := by decide)
    (he : starEach (e :: es) X.env = (false, eval e X.env) :: starEach es X.env := by rfl) (hpl : (backTo pos (starEach es X.env)).any (·.1) = false := by rfl) : ME X W (.Call (.Name x p) (e :: es) [] pos) (bnd m fun ds => lo (f ds)) := (pe_callB hc hg hmg hv ha hn hdb he hpl).conv fun σ H Q ⟨ρ, G, ds, rl, sr, hl, p⟩ => by
  refine la_seq p rl sr hl fun xs H1 ρ1 G1 c s1 r1 sr1 hl1 d1 p1 => ?_
  obtain ⟨d', e, q⟩ := lo_inv p1
  exact ⟨ρ1, G1, c, d', r1, d1, e, q⟩
theorem me_callTy {x : Str} {T : String} {f : List D → Gs → Option D} (hc : CallR X (.type T) (rF X.K f)) (hg : Gl X x) (hmg : X.mg x = none) (hv : bootBuiltins x = some (.type T)) (ha : MA X W (e :: es) m) (hn : x ≠ "__name__" := by decide) (hdb : (x == ("__debug__" : Str)) = false := by decide)
    (he : starEach (e :: es) X.env = (false, eval e X.env) :: starEach es X.env := by rfl) (hpl : (backTo pos (starEach es X.env)).any (·.1) = false := by rfl) : ME X W (.Call (.Name x p) (e :: es) [] pos) (bnd m fun ds => lo (f ds)) := (pe_callTy hc hg hmg hv ha hn hdb he hpl).conv fun σ H Q ⟨ρ, G, ds, rl, sr, hl, p⟩ => by
  refine la_seq p rl sr hl fun xs H1 ρ1 G1 c s1 r1 sr1 hl1 d1 p1 => ?_
  obtain ⟨d', e, q⟩ := lo_inv p1
  exact ⟨ρ1, G1, c, d', r1, d1, e, q⟩
theorem me_ix {f : D → D → Gs → Option D} (hr : IxR X (rO X.K f)) (ha : ME X W a ma) (hb : ME X W b mb) (hs : PlainIx b) : ME X W (.Subscript a b pos) (bnd ma fun x => bnd mb fun y => lo (f x y)) := (pe_ix hr ha hb hs).conv fun σ H Q ⟨ρ, G, ds, rl, sr, hl, p⟩ => by
  refine le_seq p rl sr hl fun x H1 ρ1 G1 c s1 r1 sr1 hl1 d1 p1 => ?_
  refine le_seq p1 r1 sr1 hl1 fun y H2 ρ2 G2 d s2 r2 sr2 hl2 d2 p2 => ?_
  obtain ⟨d', e, q⟩ := lo_inv p2
  exact ⟨ρ2, G2, c, d, d', r2, d1.step s2, d2, e, q⟩
end
end M3
end L2

set_option Elab.async false
set_option linter.all false
set_option maxRecDepth 100000
set_option maxHeartbeats 2000000
/-! M3c: what operators and built-ins do to data. -/
namespace L2
namespace M3
open PySem PySem.Spec PyProof.Rows

/-! ### reading lists -/
def lstD (G : Gs) : D → Option (List D)
  | .tl ds => some ds
  | .obj i => match G[i]? with
    | some (.lst ds) => some ds
    | _ => none
  | _ => none
/-- a list or a tuple that is read -/
def seqD (G : Gs) : D → Option (List D)
  | .tup ds => some ds
  | .fz ds => some ds
  | d => lstD G d
section
variable {K : PySem.W.Frag} {ρ : Rho} {H : Hp} {G : Gs}
theorem lst_at (rl : Rl K ρ G H) {d : D} {v : V} {ds : List D} (h : lstD G d = some ds) (r : DRel K ρ H d v) : ∃ a xs, v = .ref a ∧ H a = some (.lst xs) ∧ DRels K ρ H ds xs := by
  cases d with
  | tl es =>
    cases h
    obtain ⟨a, xs, e, h1, h2⟩ := r
    exact ⟨a, xs, e, h1.2, h2⟩
  | obj i =>
    obtain ⟨a, h1, e⟩ := r
    unfold lstD at h
    cases q : G[i]? with
    | none => simp only [q] at h; cases h
    | some o =>
      simp only [q] at h
      cases o with
      | lst es =>
        cases h
        obtain ⟨xs, h2, h3⟩ := rl.at_ i _ a q h1
        exact ⟨a, xs, e, h2, h3⟩
      | _ => cases h
  | _ => cases h
theorem seq_at (rl : Rl K ρ G H) {d : D} {v : V} {ds : List D} (h : seqD G d = some ds) (r : DRel K ρ H d v) : ∃ a xs, v = .ref a ∧ (SqL K H a xs ∨ SqT K H a xs) ∧ DRels K ρ H ds xs := by
  have low : ∀ {d : D}, DRel K ρ H d v → lstD G d = some ds → ∃ a xs, v = .ref a ∧ (SqL K H a xs ∨ SqT K H a xs) ∧ DRels K ρ H ds xs := fun r h => by
    obtain ⟨a, xs, e, h1, h2⟩ := lst_at rl h r
    exact ⟨a, xs, e, .inl (.of h1), h2⟩
  cases d with
  | tup es =>
    cases h
    obtain ⟨a, xs, e, h1, h2⟩ := r
    exact ⟨a, xs, e, .inr h1.sq, h2⟩
  | fz es =>
    cases h
    obtain ⟨a, xs, e, h1, h2⟩ := r
    exact ⟨a, xs, e, .inl h1.sq, h2⟩
  | _ => exact low r h
/-- flat data is its value -/
def flat : D → Option V
  | .non => some .non
  | .bl b => some (.bl b)
  | .int i => some (.int i)
  | .str x => some (.str x)
  | _ => none
theorem flat_at {d : D} {v w : V} (h : flat d = some w) (r : DRel K ρ H d v) : v = w ∧ flatV w = true := by
  cases d <;> first | (cases h; exact ⟨r, rfl⟩) | cases h
def intD : D → Option Int
  | .int i => some i
  | _ => none
def blD : D → Option Bool
  | .bl i => some i
  | _ => none
def strD : D → Option Str
  | .str i => some i
  | _ => none
theorem int_at {d : D} {v : V} {i : Int} (h : intD d = some i) (r : DRel K ρ H d v) : v = .int i := by
  cases d <;> first | (cases h; exact r) | cases h
theorem bl_at {d : D} {v : V} {i : Bool} (h : blD d = some i) (r : DRel K ρ H d v) : v = .bl i := by
  cases d <;> first | (cases h; exact r) | cases h
theorem str_at {d : D} {v : V} {i : Str} (h : strD d = some i) (r : DRel K ρ H d v) : v = .str i := by
  cases d <;> first | (cases h; exact r) | cases h
/-- all of them -/
def allOf {α : Type} (f : D → Option α) : List D → Option (List α)
  | [] => some []
  | d :: ds => match f d, allOf f ds with
    | some a, some as => some (a :: as)
    | _, _ => none
theorem all_at {α : Type} {f : D → Option α} {g : α → V} (hf : ∀ {d : D} {v : V} {a : α}, f d = some a → DRel K ρ H d v → v = g a) : ∀ {ds : List D} {vs : List V} {as : List α}, allOf f ds = some as → DRels K ρ H ds vs → vs = as.map g
  | [], _, _, h, r => by cases h; cases r; rfl
  | d :: ds, _, as, h, r => by
    obtain ⟨v, us, rfl, r1, r2⟩ := r
    unfold allOf at h
    cases q : f d with
    | none => simp only [q] at h; cases h
    | some a =>
      cases q2 : allOf f ds with
      | none => simp only [q, q2] at h; cases h
      | some bs =>
        simp only [q, q2] at h
        cases h
        rw [hf q r1, all_at hf q2 r2]
        rfl
theorem drels_map {α : Type} {f : α → D} {g : α → V} (h : ∀ a, DRel K ρ H (f a) (g a)) : ∀ as : List α, DRels K ρ H (as.map f) (as.map g)
  | [] => rfl
  | a :: as => ⟨_, _, rfl, h a, drels_map h as⟩
end

/-! ### arithmetic -/
def i2 (f : Int → Int → Option D) : D → D → Gs → Option D := fun x y _ => match x, y with
  | .int i, .int j => f i j
  | _, _ => none
def addD : D → D → Gs → Option D := fun x y G => match x, y with
  | .int i, .int j => some (.int (i + j))
  | .str a, .str b => if a.length + b.length ≤ sizeLine then some (.str (a ++ b)) else none
  | .tup a, .tup b => if a.length + b.length ≤ sizeLine then some (.tup (a ++ b)) else none
  | x, y => match lstD G x, lstD G y with
    | some a, some b => if a.length + b.length ≤ sizeLine then some (.tl (a ++ b)) else none
    | _, _ => none
def subD := i2 fun i j => some (.int (i - j))
def mulI (i j : Int) : Option D := if i.natAbs < 2 ^ 64 ∨ j.natAbs < 2 ^ 64 ∨ i.natAbs.log2 + j.natAbs.log2 < 1000000 then some (.int (i * j)) else none
def mulD : D → D → Gs → Option D := fun x y G => match x, y with
  | .int i, .int j => mulI i j
  | .tup a, .int k => if a ≠ [] ∧ 2 ≤ k ∧ k ≤ 1000 ∧ a.length ≤ 1000 then some (.tup (List.replicate k.toNat a).flatten) else none
  | x, .int k => match lstD G x with
    | some a => if -(2 ^ 63) ≤ k ∧ k < 2 ^ 63 ∧ a.length * k.toNat ≤ sizeLine then some (.tl (List.replicate k.toNat a).flatten) else none
    | none => none
  | _, _ => none
def fdivD := i2 fun i j => if 0 < j ∧ j.natAbs.log2 < 9000 then some (.int (i / j)) else none
def modD := i2 fun i j => if 0 < j then some (.int (i % j)) else none
def powD := i2 fun i j => if 0 ≤ j ∧ j ≤ 1000000 ∧ i.natAbs < 2 ^ 64 then some (.int (i ^ j.toNat)) else none
def negD : D → Gs → Option D := fun x _ => match x with
  | .int i => some (.int (-i))
  | _ => none
section
variable {X : Cx}
theorem i2_ok {f : Value → Value → Sem Value} {g : Int → Int → Option D} (h : ∀ {pins : List (Addr × Obj)} {s : Shared} {σ : St} {H : Hp} {i j : Int} {v u : Value} {Q : VK} {d : D}, Inv X pins σ H s → RelV (.int i) v → RelV (.int j) u → g i j = some d →
    (∀ w, (∀ K ρ, DRel K ρ H d w) → Q w H) → wpAny (model X.prog X.w) X.A (f v u) (EP X pins σ Q) X.xe s) : OpR X f (rO X.K (i2 g)) := by
  intro pins s σ H x y v u Q I rx ry ⟨ρ, G, a, b, d, rl, ha, hb, e, q⟩
  unfold i2 at e
  split at e
  · obtain rfl : x = _ := ha
    obtain rfl : y = _ := hb
    exact h I rx ry e fun w hw => q ρ H w (Step.refl _ _) rl (hw _ _)
  · cases e
theorem opSub : OpR X (binaryOp .Sub) (rO X.K subD) := i2_ok fun I r1 r2 e q => by
  cases e
  exact op_sub _ _ _ _ _ _ _ _ _ I r1 r2 ⟨_, _, rfl, rfl, q _ fun _ _ => rfl⟩
theorem opFdiv : OpR X (binaryOp .FloorDiv) (rO X.K fdivD) := i2_ok fun I r1 r2 e q => by
  split at e
  · cases e
    rename_i h
    exact op_fdivW _ _ _ _ _ _ _ _ _ I r1 r2 ⟨_, _, rfl, rfl, h, q _ fun _ _ => rfl⟩
  · cases e
theorem opMod : OpR X (binaryOp .Mod) (rO X.K modD) := i2_ok fun I r1 r2 e q => by
  split at e
  · cases e
    rename_i h
    exact op_mod _ _ _ _ _ _ _ _ _ I r1 r2 ⟨_, _, rfl, rfl, h, q _ fun _ _ => rfl⟩
  · cases e
theorem opPow : OpR X (binaryOp .Pow) (rO X.K powD) := i2_ok fun I r1 r2 e q => by
  split at e
  · cases e
    rename_i h
    exact op_pow _ _ _ _ _ _ _ _ _ I r1 r2 ⟨_, _, rfl, rfl, h, q _ fun _ _ => rfl⟩
  · cases e
theorem opAdd : OpR X (binaryOp .Add) (rO X.K addD) := by
  intro pins s σ H x y v u Q I rx ry ⟨ρ, G, a, b, d, rl, ha, hb, e, q⟩
  unfold addD at e
  split at e
  · cases e
    obtain rfl : x = _ := ha
    obtain rfl : y = _ := hb
    exact op_add _ _ _ _ _ _ _ _ _ I rx ry ⟨_, _, rfl, rfl, q ρ H _ (Step.refl _ _) rl rfl⟩
  · split at e
    · cases e
      rename_i h
      obtain rfl : x = _ := ha
      obtain rfl : y = _ := hb
      exact op_add_str _ _ _ _ _ _ _ _ _ I rx ry ⟨_, _, rfl, rfl, h, q ρ H _ (Step.refl _ _) rl rfl⟩
    · cases e
  · split at e
    · cases e
      rename_i h
      obtain ⟨p, xs, rfl, h1, h2⟩ := ha
      obtain ⟨p', ys, rfl, h3, h4⟩ := hb
      refine op_catA _ _ _ _ _ _ _ _ _ I rx ry ⟨p, p', xs, ys, rfl, rfl, h1.sq, h3.sq, by rw [← h2.length, ← h4.length]; exact h, fun z => ?_, fun _ z => ?_, fun _ _ c hc => ?_⟩
      · have e0 := h2.length
        rw [z] at e0
        rw [List.length_eq_zero_iff.mp e0] at q
        exact q ρ H _ (Step.refl _ _) rl ⟨p', ys, rfl, h3, h4⟩
      · have e0 := h4.length
        rw [z] at e0
        rw [List.length_eq_zero_iff.mp e0, List.append_nil] at q
        exact q ρ H _ (Step.refl _ _) rl ⟨p, xs, rfl, h1, h2⟩
      · exact q ρ _ _ (step_upd rl hc) (rl.updN hc) (tup_new rl hc (h2.append h4))
    · cases e
  · split at e
    · split at e
      · cases e
        rename_i as bs ea eb h
        obtain ⟨p, xs, rfl, h1, h2⟩ := lst_at rl ea ha
        obtain ⟨p', ys, rfl, h3, h4⟩ := lst_at rl eb hb
        exact op_cat _ _ _ _ _ _ _ _ _ I rx ry ⟨p, p', xs, ys, rfl, rfl, h1, h3, by rw [← h2.length, ← h4.length]; exact h, fun c hc => q ρ _ _ (step_upd rl hc) (rl.updN hc) (tl_new rl hc (h2.append h4))⟩
      · cases e
    · cases e
theorem drels_rep {K : PySem.W.Frag} {ρ : Rho} {H : Hp} {ds : List D} {xs : List V} (h : DRels K ρ H ds xs) : ∀ k : Nat, DRels K ρ H (List.replicate k ds).flatten (List.replicate k xs).flatten
  | 0 => rfl
  | k + 1 => by
    rw [List.replicate_succ, List.replicate_succ, List.flatten_cons, List.flatten_cons]
    exact h.append (drels_rep h k)
theorem opMul : OpR X (binaryOp .Mult) (rO X.K mulD) := by
  intro pins s σ H x y v u Q I rx ry ⟨ρ, G, a, b, d, rl, ha, hb, e, q⟩
  unfold mulD at e
  split at e
  · unfold mulI at e
    split at e
    · cases e
      rename_i i j h
      obtain rfl : x = _ := ha
      obtain rfl : y = _ := hb
      have fin := q ρ H (.int (i * j)) (Step.refl _ _) rl rfl
      rcases h with h | h | h
      · exact op_mul _ _ _ _ _ _ _ _ _ I rx ry ⟨_, _, rfl, rfl, .inl ⟨by omega, by omega⟩, fin⟩
      · exact op_mul _ _ _ _ _ _ _ _ _ I rx ry ⟨_, _, rfl, rfl, .inr ⟨by omega, by omega⟩, fin⟩
      · exact op_mulW _ _ _ _ _ _ _ _ _ I rx ry ⟨_, _, rfl, rfl, h, fin⟩
    · cases e
  · split at e
    · cases e
      rename_i es k h
      obtain ⟨p, xs, rfl, h1, h2⟩ := ha
      obtain rfl : y = _ := hb
      obtain ⟨n1, n2, n3, n4⟩ := h
      refine op_repT _ _ _ _ _ _ _ _ _ I rx ry ⟨p, k, xs, rfl, rfl, h1.sq, fun z => n1 ?_, n2, n3, by rw [← h2.length]; exact n4, fun c hc => q ρ _ _ (step_upd rl hc) (rl.updN hc) (tup_new rl hc (drels_rep h2 _))⟩
      have e0 := h2.length
      rw [z] at e0
      exact List.length_eq_zero_iff.mp e0
    · cases e
  · split at e
    · split at e
      · cases e
        rename_i k _ _ _ es ea h
        obtain ⟨p, xs, rfl, h1, h2⟩ := lst_at rl ea ha
        obtain rfl : y = _ := hb
        obtain ⟨n1, n2, n3⟩ := h
        exact op_rep _ _ _ _ _ _ _ _ _ I rx ry ⟨p, k, xs, rfl, rfl, h1, n1, n2, by rw [← h2.length]; exact n3, fun c hc => q ρ _ _ (step_upd rl hc) (rl.updN hc) (tl_new rl hc (drels_rep h2 _))⟩
      · cases e
    · cases e
  · cases e
/-- -a -/
theorem me_neg {W : Wq} {a : Expr} {pos : Pos} {ma : M D} (ha : ME X W a ma) : ME X W (.UnaryOp .USub a pos) (bnd ma fun x => lo (negD x)) := (pe_un un_neg ha).conv fun σ H Q ⟨ρ, G, ds, rl, sr, hl, p⟩ => by
  refine le_seq p rl sr hl fun x H1 ρ1 G1 c s1 r1 sr1 hl1 d1 p1 => ?_
  obtain ⟨d', e, q⟩ := lo_inv p1
  unfold negD at e
  split at e
  · cases e
    obtain rfl : x = _ := d1
    exact ⟨_, rfl, q ρ1 H1 _ (Step.refl _ _) r1 rfl⟩
  · cases e

/-! ### comparisons -/
def cI (f : Int → Int → Bool) : D → D → Gs → Option D := i2 fun i j => some (.bl (f i j))
def ltS (a b : Str) : Bool := decide (a.cps.toList < b.cps.toList)
def ltD : D → D → Gs → Option D := cI fun i j => decide (i < j)
def leD : D → D → Gs → Option D := cI fun i j => decide (i ≤ j)
def gtD : D → D → Gs → Option D := cI fun i j => decide (j < i)
def geD : D → D → Gs → Option D := cI fun i j => decide (j ≤ i)
theorem opLt : OpR X (compareOp .Lt) (rO X.K ltD) := i2_ok fun I r1 r2 e q => by
  cases e
  exact op_lt _ _ _ _ _ _ _ _ _ I r1 r2 ⟨_, _, rfl, rfl, q _ fun _ _ => rfl⟩
theorem opLe : OpR X (compareOp .LtE) (rO X.K leD) := i2_ok fun I r1 r2 e q => by
  cases e
  exact op_le _ _ _ _ _ _ _ _ _ I r1 r2 ⟨_, _, rfl, rfl, q _ fun _ _ => rfl⟩
theorem opGt : OpR X (compareOp .Gt) (rO X.K gtD) := i2_ok fun I r1 r2 e q => by
  cases e
  exact op_gt _ _ _ _ _ _ _ _ _ I r1 r2 ⟨_, _, rfl, rfl, q _ fun _ _ => rfl⟩
theorem opGe : OpR X (compareOp .GtE) (rO X.K geD) := i2_ok fun I r1 r2 e q => by
  cases e
  exact op_ge _ _ _ _ _ _ _ _ _ I r1 r2 ⟨_, _, rfl, rfl, q _ fun _ _ => rfl⟩
/-! == of data at any depth -/
mutual
def toPy : D → Option PyData
  | .non => some .none
  | .bl b => some (.bool b)
  | .int i => some (.int i)
  | .str x => some (.str x)
  | .tup ds => match toPys ds with
    | some xs => some (.tuple xs)
    | none => none
  | .tl ds => match toPys ds with
    | some xs => some (.list xs)
    | none => none
  | .fz ds => match toPys ds with
    | some xs => some (.list xs)
    | none => none
  | _ => none
def toPys : List D → Option (List PyData)
  | [] => some []
  | d :: ds => match toPy d, toPys ds with
    | some x, some xs => some (x :: xs)
    | _, _ => none
end
/-- a list of the objects read as data -/
def thaw (G : Gs) (d : D) : D := match lstD G d with
  | some ds => .tl ds
  | none => d
mutual
theorem toPy_at {K : PySem.W.Frag} {ρ : Rho} {H : Hp} : ∀ {d : D} {v : V} {x : PyData}, toPy d = some x → DRel K ρ H d v → Dp K H v x
  | .non, _, _, h, r => by cases h; cases r; exact .non
  | .bl b, _, _, h, r => by cases h; cases r; exact .bl b
  | .int i, _, _, h, r => by cases h; cases r; exact .int i
  | .str x, _, _, h, r => by cases h; cases r; exact .str x
  | .tup ds, _, _, h, r => by
    unfold toPy at h
    split at h
    · cases h
      rename_i q
      obtain ⟨a, xs, rfl, h1, h2⟩ := r
      exact .tup h1.sq (toPys_at q h2)
    · cases h
  | .tl ds, _, _, h, r => by
    unfold toPy at h
    split at h
    · cases h
      rename_i q
      obtain ⟨a, xs, rfl, h1, h2⟩ := r
      exact .lst h1.sq (toPys_at q h2)
    · cases h
  | .fz ds, _, _, h, r => by
    unfold toPy at h
    split at h
    · cases h
      rename_i q
      obtain ⟨a, xs, rfl, h1, h2⟩ := r
      exact .lst h1.sq (toPys_at q h2)
    · cases h
  | .ty _, _, _, h, _ => by simp [toPy] at h
  | .glo _, _, _, h, _ => by simp [toPy] at h
  | .ti .., _, _, h, _ => by simp [toPy] at h
  | .td .., _, _, h, _ => by simp [toPy] at h
  | .obj _, _, _, h, _ => by simp [toPy] at h
theorem toPys_at {K : PySem.W.Frag} {ρ : Rho} {H : Hp} : ∀ {ds : List D} {vs : List V} {xs : List PyData}, toPys ds = some xs → DRels K ρ H ds vs → DpAll K H vs xs
  | [], _, _, h, r => by cases h; cases r; exact .nil
  | d :: ds, _, xs, h, r => by
    obtain ⟨v, us, rfl, r1, r2⟩ := r
    unfold toPys at h
    split at h
    · cases h
      rename_i q1 q2
      exact .cons (toPy_at q1 r1) (toPys_at q2 r2)
    · cases h
end
def eqD : D → D → Gs → Option D := fun x y G => match toPy (thaw G x), toPy (thaw G y) with
  | some a, some b => if SeqAt.shaped a = true ∧ SeqAt.shaped b = true then some (.bl (PyData.eqv a b)) else none
  | _, _ => none
def neD : D → D → Gs → Option D := fun x y G => match toPy (thaw G x), toPy (thaw G y) with
  | some a, some b => if SeqAt.shaped a = true ∧ SeqAt.shaped b = true then some (.bl (!PyData.eqv a b)) else none
  | _, _ => none
theorem thaw_at {K : PySem.W.Frag} {ρ : Rho} {G : Gs} {H : Hp} (rl : Rl K ρ G H) {d : D} {v : V} {x : PyData} (h : toPy (thaw G d) = some x) (r : DRel K ρ H d v) : Dp K H v x := by
  unfold thaw at h
  split at h
  · rename_i ds e
    obtain ⟨a, xs, rfl, h1, h2⟩ := lst_at rl e r
    unfold toPy at h
    split at h
    · cases h
      rename_i q
      exact .lst (.of h1) (toPys_at q h2)
    · cases h
  · exact toPy_at h r
theorem opEq (hu : X.A.units + 64 < cLine) : OpR X (compareOp .Eq) (rO X.K eqD) := by
  intro pins s σ H x y v u Q I rx ry ⟨ρ, G, a, b, d, rl, ha, hb, e, q⟩
  unfold eqD at e
  split at e
  · split at e
    · cases e
      rename_i e1 e2 h
      exact op_eqD hu _ _ _ _ _ _ _ _ _ I rx ry ⟨_, _, thaw_at rl e1 ha, thaw_at rl e2 hb, h.1, h.2, q ρ H _ (Step.refl _ _) rl rfl⟩
    · cases e
  · cases e
theorem opNe (hu : X.A.units + 64 < cLine) : OpR X (compareOp .NotEq) (rO X.K neD) := by
  intro pins s σ H x y v u Q I rx ry ⟨ρ, G, a, b, d, rl, ha, hb, e, q⟩
  unfold neD at e
  split at e
  · split at e
    · cases e
      rename_i e1 e2 h
      exact op_neD hu _ _ _ _ _ _ _ _ _ I rx ry ⟨_, _, thaw_at rl e1 ha, thaw_at rl e2 hb, h.1, h.2, q ρ H _ (Step.refl _ _) rl rfl⟩
    · cases e
  · cases e
/-! x in a list or tuple of flat items; x is None -/
def eqFlat (x y : D) : Bool := match flat x, flat y with
  | some a, some b => eqV b a
  | _, _ => false
def inD (neg : Bool) : D → D → Gs → Option D := fun x y G => match flat x, seqD G y with
  | some a, some ds => (match allOf flat ds with
    | some vs => some (.bl (if neg then !inV a vs else inV a vs))
    | none => none)
  | _, _ => none
theorem flats_at {K : PySem.W.Frag} {ρ : Rho} {H : Hp} : ∀ {ds : List D} {vs as : List V}, allOf flat ds = some as → DRels K ρ H ds vs → vs = as ∧ as.all flatV = true
  | [], _, _, h, r => by cases h; cases r; exact ⟨rfl, rfl⟩
  | d :: ds, _, as, h, r => by
    obtain ⟨v, us, rfl, r1, r2⟩ := r
    unfold allOf at h
    split at h
    · cases h
      rename_i q1 q2
      obtain ⟨rfl, f1⟩ := flat_at q1 r1
      obtain ⟨rfl, f2⟩ := flats_at q2 r2
      exact ⟨rfl, by rw [List.all_cons, f1, f2] <;> rfl⟩
    · cases h
theorem opIn : OpR X (compareOp .In) (rO X.K (inD false)) := by
  intro pins s σ H x y v u Q I rx ry ⟨ρ, G, a, b, d, rl, ha, hb, e, q⟩
  unfold inD at e
  split at e
  · split at e
    · cases e
      rename_i e1 e2 _ _ e3
      obtain ⟨rfl, f1⟩ := flat_at e1 ha
      obtain ⟨p, xs, rfl, h1, h2⟩ := seq_at rl e2 hb
      obtain ⟨rfl, f2⟩ := flats_at e3 h2
      exact op_in_seq _ _ _ _ _ _ _ _ _ I rx ry ⟨p, _, rfl, h1, f1, f2, q ρ H _ (Step.refl _ _) rl rfl⟩
    · cases e
  · cases e
theorem opNotIn : OpR X (compareOp .NotIn) (rO X.K (inD true)) := by
  intro pins s σ H x y v u Q I rx ry ⟨ρ, G, a, b, d, rl, ha, hb, e, q⟩
  unfold inD at e
  split at e
  · split at e
    · cases e
      rename_i e1 e2 _ _ e3
      obtain ⟨rfl, f1⟩ := flat_at e1 ha
      obtain ⟨p, xs, rfl, h1, h2⟩ := seq_at rl e2 hb
      obtain ⟨rfl, f2⟩ := flats_at e3 h2
      exact op_notIn_seq _ _ _ _ _ _ _ _ _ I rx ry ⟨p, _, rfl, h1, f1, f2, q ρ H _ (Step.refl _ _) rl rfl⟩
    · cases e
  · cases e
def isN (d : D) : Bool := match d with
  | .non => true
  | _ => false
def isD : D → D → Gs → Option D := fun x y _ => match y with
  | .non => some (.bl (isN x))
  | _ => none
def isntD : D → D → Gs → Option D := fun x y _ => match y with
  | .non => some (.bl (!isN x))
  | _ => none
theorem isN_at {K : PySem.W.Frag} {ρ : Rho} {H : Hp} {d : D} {v : V} (r : DRel K ρ H d v) : decide (v = .non) = isN d := by
  cases d with
  | non => cases r; rfl
  | bl b => cases r; rfl
  | int i => cases r; rfl
  | str x => cases r; rfl
  | ty n => cases r; rfl
  | glo x => cases r; rfl
  | tup ds => obtain ⟨a, xs, rfl, _⟩ := r; rfl
  | tl ds => obtain ⟨a, xs, rfl, _⟩ := r; rfl
  | fz ds => obtain ⟨a, xs, rfl, _⟩ := r; rfl
  | ti C ks ds => obtain ⟨a, dx, xs, rfl, _⟩ := r; rfl
  | td ks ds => obtain ⟨a, xs, rfl, _⟩ := r; rfl
  | obj i => obtain ⟨a, _, rfl⟩ := r; rfl
theorem opIs : OpR X (compareOp .Is) (rO X.K isD) := by
  intro pins s σ H x y v u Q I rx ry ⟨ρ, G, a, b, d, rl, ha, hb, e, q⟩
  unfold isD at e
  split at e
  · cases e
    obtain rfl : y = _ := hb
    exact op_isN _ _ _ _ _ _ _ _ _ I rx ry ⟨rfl, by rw [isN_at ha]; exact q ρ H _ (Step.refl _ _) rl rfl⟩
  · cases e
theorem opIsnt : OpR X (compareOp .IsNot) (rO X.K isntD) := by
  intro pins s σ H x y v u Q I rx ry ⟨ρ, G, a, b, d, rl, ha, hb, e, q⟩
  unfold isntD at e
  split at e
  · cases e
    obtain rfl : y = _ := hb
    exact op_notN _ _ _ _ _ _ _ _ _ I rx ry ⟨rfl, by rw [isN_at ha]; exact q ρ H _ (Step.refl _ _) rl rfl⟩
  · cases e

/-! ### items -/
def ixD : D → D → Gs → Option D := fun x y G => match seqD G x, y with
  | some ds, .int i => atI ds i
  | _, _ => match x, y with
    | .str z, .int i => if z.length ≤ sizeLine then (atI z.cps.toList i).map fun c => .str ⟨#[c]⟩ else none
    | _, _ => none
theorem atI_rel {K : PySem.W.Frag} {ρ : Rho} {H : Hp} {ds : List D} {vs : List V} {i : Int} {d : D} (r : DRels K ρ H ds vs) (h : atI ds i = some d) : ∃ v, atI vs i = some v ∧ DRel K ρ H d v := by
  unfold atI at h ⊢
  rw [← r.length]
  cases q : ixN ds.length i with
  | none => rw [q] at h; cases h
  | some j =>
    rw [q] at h
    obtain ⟨v, e1, e2⟩ := r.get (i := j) h
    exact ⟨v, e1, e2⟩
theorem ixOk : IxR X (rO X.K ixD) := by
  intro value slice pins s σ H x y v u Q I rx ry ⟨ρ, G, a, b, d, rl, ha, hb, e, q⟩ hs
  unfold ixD at e
  split at e
  · rename_i ds i e1
    obtain rfl : y = _ := hb
    obtain ⟨p, xs, rfl, h1, h2⟩ := seq_at rl e1 ha
    obtain ⟨w, e2, dw⟩ := atI_rel h2 e
    have fin := q ρ H w (Step.refl _ _) rl dw
    rcases h1 with h1 | h1
    · exact ix_list _ _ _ _ _ _ _ _ _ _ _ I rx ry ⟨p, xs, i, w, rfl, rfl, h1, e2, fin⟩ hs
    · exact ix_tup _ _ _ _ _ _ _ _ _ _ _ I rx ry ⟨p, xs, i, w, rfl, rfl, h1, e2, fin⟩ hs
  · split at e
    · split at e
      · rename_i z i _ hz
        obtain rfl : x = _ := ha
        obtain rfl : y = _ := hb
        cases e3 : atI z.cps.toList i with
        | none => rw [e3] at e; cases e
        | some c =>
          rw [e3] at e
          cases e
          exact ix_str _ _ _ _ _ _ _ _ _ _ _ I rx ry ⟨z, i, c, rfl, rfl, hz, e3, q ρ H _ (Step.refl _ _) rl rfl⟩ hs
      · cases e
    · cases e
end
end M3
end L2

set_option Elab.async false
set_option linter.all false
set_option maxRecDepth 100000
set_option maxHeartbeats 2000000
/-! M3d: built-in functions on data. -/
namespace L2
namespace M3
open PySem PySem.Spec PyProof.Rows

/-! ### classes -/
abbrev CT := Sum String Str
def cv (K : PySem.W.Frag) : CT → Value
  | .inl n => .type n
  | .inr C => .ref (He.ga K C)
def tyO : Option MO → Option CT
  | some (.lst _) => some (.inl "list")
  | some (.dct _) => some (.inl "dict")
  | some (.ins C _) => some (.inr C)
  | none => none
def tyC (G : Gs) : D → Option CT
  | .non => some (.inl "NoneType")
  | .bl _ => some (.inl "bool")
  | .int _ => some (.inl "int")
  | .str _ => some (.inl "str")
  | .tup _ => some (.inl "tuple")
  | .tl _ => some (.inl "list")
  | .fz _ => some (.inl "list")
  | .td _ _ => some (.inl "dict")
  | .ti C _ _ => some (.inr C)
  | .obj i => tyO G[i]?
  | _ => none
structure InsF (K : PySem.W.Frag) (C : Addr) : Prop where
  cl : Cls K C
  ha : PySem.W.findIn K (.ref C) "__class__" = some (some (.builtin "object.__class__"))
  hn : PySem.W.specialIn K (.builtin "object.__class__") "__get__" = some (some (.builtin "getset_descriptor.__get__"))
  ht : PySem.W.takesIn K (.builtin "object.__class__") = some true
  hm : PySem.W.mroIn K C (.type "object") = some true
/-- what is known of the program's classes: the table of isinstance, the classes that have instances, their fields; the errors, their fields -/
structure TF where
  kt : CT → CT → Option Bool
  ic : Str → Bool
  nf : Str → Str → Bool
  ec : Str → Bool
  xf : Str → Str → Bool
structure PF (K : PySem.W.Frag) where
  T : TF
  hkt : ∀ a b r, T.kt a b = some r → PySem.W.kitOne K (cv K a) (cv K b) = some r
  hic : ∀ C, T.ic C = true → InsF K (He.ga K C)
def bT : List String := ["NoneType", "bool", "int", "str", "tuple", "list", "dict"]
/-- built-in types among themselves -/
def kt0 : CT → CT → Option Bool
  | .inl a, .inl b => if a ∈ bT ∧ b ∈ bT ∧ b ≠ "NoneType" then some (a == b || (a == "bool" && b == "int")) else none
  | _, _ => none
theorem kt0_ok {K : PySem.W.Frag} : ∀ a b r, kt0 a b = some r → PySem.W.kitOne K (cv K a) (cv K b) = some r := by
  intro a b r h
  cases a with
  | inr C => exact absurd h (by intro z; cases z)
  | inl a =>
    cases b with
    | inr C => exact absurd h (by intro z; cases z)
    | inl b =>
      replace h : (if a ∈ bT ∧ b ∈ bT ∧ b ≠ "NoneType" then some (a == b || (a == "bool" && b == "int")) else none) = some r := h
      split at h
      · rename_i q
        obtain ⟨q1, q2, q3⟩ := q
        cases h
        have key : ∀ a ∈ bT, ∀ b ∈ bT, b ≠ "NoneType" → kitB a b = some (a == b || (a == "bool" && b == "int")) := by decide +kernel
        exact kit_ty (key a q1 b q2 q3)
      · cases h
section
variable {X : Cx} {ρ : Rho} {H : Hp} {G : Gs}
theorem ty_at (F : PF X.K) (rl : Rl X.K ρ G H) {d : D} {v : V} {t : CT} (h : tyC G d = some t) (hi : ∀ C, t = .inr C → F.T.ic C = true) (r : DRel X.K ρ H d v) : TyX X.K H v (cv X.K t) := by
  cases d with
  | non => cases h; cases r; exact .base .non
  | bl b => cases h; cases r; exact .base (.bl b)
  | int i => cases h; cases r; exact .base (.int i)
  | str x => cases h; cases r; exact .base (.str x)
  | tup ds =>
    cases h
    obtain ⟨a, xs, rfl, h1, h2⟩ := r
    rcases h1 with ⟨_, h1 | ⟨o, h1⟩⟩ | ⟨o, its, n, e1, e2, _⟩
    · exact .base (.tup h1)
    · exact .fTuple h1
    · exact .kTuple e1 e2
  | tl ds =>
    cases h
    obtain ⟨a, xs, rfl, h1, h2⟩ := r
    exact .base (.lst h1.2)
  | fz ds =>
    cases h
    obtain ⟨a, xs, rfl, h1, h2⟩ := r
    rcases h1 with ⟨_, h1 | ⟨o, h1⟩⟩ | ⟨o, its, n, e1, e2, _⟩
    · exact .base (.lst h1)
    · exact .base (.frz h1)
    · exact .kList e1 e2
  | td ks ds =>
    cases h
    obtain ⟨a, xs, rfl, _, h1, _⟩ := r
    rcases h1 with ⟨l, e1, _⟩ | ⟨l, e1, _⟩
    · exact .base (.dK e1)
    · exact .base (.dT e1)
  | ti C ks ds =>
    cases h
    obtain ⟨a, dx, xs, rfl, _, h1, _⟩ := r
    have f := F.hic C (hi C rfl)
    exact .base (.ins h1 f.cl f.ha f.hn f.ht f.hm)
  | obj i =>
    obtain ⟨a, h1, rfl⟩ := r
    have h' : tyO G[i]? = some t := h
    cases q : G[i]? with
    | none => rw [q] at h'; cases h'
    | some o =>
      rw [q] at h'
      cases o with
      | lst ds =>
        cases h'
        obtain ⟨xs, h2, _⟩ := rl.at_ i _ a q h1
        exact .base (.lst h2)
      | dct kvs =>
        cases h'
        rcases rl.at_ i _ a q h1 with ⟨l, e1, _⟩ | ⟨l, e1, _⟩
        · exact .base (.dK e1)
        · exact .base (.dT e1)
      | ins C fs =>
        cases h'
        obtain ⟨dx, xs, h2, _⟩ := rl.at_ i _ a q h1
        have f := F.hic C (hi C rfl)
        exact .base (.ins h2 f.cl f.ha f.hn f.ht f.hm)
  | _ => cases h
def clsD : D → Option CT
  | .ty n => some (.inl n)
  | .glo C => some (.inr C)
  | _ => none
theorem clsV_at {K : PySem.W.Frag} {d : D} {v : V} {c : CT} (h : clsD d = some c) (r : DRel K ρ H d v) : ClsV v (cv K c) := by
  cases d with
  | ty n => cases h; cases r; exact .ty n
  | glo C => cases h; cases r; exact .own _
  | _ => cases h
def okT (T : TF) : CT → Bool
  | .inl _ => true
  | .inr C => T.ic C
def isiF (T : TF) : List D → Gs → Option D := fun ds G => match ds with
  | [x, c] => (match tyC G x, clsD c with
    | some t, some u => if okT T t = true then (T.kt t u).map D.bl else none
    | _, _ => none)
  | _ => none
theorem bIsi (F : PF X.K) : CallR X (.builtin "isinstance") (rF X.K (isiF F.T)) := by
  intro pins s σ H vs us Q I rv ⟨ρ, G, as, d, rl, ha, e, q⟩
  unfold isiF at e
  split at e
  · rename_i x c
    obtain ⟨v1, r1, rfl, d1, v2, r2, rfl, d2, e2⟩ := ha
    cases e2
    split at e
    · rename_i t u e1 e2
      split at e
      · rename_i hc
        cases e3 : F.T.kt t u with
        | none => rw [e3] at e; cases e
        | some b =>
          rw [e3] at e
          cases e
          exact call_isi _ _ _ _ _ _ _ I rv ⟨_, _, _, _, b, rfl, clsV_at e2 d2, ty_at F rl e1 (fun C z => by subst z; exact hc) d1, F.hkt _ _ _ e3, q ρ H _ (Step.refl _ _) rl rfl⟩
      · cases e
    · cases e
  · cases e

/-! ### len, int, abs, sum, all, any, tuple, list, sorted, str -/
def lenD : D → Gs → Option Nat := fun d G => match d with
  | .str z => if z.length ≤ sizeLine then some z.length else none
  | d => (seqD G d).map (·.length)
def lenF : List D → Gs → Option D := fun ds G => match ds with
  | [x] => (lenD x G).map fun n => .int n
  | _ => none
theorem bLen : CallR X (.builtin "len") (rF X.K lenF) := by
  intro pins s σ H vs us Q I rv ⟨ρ, G, as, d, rl, ha, e, q⟩
  unfold lenF at e
  split at e
  · rename_i x
    obtain ⟨v1, r1, rfl, d1, e2⟩ := ha
    cases e2
    cases e1 : lenD x G with
    | none => rw [e1] at e; cases e
    | some n =>
      rw [e1] at e
      cases e
      unfold lenD at e1
      split at e1
      · split at e1
        · cases e1
          obtain rfl : v1 = _ := d1
          exact call_len _ _ _ _ _ _ _ I rv ⟨_, _, rfl, ⟨by assumption, rfl⟩, q ρ H _ (Step.refl _ _) rl rfl⟩
        · cases e1
      · cases e3 : seqD G x with
        | none => rw [e3] at e1; cases e1
        | some ds =>
          rw [e3] at e1
          cases e1
          obtain ⟨a, xs, rfl, h1, h2⟩ := seq_at rl e3 d1
          refine call_len_seq _ _ _ _ _ _ _ I rv ⟨a, xs, rfl, h1, ?_⟩
          rw [← h2.length]
          exact q ρ H _ (Step.refl _ _) rl rfl
  · cases e
def int1 (f : Int → Int) : List D → Gs → Option D := fun ds _ => match ds with
  | [.int i] => some (.int (f i))
  | _ => none
def intF : List D → Gs → Option D := fun ds _ => match ds with
  | [.int i] => some (.int i)
  | [.bl k] => some (.int (if k then 1 else 0))
  | _ => none
def absF := int1 fun i => if i < 0 then -i else i
theorem bAbs : CallR X (.builtin "abs") (rF X.K absF) := by
  intro pins s σ H vs us Q I rv ⟨ρ, G, as, d, rl, ha, e, q⟩
  unfold absF int1 at e
  split at e
  · cases e
    obtain ⟨v1, r1, rfl, d1, e2⟩ := ha
    cases e2
    cases d1
    exact call_abs _ _ _ _ _ _ _ I rv ⟨_, rfl, q ρ H _ (Step.refl _ _) rl rfl⟩
  · cases e
theorem bInt : CallR X (.type "int") (rF X.K intF) := by
  intro pins s σ H vs us Q I rv ⟨ρ, G, as, d, rl, ha, e, q⟩
  unfold intF at e
  split at e
  · cases e
    obtain ⟨v1, r1, rfl, d1, e2⟩ := ha
    cases e2
    cases d1
    exact call_int1 _ _ _ _ _ _ _ I rv (.inl ⟨_, rfl, q ρ H _ (Step.refl _ _) rl rfl⟩)
  · cases e
    obtain ⟨v1, r1, rfl, d1, e2⟩ := ha
    cases e2
    cases d1
    exact call_int1 _ _ _ _ _ _ _ I rv (.inr ⟨_, rfl, q ρ H _ (Step.refl _ _) rl rfl⟩)
  · cases e
/-- a list that is read -/
def lsD (G : Gs) : D → Option (List D)
  | .fz ds => some ds
  | d => lstD G d
theorem ls_at {K : PySem.W.Frag} (rl : Rl K ρ G H) {d : D} {v : V} {ds : List D} (h : lsD G d = some ds) (r : DRel K ρ H d v) : ∃ a xs, v = .ref a ∧ SqL K H a xs ∧ DRels K ρ H ds xs := by
  have low : ∀ {d : D}, DRel K ρ H d v → lstD G d = some ds → ∃ a xs, v = .ref a ∧ SqL K H a xs ∧ DRels K ρ H ds xs := fun r h => by
    obtain ⟨a, xs, e, h1, h2⟩ := lst_at rl h r
    exact ⟨a, xs, e, .of h1, h2⟩
  cases d with
  | fz es =>
    cases h
    obtain ⟨a, xs, e, h1, h2⟩ := r
    exact ⟨a, xs, e, h1.sq, h2⟩
  | _ => exact low r h
/-- a list of things that are alike -/
def lsOf {α : Type} (f : D → Option α) (G : Gs) (d : D) : Option (List α) := match lsD G d with
  | some ds => allOf f ds
  | none => none
theorem lsOf_at {α : Type} {f : D → Option α} {g : α → V} {K : PySem.W.Frag} (hf : ∀ {d : D} {v : V} {a : α}, f d = some a → DRel K ρ H d v → v = g a) (rl : Rl K ρ G H) {d : D} {v : V} {as : List α} (h : lsOf f G d = some as) (r : DRel K ρ H d v) :
    ∃ a, v = .ref a ∧ SqL K H a (as.map g) := by
  unfold lsOf at h
  split at h
  · rename_i ds e
    obtain ⟨a, xs, rfl, h1, h2⟩ := ls_at rl e r
    rw [all_at hf h h2] at h1
    exact ⟨a, rfl, h1⟩
  · cases h
def sumF : List D → Gs → Option D := fun ds G => match ds with
  | [x] => (lsOf intD G x).map fun ns => .int ns.sum
  | _ => none
def allF : List D → Gs → Option D := fun ds G => match ds with
  | [x] => (lsOf blD G x).map fun ns => .bl (ns.all id)
  | _ => none
def anyF : List D → Gs → Option D := fun ds G => match ds with
  | [x] => (lsOf blD G x).map fun ns => .bl (ns.any id)
  | _ => none
theorem bSum (hc : X.calm = true) : CallR X (.builtin "sum") (rF X.K sumF) := by
  intro pins s σ H vs us Q I rv ⟨ρ, G, as, d, rl, ha, e, q⟩
  unfold sumF at e
  split at e
  · rename_i x
    obtain ⟨v1, r1, rfl, d1, e2⟩ := ha
    cases e2
    cases e1 : lsOf intD G x with
    | none => rw [e1] at e; cases e
    | some n =>
      rw [e1] at e
      cases e
      obtain ⟨a, rfl, h1⟩ := lsOf_at (fun h r => int_at h r) rl e1 d1
      exact cr_sum hc _ _ _ _ _ _ _ I rv ⟨a, n, rfl, h1, q ρ H _ (Step.refl _ _) rl rfl⟩
  · cases e
theorem bAll (hc : X.calm = true) : CallR X (.builtin "all") (rF X.K allF) := by
  intro pins s σ H vs us Q I rv ⟨ρ, G, as, d, rl, ha, e, q⟩
  unfold allF at e
  split at e
  · rename_i x
    obtain ⟨v1, r1, rfl, d1, e2⟩ := ha
    cases e2
    cases e1 : lsOf blD G x with
    | none => rw [e1] at e; cases e
    | some n =>
      rw [e1] at e
      cases e
      obtain ⟨a, rfl, h1⟩ := lsOf_at (fun h r => bl_at h r) rl e1 d1
      exact cr_all hc _ _ _ _ _ _ _ I rv ⟨a, n, rfl, h1, q ρ H _ (Step.refl _ _) rl rfl⟩
  · cases e
theorem bAny (hc : X.calm = true) : CallR X (.builtin "any") (rF X.K anyF) := by
  intro pins s σ H vs us Q I rv ⟨ρ, G, as, d, rl, ha, e, q⟩
  unfold anyF at e
  split at e
  · rename_i x
    obtain ⟨v1, r1, rfl, d1, e2⟩ := ha
    cases e2
    cases e1 : lsOf blD G x with
    | none => rw [e1] at e; cases e
    | some n =>
      rw [e1] at e
      cases e
      obtain ⟨a, rfl, h1⟩ := lsOf_at (fun h r => bl_at h r) rl e1 d1
      exact cr_any hc _ _ _ _ _ _ _ I rv ⟨a, n, rfl, h1, q ρ H _ (Step.refl _ _) rl rfl⟩
  · cases e
def tupF : List D → Gs → Option D := fun ds G => match ds with
  | [.tup ds] => some (.tup ds)
  | [x] => (lsD G x).map D.tup
  | _ => none
theorem bTup : CallR X (.type "tuple") (rF X.K tupF) := by
  intro pins s σ H vs us Q I rv ⟨ρ, G, as, d, rl, ha, e, q⟩
  unfold tupF at e
  split at e
  · cases e
    obtain ⟨v1, r1, rfl, d1, e2⟩ := ha
    cases e2
    obtain ⟨a, xs, rfl, h1, h2⟩ := d1
    exact call_tuple_of _ _ _ _ _ _ _ I rv ⟨a, xs, rfl, .inr ⟨h1.sq, q ρ H _ (Step.refl _ _) rl ⟨a, xs, rfl, h1, h2⟩⟩⟩
  · rename_i x _
    obtain ⟨v1, r1, rfl, d1, e2⟩ := ha
    cases e2
    cases e1 : lsD G x with
    | none => rw [e1] at e; cases e
    | some n =>
      rw [e1] at e
      cases e
      obtain ⟨a, xs, rfl, h1, h2⟩ := ls_at rl e1 d1
      exact call_tuple_of _ _ _ _ _ _ _ I rv ⟨a, xs, rfl, .inl ⟨h1, fun c hc => q ρ _ _ (step_upd rl hc) (rl.updN hc) (tup_new rl hc h2)⟩⟩
  · cases e
def listF : List D → Gs → Option D := fun ds G => match ds with
  | [x] => (seqD G x).map D.tl
  | _ => none
theorem bList : CallR X (.type "list") (rF X.K listF) := by
  intro pins s σ H vs us Q I rv ⟨ρ, G, as, d, rl, ha, e, q⟩
  unfold listF at e
  split at e
  · rename_i x
    obtain ⟨v1, r1, rfl, d1, e2⟩ := ha
    cases e2
    cases e1 : seqD G x with
    | none => rw [e1] at e; cases e
    | some n =>
      rw [e1] at e
      cases e
      obtain ⟨a, xs, rfl, h1, h2⟩ := seq_at rl e1 d1
      exact call_list_of _ _ _ _ _ _ _ I rv ⟨a, xs, rfl, h1, fun c hc => q ρ _ _ (step_upd rl hc) (rl.updN hc) (tl_new rl hc h2)⟩
  · cases e
/-- the ints sorted: a sort of one's own -/
def insI (i : Int) : List Int → List Int
  | [] => [i]
  | j :: r => if i ≤ j then i :: j :: r else j :: insI i r
def sortI : List Int → List Int
  | [] => []
  | i :: r => insI i (sortI r)
theorem insI_perm (i : Int) : ∀ l : List Int, (insI i l).Perm (i :: l)
  | [] => .refl _
  | j :: r => by
    unfold insI
    split
    · exact .refl _
    · exact ((insI_perm i r).cons j).trans (.swap i j r)
theorem sortI_perm : ∀ l : List Int, (sortI l).Perm l
  | [] => .refl _
  | i :: r => (insI_perm i _).trans ((sortI_perm r).cons i)
theorem insI_sorted (i : Int) : ∀ l : List Int, l.Pairwise (· ≤ ·) → (insI i l).Pairwise (· ≤ ·)
  | [], _ => by simp [insI]
  | j :: r, h => by
    unfold insI
    rw [List.pairwise_cons] at h
    split
    · rename_i c
      rw [List.pairwise_cons]
      refine ⟨fun a ha => ?_, List.pairwise_cons.mpr h⟩
      rcases List.mem_cons.mp ha with rfl | ha
      · exact c
      · exact Int.le_trans c (h.1 a ha)
    · rename_i c
      rw [List.pairwise_cons]
      refine ⟨fun a ha => ?_, insI_sorted i r h.2⟩
      rcases List.mem_cons.mp ((insI_perm i r).mem_iff.mp ha) with rfl | ha
      · omega
      · exact h.1 a ha
theorem sortI_sorted : ∀ l : List Int, (sortI l).Pairwise (· ≤ ·)
  | [] => .nil
  | i :: r => insI_sorted i _ (sortI_sorted r)
theorem sortI_eq {l m : List Int} (hp : m.Perm l) (hs : m.Pairwise (· ≤ ·)) : m = sortI l :=
  (hp.trans (sortI_perm l).symm).eq_of_pairwise (fun a b _ _ h1 h2 => Int.le_antisymm h1 h2) hs (sortI_sorted l)
/-- sorted of a list or a tuple of ints -/
def sortedF : List D → Gs → Option D := fun ds G => match ds with
  | [x] => (lsOf intD G x).map fun ns => .tl ((sortI ns).map D.int)
  | _ => none
theorem bSorted : CallR X (.builtin "sorted") (rF X.K sortedF) := by
  intro pins s σ H vs us Q I rv ⟨ρ, G, as, d, rl, ha, e, q⟩
  unfold sortedF at e
  split at e
  · rename_i x
    obtain ⟨v1, r1, rfl, d1, e2⟩ := ha
    cases e2
    cases e1 : lsOf intD G x with
    | none => rw [e1] at e; cases e
    | some n =>
      rw [e1] at e
      cases e
      obtain ⟨a, rfl, h1⟩ := lsOf_at (fun h r => int_at h r) rl e1 d1
      refine cr_sortedI _ _ _ _ _ _ _ I rv ⟨a, n, rfl, h1, fun m p hp hs hn => ?_⟩
      dsimp only at q
      rw [← sortI_eq hp hs] at q
      exact q ρ _ _ (step_upd rl hn) (rl.updN hn) (tl_new rl hn (drels_map (f := D.int) (g := V.int) (fun _ => rfl) m))
  · cases e
def strF : List D → Gs → Option D := fun ds _ => match ds with
  | [.int i] => if i.natAbs.log2 < 1920 then some (.str (toString i)) else none
  | _ => none
theorem bStr : CallR X (.type "str") (rF X.K strF) := by
  intro pins s σ H vs us Q I rv ⟨ρ, G, as, d, rl, ha, e, q⟩
  unfold strF at e
  split at e
  · split at e
    · cases e
      rename_i h
      obtain ⟨v1, r1, rfl, d1, e2⟩ := ha
      cases e2
      cases d1
      exact call_str_int _ _ _ _ _ _ _ I rv ⟨_, rfl, h, q ρ H _ (Step.refl _ _) rl rfl⟩
    · cases e
  · cases e
def max2F : List D → Gs → Option D := fun ds _ => match ds with
  | [.int i, .int j] => some (.int (if j > i then j else i))
  | _ => none
def min2F : List D → Gs → Option D := fun ds _ => match ds with
  | [.int i, .int j] => some (.int (if j < i then j else i))
  | _ => none
theorem bMax2 (hc : X.calm = true) : CallR X (.builtin "max") (rF X.K max2F) := by
  intro pins s σ H vs us Q I rv ⟨ρ, G, as, d, rl, ha, e, q⟩
  unfold max2F at e
  split at e
  · cases e
    obtain ⟨v1, r1, rfl, d1, v2, r2, rfl, d2, e2⟩ := ha
    cases e2
    cases d1
    cases d2
    exact call_max2 hc _ _ _ _ _ _ _ I rv ⟨_, _, rfl, q ρ H _ (Step.refl _ _) rl rfl⟩
  · cases e
theorem bMin2 (hc : X.calm = true) : CallR X (.builtin "min") (rF X.K min2F) := by
  intro pins s σ H vs us Q I rv ⟨ρ, G, as, d, rl, ha, e, q⟩
  unfold min2F at e
  split at e
  · cases e
    obtain ⟨v1, r1, rfl, d1, v2, r2, rfl, d2, e2⟩ := ha
    cases e2
    cases d1
    cases d2
    exact call_min2 hc _ _ _ _ _ _ _ I rv ⟨_, _, rfl, q ρ H _ (Step.refl _ _) rl rfl⟩
  · cases e

/-! ### slices -/
def cutD (ds : List D) (lo hi : Option Int) : List D := (ds.drop (HT.sIx ds.length 0 lo)).take (HT.sIx ds.length ds.length hi - HT.sIx ds.length 0 lo)
def slD : D → Option Int → Option Int → Gs → Option D := fun x lo hi G => match x with
  | .tup ds => some (.tup (cutD ds lo hi))
  | .str z => if z.length ≤ sizeLine then some (.str (cutS z lo hi)) else none
  | x => (lsD G x).map fun ds => .tl (cutD ds lo hi)
theorem cut_rel {K : PySem.W.Frag} {ds : List D} {xs : List V} (h : DRels K ρ H ds xs) (lo hi : Option Int) : DRels K ρ H (cutD ds lo hi) (cutV xs lo hi) := by
  unfold cutD cutV
  rw [h.length]
  exact (h.drop _).take _
theorem cutD_whole {ds : List D} {lo hi : Option Int} (h1 : HT.sIx ds.length 0 lo = 0) (h2 : HT.sIx ds.length ds.length hi = ds.length) : cutD ds lo hi = ds := by
  unfold cutD
  rw [h1, h2]
  simp
def rS (K : PySem.W.Frag) : V → Option Int → Option Int → Hp → VK → Prop := fun x lo hi H Q => ∃ ρ G a d, Rl K ρ G H ∧ DRel K ρ H a x ∧ slD a lo hi G = some d ∧
  ∀ ρ' H' v, Step ρ H ρ' H' → Rl K ρ' G H' → DRel K ρ' H' d v → Q v H'
theorem slOk : SlR X (rS X.K) := by
  intro pins s σ H x v vl vu lo hi sl Q I rx hs pl pu ⟨ρ, G, a, d, rl, ha, e, q⟩
  unfold slD at e
  split at e
  · cases e
    obtain ⟨p, xs, rfl, h1, h2⟩ := ha
    refine sl_tupA _ _ _ _ _ _ _ _ _ _ _ _ I rx hs pl pu ⟨p, xs, rfl, h1.sq, fun z => ?_, fun z c hc => ?_⟩
    · rw [← h2.length] at z
      rw [cutD_whole z.1 z.2] at q
      exact q ρ H _ (Step.refl _ _) rl ⟨p, xs, rfl, h1, h2⟩
    · exact q ρ _ _ (step_upd rl hc) (rl.updN hc) (tup_new rl hc (cut_rel h2 _ _))
  · split at e
    · cases e
      rename_i hz
      obtain rfl : x = _ := ha
      exact sl_str _ _ _ _ _ _ _ _ _ _ _ _ I rx hs pl pu ⟨_, rfl, hz, q ρ H _ (Step.refl _ _) rl rfl⟩
    · cases e
  · cases e1 : lsD G a with
    | none => rw [e1] at e; cases e
    | some n =>
      rw [e1] at e
      cases e
      obtain ⟨p, xs, rfl, h1, h2⟩ := ls_at rl e1 ha
      exact sl_list _ _ _ _ _ _ _ _ _ _ _ _ I rx hs pl pu ⟨p, xs, rfl, h1, fun c hc => q ρ _ _ (step_upd rl hc) (rl.updN hc) (tl_new rl hc (cut_rel h2 _ _))⟩
def LO (K : PySem.W.Frag) (W : Wq) (m : M (Option Int)) : TO := fun σ H Q => ∃ ρ G ds, Rl K ρ G H ∧ SRel K ρ H ds σ ∧ Lk W ρ H ds σ ∧ Pst K W (fun _ _ b c => b = c) σ ρ H (m ds G) Q
def MO' (X : Cx) (W : Wq) (e : Option Expr) (m : M (Option Int)) : Prop := PO X e (LO X.K W m)
theorem _root_.L2.PO.conv {X : Cx} {e : Option Expr} {t t' : TO} (h : PO X e t) (c : ∀ σ H Q, t' σ H Q → t σ H Q) : PO X e t' := ⟨fun pins s σ H Q I q => h.run pins s σ H Q I (c _ _ _ q)⟩
variable {W : Wq} {e : Expr} {me : M D} {lo' hi' : Option Expr} {ml mh : M (Option Int)} {pos p2 : Pos}
theorem mo_none : MO' X W none (ret none) := po_none.conv fun σ H Q ⟨ρ, G, ds, rl, sr, hl, p⟩ => p ρ H none (Step.refl _ _) rl rfl
def toI (d : D) : Gs → Option (Option Int) := fun _ => (intD d).map some
theorem mo_some (h : ME X W e me) : MO' X W (some e) (bnd me fun d => lo (toI d)) := (po_some h).conv fun σ H Q ⟨ρ, G, ds, rl, sr, hl, p⟩ => by
  refine le_seq p rl sr hl fun x H1 ρ1 G1 c s1 r1 sr1 hl1 d1 p1 => ?_
  obtain ⟨d', e, q⟩ := lo_inv p1
  unfold toI at e
  cases e1 : intD c with
  | none => rw [e1] at e; cases e
  | some i =>
    rw [e1] at e
    cases e
    exact ⟨i, int_at e1 d1, q ρ1 H1 _ (Step.refl _ _) r1 rfl⟩
theorem lo_seq {K : PySem.W.Frag} {β δ : Type} {Rb : Rho → Hp → β → δ → Prop} {σ : St} {ds : Sl} {m : M (Option Int)} {k : Option Int → M β} {Q : δ → Hp → Prop} {Z : Option Int → Hp → Prop} (p : Pst K W Rb σ ρ H (bnd m k ds G) Q) (rl : Rl K ρ G H) (sr : SRel K ρ H ds σ) (hl : Lk W ρ H ds σ)
    (h : ∀ b H1 ρ1 G1, Step ρ H ρ1 H1 → Rl K ρ1 G1 H1 → SRel K ρ1 H1 ds σ → Lk W ρ1 H1 ds σ → Pst K W Rb σ ρ1 H1 (k b ds G1) Q → Z b H1) : LO K W m σ H Z := by
  refine ⟨ρ, G, ds, rl, sr, hl, ?_⟩
  unfold bnd at p
  revert p
  cases m ds G with
  | ok a G1 =>
    intro p ρ1 H1 v s1 r1 d1
    obtain rfl : a = v := d1
    exact h a H1 ρ1 G1 s1 r1 (sr.step s1) (hl.step s1) (p.step s1)
  | exc e G1 => exact fun p => p
  | stuck => exact fun p => p
theorem me_slice (he : ME X W e me) (hl : MO' X W lo' ml) (hu : MO' X W hi' mh) : ME X W (.Subscript e (.Slice lo' hi' none p2) pos) (bnd me fun x => bnd ml fun l => bnd mh fun u => lo (slD x l u)) := (pe_slice slOk he hl hu).conv fun σ H Q ⟨ρ, G, ds, rl, sr, hl, p⟩ => by
  refine le_seq p rl sr hl fun x H1 ρ1 G1 c s1 r1 sr1 hl1 d1 p1 => ?_
  refine lo_seq p1 r1 sr1 hl1 fun l H2 ρ2 G2 s2 r2 sr2 hl2 p2 => ?_
  refine lo_seq p2 r2 sr2 hl2 fun u H3 ρ3 G3 s3 r3 sr3 hl3 p3 => ?_
  obtain ⟨d', e, q⟩ := lo_inv p3
  exact ⟨ρ3, G3, c, d', r3, (d1.step s2).step s3, e, q⟩
end
end M3
end L2

set_option Elab.async false
set_option linter.all false
set_option maxRecDepth 100000
set_option maxHeartbeats 2000000
/-! M3e: statements, loops, comprehensions. -/
namespace L2
namespace M3
open PySem PySem.Spec PyProof.Rows

/-! ### equality of data that can be run -/
mutual
def decD : D → D → Bool
  | .non, .non => true
  | .bl a, .bl b => decide (a = b)
  | .int a, .int b => decide (a = b)
  | .str a, .str b => decide (a = b)
  | .ty a, .ty b => decide (a = b)
  | .glo a, .glo b => decide (a = b)
  | .tup a, .tup b => decDs a b
  | .tl a, .tl b => decDs a b
  | .fz a, .fz b => decDs a b
  | .ti C k a, .ti C' k' b => decide (C = C') && (decide (k = k') && decDs a b)
  | .td k a, .td k' b => decDs k k' && decDs a b
  | .obj i, .obj j => decide (i = j)
  | _, _ => false
def decDs : List D → List D → Bool
  | [], [] => true
  | a :: as, b :: bs => decD a b && decDs as bs
  | _, _ => false
end
mutual
theorem decD_self : ∀ d : D, decD d d = true
  | .non => rfl
  | .bl a => by simp [decD]
  | .int a => by simp [decD]
  | .str a => by simp [decD]
  | .ty a => by simp [decD]
  | .glo a => by simp [decD]
  | .tup a => by simp [decD, decDs_self a]
  | .tl a => by simp [decD, decDs_self a]
  | .fz a => by simp [decD, decDs_self a]
  | .ti C k a => by simp [decD, decDs_self a]
  | .td k a => by simp [decD, decDs_self a, decDs_self k]
  | .obj i => by simp [decD]
theorem decDs_self : ∀ ds : List D, decDs ds ds = true
  | [] => rfl
  | d :: ds => by simp [decDs, decD_self d, decDs_self ds]
end
mutual
theorem decD_eq : ∀ {a b : D}, decD a b = true → a = b
  | .non, b, h => by cases b <;> first | rfl | simp [decD] at h
  | .bl a, b, h => by cases b <;> simp [decD] at h <;> rw [h]
  | .int a, b, h => by cases b <;> simp [decD] at h <;> rw [h]
  | .str a, b, h => by cases b <;> simp [decD] at h <;> rw [h]
  | .ty a, b, h => by cases b <;> simp [decD] at h <;> rw [h]
  | .glo a, b, h => by cases b <;> simp [decD] at h <;> rw [h]
  | .tup a, b, h => by cases b <;> simp [decD] at h <;> rw [decDs_eq h]
  | .tl a, b, h => by cases b <;> simp [decD] at h <;> rw [decDs_eq h]
  | .fz a, b, h => by cases b <;> simp [decD] at h <;> rw [decDs_eq h]
  | .ti C k a, b, h => by cases b <;> simp [decD] at h <;> rw [h.1, h.2.1, decDs_eq h.2.2]
  | .td k a, b, h => by cases b <;> simp [decD] at h <;> rw [decDs_eq h.1, decDs_eq h.2]
  | .obj a, b, h => by cases b <;> simp [decD] at h <;> rw [h]
theorem decDs_eq : ∀ {a b : List D}, decDs a b = true → a = b
  | [], b, h => by cases b <;> first | rfl | simp [decDs] at h
  | d :: ds, b, h => by cases b <;> simp [decDs] at h <;> rw [decD_eq h.1, decDs_eq h.2]
end

/-! ### statements: the moves -/
def bndS {α : Type} (m : M α) (k : α → MS) : MS := fun ds G => match m ds G with
  | .ok a G1 => k a ds G1
  | .exc e G1 => .exc e ds G1
  | .stuck => .stuck
def nxtS : MS := fun ds G => .nx ds G
def retS (d : D) : MS := fun _ G => .rt d G
def setS (i : Nat) (d : D) : MS := fun ds G => .nx (ds.set i (some d)) G
def seqS (m k : MS) : MS := fun ds G => match m ds G with
  | .nx ds1 G1 => k ds1 G1
  | r => r
section
variable {K : PySem.W.Frag} {W : Wq} {ρ : Rho} {H : Hp} {G : Gs}
theorem le_seqS {σ : St} {ds : Sl} {m : M D} {k : D → MS} {E : Ends} {Z : VK} (p : PstS K W ρ H σ.length (bndS m k ds G) E) (rl : Rl K ρ G H) (sr : SRel K ρ H ds σ) (hl : Lk W ρ H ds σ)
    (h : ∀ v H1 ρ1 G1 a, Step ρ H ρ1 H1 → Rl K ρ1 G1 H1 → SRel K ρ1 H1 ds σ → Lk W ρ1 H1 ds σ → DRel K ρ1 H1 a v → PstS K W ρ1 H1 σ.length (k a ds G1) E → Z v H1) : LE K W m σ H Z := by
  refine ⟨ρ, G, ds, rl, sr, hl, ?_⟩
  unfold bndS at p
  revert p
  cases m ds G with
  | ok a G1 => exact fun p ρ1 H1 v s1 r1 d1 => h v H1 ρ1 G1 a s1 r1 (sr.step s1) (hl.step s1) d1 (p.step s1)
  | exc e G1 => exact fun p ρ1 H1 c dd s1 r1 x1 => p ρ1 H1 σ c dd s1 r1 (sr.step s1) (hl.step s1) rfl x1
  | stuck => exact fun p => p
theorem la_seqS {σ : St} {ds : Sl} {m : M (List D)} {k : List D → MS} {E : Ends} {Z : List V → Hp → Prop} (p : PstS K W ρ H σ.length (bndS m k ds G) E) (rl : Rl K ρ G H) (sr : SRel K ρ H ds σ) (hl : Lk W ρ H ds σ)
    (h : ∀ v H1 ρ1 G1 a, Step ρ H ρ1 H1 → Rl K ρ1 G1 H1 → SRel K ρ1 H1 ds σ → Lk W ρ1 H1 ds σ → DRels K ρ1 H1 a v → PstS K W ρ1 H1 σ.length (k a ds G1) E → Z v H1) : LA K W m σ H Z := by
  refine ⟨ρ, G, ds, rl, sr, hl, ?_⟩
  unfold bndS at p
  revert p
  cases m ds G with
  | ok a G1 => exact fun p ρ1 H1 v s1 r1 d1 => h v H1 ρ1 G1 a s1 r1 (sr.step s1) (hl.step s1) d1 (p.step s1)
  | exc e G1 => exact fun p ρ1 H1 c dd s1 r1 x1 => p ρ1 H1 σ c dd s1 r1 (sr.step s1) (hl.step s1) rfl x1
  | stuck => exact fun p => p
theorem lt_seqS {σ : St} {ds : Sl} {m : M Bool} {k : Bool → MS} {E : Ends} {Z : Bool → Hp → Prop} (p : PstS K W ρ H σ.length (bndS m k ds G) E) (rl : Rl K ρ G H) (sr : SRel K ρ H ds σ) (hl : Lk W ρ H ds σ)
    (h : ∀ b H1 ρ1 G1, Step ρ H ρ1 H1 → Rl K ρ1 G1 H1 → SRel K ρ1 H1 ds σ → Lk W ρ1 H1 ds σ → PstS K W ρ1 H1 σ.length (k b ds G1) E → Z b H1) : LT K W m σ H Z := by
  refine ⟨ρ, G, ds, rl, sr, hl, ?_⟩
  unfold bndS at p
  revert p
  cases m ds G with
  | ok a G1 =>
    intro p ρ1 H1 v s1 r1 d1
    obtain rfl : a = v := d1
    exact h a H1 ρ1 G1 s1 r1 (sr.step s1) (hl.step s1) (p.step s1)
  | exc e G1 => exact fun p ρ1 H1 c dd s1 r1 x1 => p ρ1 H1 σ c dd s1 r1 (sr.step s1) (hl.step s1) rfl x1
  | stuck => exact fun p => p
end
section
variable {X : Cx} {W : Wq} {pos : Pos} {e : Expr} {me : M D}
theorem mss_nil : MSs X W [] nxtS := pss_nil.conv fun σ H Q ⟨ρ, G, ds, rl, sr, hl, p⟩ => p ρ H σ (Step.refl _ _) rl sr hl rfl
theorem seq_le {K : PySem.W.Frag} {ρ : Rho} {H : Hp} {n : Nat} {m k : MS} {ds : Sl} {G : Gs} {E : Ends} (p : PstS K W ρ H n (seqS m k ds G) E) : PstS K W ρ H n (m ds G) { E with nx := fun σ' H' => σ'.length = n → LS K W k E σ' H' } := by
  unfold seqS at p
  revert p
  cases m ds G with
  | nx ds1 G1 => exact fun p ρ1 H1 σ1 s1 r1 sr1 hl1 hn1 hn => ⟨ρ1, G1, ds1, r1, sr1, hl1, by rw [hn]; exact p.step s1⟩
  | rt d G1 => exact id
  | bk ds G1 => exact id
  | ct ds G1 => exact id
  | exc e ds G1 => exact id
  | stuck => exact id
theorem PstS.nxlen {K : PySem.W.Frag} {ρ : Rho} {H : Hp} {n : Nat} {r : RS} {E : Ends} {Z : St → Hp → Prop} (p : PstS K W ρ H n r { E with nx := fun σ' H' => σ'.length = n → Z σ' H' }) : PstS K W ρ H n r { E with nx := Z } := by
  cases r with
  | nx ds1 G1 => exact fun ρ1 H1 σ1 s1 r1 sr1 hl1 hn1 => p ρ1 H1 σ1 s1 r1 sr1 hl1 hn1 hn1
  | rt d G1 => exact p
  | bk ds G1 => exact p
  | ct ds G1 => exact p
  | exc e ds G1 => exact p
  | stuck => exact p
variable {st : Stmt} {sts : List Stmt} {m k : MS}
theorem mss_cons (h1 : MSt X W st m) (h2 : MSs X W sts k) : MSs X W (st :: sts) (seqS m k) := (pss_cons h1 h2).conv fun σ H Q ⟨ρ, G, ds, rl, sr, hl, p⟩ => ⟨ρ, G, ds, rl, sr, hl, (seq_le p).nxlen⟩
theorem mss_one (h1 : MSt X W st m) : MSs X W [st] m := pss_one h1
theorem ms_pass : MSt X W (.Pass pos) nxtS := ps_pass.conv fun σ H Q ⟨ρ, G, ds, rl, sr, hl, p⟩ => p ρ H σ (Step.refl _ _) rl sr hl rfl
def brkS : MS := fun ds G => .bk ds G
def cntS : MS := fun ds G => .ct ds G
theorem ms_break : MSt X W (.Break pos) brkS := ps_break.conv fun σ H Q ⟨ρ, G, ds, rl, sr, hl, p⟩ => p ρ H σ (Step.refl _ _) rl sr hl rfl
theorem ms_continue : MSt X W (.Continue pos) cntS := ps_continue.conv fun σ H Q ⟨ρ, G, ds, rl, sr, hl, p⟩ => p ρ H σ (Step.refl _ _) rl sr hl rfl
theorem ms_doc {x j pos'} : MSt X W (.Expr (.Constant (.str x) j pos) pos') nxtS := ps_doc.conv fun σ H Q ⟨ρ, G, ds, rl, sr, hl, p⟩ => p ρ H σ (Step.refl _ _) rl sr hl rfl
theorem ms_expr (he : ME X W e me) (hs : swapsWith e none pos.line X.env = pure false := by rfl) : MSt X W (.Expr e pos) (bndS me fun _ => nxtS) := (ps_expr he hs).conv fun σ H Q ⟨ρ, G, ds, rl, sr, hl, p⟩ =>
  le_seqS p rl sr hl fun v H1 ρ1 G1 a s1 r1 sr1 hl1 d1 p1 => p1 ρ1 H1 σ (Step.refl _ _) r1 sr1 hl1 rfl
theorem ms_ret (he : ME X W e me) : MSt X W (.Return (some e) pos) (bndS me retS) := (ps_ret he).conv fun σ H Q ⟨ρ, G, ds, rl, sr, hl, p⟩ =>
  le_seqS p rl sr hl fun v H1 ρ1 G1 a s1 r1 sr1 hl1 d1 p1 => p1 ρ1 H1 v (Step.refl _ _) r1 d1
theorem ms_retN : MSt X W (.Return none pos) (retS .non) := ps_retN.conv fun σ H Q ⟨ρ, G, ds, rl, sr, hl, p⟩ => p ρ H .non (Step.refl _ _) rl rfl
theorem ms_if {c : Expr} {a b : List Stmt} {t : M Bool} (hc : MT X W c t) (ha : MSs X W a m) (hb : MSs X W b k) : MSt X W (.If c a b pos) (bndS t fun x => if x = true then m else k) := (ps_if hc ha hb).conv fun σ H Q ⟨ρ, G, ds, rl, sr, hl, p⟩ => by
  refine lt_seqS p rl sr hl fun x H1 ρ1 G1 s1 r1 sr1 hl1 p1 => ?_
  cases x with
  | true => rw [if_pos rfl] at p1 ⊢; exact ⟨ρ1, G1, ds, r1, sr1, hl1, p1⟩
  | false => rw [if_neg Bool.false_ne_true] at p1 ⊢; exact ⟨ρ1, G1, ds, r1, sr1, hl1, p1⟩
theorem ms_set {i : Nat} {x : Str} {pos' : Pos} (hN : X.N.Nodup) (hi : X.N[i]? = some x) (hx : Loc X.env.scope x) (he : ME X W e me) (hs : swapsWith e (some (.Name x pos')) pos.line X.env = pure false := by rfl) (hf : X.fn x = true ∨ X.env.scope.names.lookup x = some .local := by first | exact .inl rfl | exact .inr rfl | assumption) (hfx : ∀ p ∈ W.fx, p.1 ≠ i := by intro p hp; first | cases hp | (cases hp; decide)) :
    MSt X W (.Assign [.Name x pos'] e pos) (bndS me (setS i)) := (ps_set hN hi hx he hs hf).conv fun σ H Q ⟨ρ, G, ds, rl, sr, hl, p⟩ =>
  le_seqS p rl sr hl fun v H1 ρ1 G1 a s1 r1 sr1 hl1 d1 p1 => p1 ρ1 H1 _ (Step.refl _ _) r1 (sr1.set (Nat.le_of_eq hl1.len) i d1) (hl1.set hfx) (by simp)
/-- name op= value -/
def rIp (K : PySem.W.Frag) (f : D → D → Gs → Option D) : TIp := rO K f
theorem ms_aug {i : Nat} {x : Str} {op : Operator} {pos' : Pos} {f : D → D → Gs → Option D} (hN : X.N.Nodup) (hi : X.N[i]? = some x) (hx : Loc X.env.scope x) (he : ME X W e me) (ho : PIp X op (rO X.K f)) (hf : X.fn x = true ∨ X.env.scope.names.lookup x = some .local := by first | exact .inl rfl | exact .inr rfl | assumption) (hfx : ∀ p ∈ W.fx, p.1 ≠ i := by intro p hp; first | cases hp | (cases hp; decide)) :
    MSt X W (.AugAssign (.Name x pos') op e pos) (bndS (rd i) fun a => bndS me fun b => bndS (lo (f a b)) (setS i)) := (ps_aug hN hi hx he ho hf).conv fun σ H Q ⟨ρ, G, ds, rl, sr, hl, p⟩ => by
  unfold bndS rd at p
  cases q : ds[i]? with
  | none => simp only [q] at p; exact p.elim
  | some o =>
    cases o with
    | none => simp only [q] at p; exact p.elim
    | some a =>
      simp only [q] at p
      obtain ⟨v, e1, e2⟩ := sr i a q
      refine ⟨v, e1, ?_⟩
      refine le_seqS (k := fun b => bndS (lo (f a b)) (setS i)) p rl sr hl fun w H1 ρ1 G1 b s1 r1 sr1 hl1 d1 p1 => ?_
      unfold bndS lo at p1
      cases q2 : f a b G1 with
      | none => simp only [q2] at p1; exact p1.elim
      | some d =>
        simp only [q2] at p1
        exact ⟨ρ1, G1, a, b, d, r1, e2.step s1, d1, q2, fun ρ2 H2 u s2 r2 d2 => p1 ρ2 H2 _ s2 r2 ((sr1.step s2).set (Nat.le_of_eq hl1.len) i d2) ((hl1.step s2).set hfx) (by simp)⟩
theorem ipSub : PIp X .Sub (rO X.K subD) := by
  intro pins s σ H x y v u Q I rx ry ⟨ρ, G, a, b, d, rl, ha, hb, e, q⟩
  unfold subD i2 at e
  split at e
  · cases e
    obtain rfl : x = _ := ha
    obtain rfl : y = _ := hb
    exact ip_sub _ _ _ _ _ _ _ _ _ I rx ry ⟨_, _, rfl, rfl, q ρ H _ (Step.refl _ _) rl rfl⟩
  · cases e
def addI := i2 fun i j => some (.int (i + j))
theorem ipAdd : PIp X .Add (rO X.K addI) := by
  intro pins s σ H x y v u Q I rx ry ⟨ρ, G, a, b, d, rl, ha, hb, e, q⟩
  unfold addI i2 at e
  split at e
  · cases e
    obtain rfl : x = _ := ha
    obtain rfl : y = _ := hb
    exact ip_add _ _ _ _ _ _ _ _ _ I rx ry ⟨_, _, rfl, rfl, q ρ H _ (Step.refl _ _) rl rfl⟩
  · cases e

/-! ### targets that are names -/
inductive Tg where
  | nm (i : Nat)
  | tp (is : List Nat)
def gNs : List Nat → TGs
  | [] => gNil
  | i :: r => gCons (gName i) (gNs r)
def gTg (K : PySem.W.Frag) : Tg → TG
  | .nm i => gName i
  | .tp is => gTup K is.length (gNs is)
/-- the names set -/
def setAll {α : Type} : List Nat → List α → List (Option α) → List (Option α)
  | i :: is, d :: ds, l => setAll is ds (l.set i (some d))
  | _, _, l => l
def tgS : Tg → D → MS
  | .nm i, d => setS i d
  | .tp is, .tup ds => fun l G => if ds.length = is.length then .nx (setAll is ds l) G else .stuck
  | .tp _, _ => fun _ _ => .stuck
theorem setAll_length {α : Type} : ∀ (is : List Nat) (ds : List α) (l : List (Option α)), (setAll is ds l).length = l.length
  | [], _, _ => by simp [setAll]
  | _ :: _, [], _ => by simp [setAll]
  | i :: is, d :: ds, l => by simp [setAll, setAll_length is ds]
theorem gNs_of {is : List Nat} : ∀ {xs : List V} {σ : St} {H : Hp} {Q : St → Hp → Prop}, xs.length = is.length → Q (setAll is xs σ) H → gNs is xs σ H Q := by
  induction is with
  | nil =>
    intro xs σ H Q h q
    have : xs = [] := List.length_eq_zero_iff.mp h
    subst this
    exact ⟨rfl, by simpa [setAll] using q⟩
  | cons i is ih =>
    intro xs σ H Q h q
    cases xs with
    | nil => cases h
    | cons x xs => exact ⟨x, xs, rfl, ih (by simpa using h) (by simpa [setAll] using q)⟩
theorem SRel.setAll {K : PySem.W.Frag} {ρ : Rho} {H : Hp} : ∀ {is : List Nat} {ds : List D} {xs : List V} {l : Sl} {σ : St}, l.length ≤ σ.length → DRels K ρ H ds xs → SRel K ρ H l σ → SRel K ρ H (M3.setAll is ds l) (M3.setAll is xs σ)
  | [], _, _, _, _, _, _, sr => by simpa [M3.setAll] using sr
  | i :: is, [], _, _, _, _, r, sr => by cases r; simpa [M3.setAll] using sr
  | i :: is, d :: ds, _, l, σ, hl, r, sr => by
    obtain ⟨v, us, rfl, r1, r2⟩ := r
    exact SRel.setAll (is := is) (by simpa using hl) r2 (sr.set hl i r1)
theorem tgS_or (t : Tg) (d : D) (ds : Sl) (G : Gs) : (∃ ds1, tgS t d ds G = .nx ds1 G) ∨ tgS t d ds G = .stuck := by
  cases t with
  | nm i => exact .inl ⟨_, rfl⟩
  | tp is =>
    cases d with
    | tup es =>
      by_cases h : es.length = is.length
      · exact .inl ⟨_, by simp only [tgS]; rw [if_pos h]⟩
      · exact .inr (by simp only [tgS]; rw [if_neg h])
    | _ => exact .inr rfl
/-- what a target's reading gives: the new slots told -/
def tgI : Tg → List Nat
  | .nm i => [i]
  | .tp is => is
theorem setAll_ne {α : Type} {j : Nat} : ∀ (is : List Nat) (xs : List α) (l : List (Option α)), (∀ i ∈ is, j ≠ i) → (setAll is xs l)[j]? = l[j]?
  | [], _, _, _ => by simp [setAll]
  | _ :: _, [], _, _ => by simp [setAll]
  | i :: is, x :: xs, l, h => by
    simp only [setAll]
    rw [setAll_ne is xs _ fun k hk => h k (List.mem_cons_of_mem _ hk), List.getElem?_set_ne (Ne.symm (h i List.mem_cons_self))]
theorem Lk.setAll {ρ : Rho} {H : Hp} {ds : Sl} {σ : St} {is : List Nat} {es : List D} {xs : List V} (hf : ∀ p ∈ W.fx, ∀ i ∈ is, p.1 ≠ i) (h : Lk W ρ H ds σ) : Lk W ρ H (M3.setAll is es ds) (M3.setAll is xs σ) :=
  ⟨by rw [setAll_length, setAll_length]; exact h.len, fun p hp => by rw [setAll_ne is xs σ (hf p hp)]; exact h.fx p hp, h.iv⟩
theorem gTg_of {K : PySem.W.Frag} {t : Tg} {ρ : Rho} {G : Gs} {H : Hp} {d : D} {v : V} {ds ds1 : Sl} {G1 : Gs} {σ : St} {Q : St → Hp → Prop} (h : tgS t d ds G = .nx ds1 G1) (rl : Rl K ρ G H) (sr : SRel K ρ H ds σ) (hl : Lk W ρ H ds σ) (hfx : ∀ p ∈ W.fx, ∀ i ∈ tgI t, p.1 ≠ i) (r : DRel K ρ H d v)
    (q : ∀ is xs, tgI t = is → SRel K ρ H ds1 (setAll is xs σ) → Lk W ρ H ds1 (setAll is xs σ) → Q (setAll is xs σ) H) : gTg K t v σ H Q := by
  cases t with
  | nm i =>
    simp only [tgS, setS] at h
    injection h with h1 h2
    subst h1 h2
    have l1 := hl.setAll (is := [i]) (es := [d]) (xs := [v]) hfx
    exact q [i] [v] rfl (by simpa [setAll] using sr.set (Nat.le_of_eq hl.len) i r) (by simpa [setAll] using l1)
  | tp is =>
    cases d with
    | tup es =>
      simp only [tgS] at h
      split at h
      · rename_i hn
        injection h with h1 h2
        subst h1 h2
        obtain ⟨a, xs, rfl, e1, e2⟩ := r
        refine ⟨a, xs, rfl, e1.sq, by rw [← e2.length]; exact hn, gNs_of (by rw [← e2.length]; exact hn) ?_⟩
        exact q is xs rfl (SRel.setAll (Nat.le_of_eq hl.len) e2 sr) (hl.setAll hfx)
      · cases h
    | _ => cases h
/-- target = value -/
theorem ms_asg {tg : Expr} {t : Tg} (he : ME X W e me) (hg : PG X tg (gTg X.K t)) (hs : swapsWithSole [tg] e pos.line X.env = pure false := by rfl) (hw : swappedStores [tg] e X.env = pure none := by rfl)
    (h1 : (assignEach [tg] X.env).map (·.2) = [assign tg X.env] := by rfl) (hfx : ∀ p ∈ W.fx, ∀ i ∈ tgI t, p.1 ≠ i := by intro p hp; first | cases hp | (cases hp; decide)) : MSt X W (.Assign [tg] e pos) (bndS me (tgS t)) := (ps_asg he hg hs hw h1).conv fun σ H Q ⟨ρ, G, ds, rl, sr, hl, p⟩ => by
  refine le_seqS p rl sr hl fun v H1 ρ1 G1 a s1 r1 sr1 hl1 d1 p1 => ?_
  rcases tgS_or t a ds G1 with ⟨ds1, q⟩ | q
  · rw [q] at p1
    exact gTg_of q r1 sr1 hl1 hfx d1 fun is xs _ sr2 hl2 => p1 ρ1 H1 _ (Step.refl _ _) r1 sr2 hl2 (by rw [setAll_length])
  · rw [q] at p1
    exact p1.elim

/-! ### what is walked -/
inductive Src where
  | seq (d : D)
  | rng (lo : Int) (n : Nat)
  | enm (d : D)
  | zpp (d e : D)
  | str (z : Str)
def enumD : Nat → List D → List D
  | _, [] => []
  | n, d :: ds => .tup [.int n, d] :: enumD (n + 1) ds
def zipD : List D → List D → List D
  | a :: as, b :: bs => .tup [a, b] :: zipD as bs
  | _, _ => []
def items (G : Gs) : Src → Option (List D)
  | .seq d => seqD G d
  | .rng a n => some ((List.range n).map fun (i : Nat) => D.int (a + (i : Int)))
  | .enm d => (seqD G d).map (enumD 0)
  | .zpp d e => match seqD G d, seqD G e with
    | some a, some b => some (zipD a b)
    | _, _ => none
  | .str z => if z.length ≤ sizeLine then some (z.cps.toList.map fun c => .str ⟨#[c]⟩) else none
/-- the walk J does what the source s says, now and later -/
def SrcRel (K : PySem.W.Frag) (ρ : Rho) (H : Hp) (s : Src) (J : It) : Prop := ∀ ρ' G' H', Grow ρ H ρ' H' → Rl K ρ' G' H' → ∀ its, items G' s = some its → ∀ i : Nat,
  (∀ d, its[i]? = some d → J.go i H' ∧ ∀ x H2, J.yld i H' x H2 → Step ρ' H' ρ' H2 ∧ Rl K ρ' G' H2 ∧ DRel K ρ' H2 d x) ∧ (its.length ≤ i → J.stop i H')
def LI (K : PySem.W.Frag) (W : Wq) (m : M Src) : TI := fun σ H R => ∃ ρ G ds, Rl K ρ G H ∧ SRel K ρ H ds σ ∧ Lk W ρ H ds σ ∧ Pst K W (SrcRel K) σ ρ H (m ds G) R
def MI (X : Cx) (W : Wq) (tg e : Expr) (m : M Src) : Prop := PI X tg e (LI X.K W m)
theorem _root_.L2.PI.conv {X : Cx} {tg e : Expr} {t t' : TI} (h : PI X tg e t) (c : ∀ σ H Q, t' σ H Q → t σ H Q) : PI X tg e t' := ⟨fun pins s σ H Q I q => h.run pins s σ H Q I (c _ _ _ q)⟩
/-- a list or a tuple, as it comes -/
def iSq (K : PySem.W.Frag) (tl : TE) : TI := fun σ H R => tl σ H fun x H1 => ∃ a, x = .ref a ∧ (((∃ xs, SqL K H1 a xs) ∧ R (Itl K a) H1) ∨ ((∃ xs, SqT K H1 a xs) ∧ R (Itt K a) H1))
theorem pi_sq {tg l : Expr} {tl : TE} (hl : PE X l tl) : PI X tg l (iSq X.K tl) := by
  refine ⟨fun pins s σ H R I h => ?_⟩
  refine thn (hl.run pins s σ H _ I h) fun v s1 ⟨x, H1, I1, r1, q1⟩ => ?_
  obtain ⟨a, e, q⟩ := q1
  subst e
  cases r1
  rcases q with ⟨⟨xs, hq⟩, q⟩ | ⟨⟨xs, hq⟩, q⟩
  · obtain ⟨its, rv, p, hz⟩ := I1.list hq
    refine wpAny_pyIter_list p.isList ?_
    refine ⟨s1.heap.objs.size, [s1.heap.objs.size], _, _, H1, rfl, I1.kept (t' := s1.toks) fun b o e => Heap.get?_push_of_some _ e, turn_list a _, ⟨_, Heap.get?_push_size _ rfl, rfl, rfl⟩, fun b hb => ?_, q⟩
    have e : b = s1.heap.objs.size := by simpa using hb
    subst e
    exact I1.fpOk (Nat.le_refl _) (I1.hok.fresh (Nat.le_refl _))
  · obtain ⟨its, rv, p, hz⟩ := I1.tuple hq
    refine wpAny_pyIter_tuple (show s1.heap.IsTuple a its.toArray from p) ?_
    refine ⟨s1.heap.objs.size, [s1.heap.objs.size], _, _, H1, rfl, I1.kept (t' := s1.toks) fun b o e => Heap.get?_push_of_some _ e, turn_tuple a _, ⟨_, Heap.get?_push_size _ rfl, rfl, rfl⟩, fun b hb => ?_, q⟩
    have e : b = s1.heap.objs.size := by simpa using hb
    subst e
    exact I1.fpOk (Nat.le_refl _) (I1.hok.fresh (Nat.le_refl _))
def toSrc (d : D) : Gs → Option Src := fun G => match seqD G d with
  | some _ => some (.seq d)
  | none => none
theorem src_list {K : PySem.W.Frag} {ρ : Rho} {H : Hp} {d : D} {a : Addr} (r : DRel K ρ H d (.ref a)) (h : ∀ G, seqD G d = lsD G d) : SrcRel K ρ H (.seq d) (Itl K a) := by
  intro ρ' G' H' s rl its e i
  have e' : lsD G' d = some its := by rw [← h]; exact e
  obtain ⟨a', xs, ea, h1, h2⟩ := ls_at rl e' (r.grow s)
  cases ea
  refine ⟨fun d' hd => ?_, fun hi => ⟨xs, h1, by rw [← h2.length]; exact hi⟩⟩
  obtain ⟨v, e1, e2⟩ := h2.get hd
  refine ⟨⟨xs, v, h1, e1⟩, fun x H2 y => ?_⟩
  obtain ⟨rfl, y⟩ := y
  have := y xs h1
  rw [e1] at this
  cases this
  exact ⟨Step.refl _ _, rl, e2⟩
theorem src_tup {K : PySem.W.Frag} {ρ : Rho} {H : Hp} {es : List D} {a : Addr} (r : DRel K ρ H (.tup es) (.ref a)) : SrcRel K ρ H (.seq (.tup es)) (Itt K a) := by
  intro ρ' G' H' s rl its e i
  obtain ⟨a', xs, ea, h1, h2⟩ := r.grow s
  cases ea
  cases e
  refine ⟨fun d' hd => ?_, fun hi => ⟨xs, h1.sq, by rw [← h2.length]; exact hi⟩⟩
  obtain ⟨v, e1, e2⟩ := h2.get hd
  refine ⟨⟨xs, v, h1.sq, e1⟩, fun x H2 y => ?_⟩
  obtain ⟨rfl, y⟩ := y
  have := y xs h1.sq
  rw [e1] at this
  cases this
  exact ⟨Step.refl _ _, rl, e2⟩
theorem mi_seq {tg : Expr} (h : ME X W e me) : MI X W tg e (bnd me fun d => lo (toSrc d)) := (pi_sq h).conv fun σ H Q ⟨ρ, G, ds, rl, sr, hl, p⟩ => by
  refine le_seq p rl sr hl fun v H1 ρ1 G1 a s1 r1 sr1 hl1 d1 p1 => ?_
  obtain ⟨d', e, q⟩ := lo_inv p1
  unfold toSrc at e
  split at e
  · cases e
    rename_i its e1
    have fin : ∀ J, SrcRel X.K ρ1 H1 (.seq a) J → Q J H1 := fun J hj => q ρ1 H1 J (Step.refl _ _) r1 hj
    cases a with
    | tup es =>
      obtain ⟨p, xs, rfl, h1, h2⟩ := id d1
      exact ⟨p, rfl, .inr ⟨⟨xs, h1.sq⟩, fin _ (src_tup d1)⟩⟩
    | tl es =>
      obtain ⟨p, xs, rfl, h1, h2⟩ := id d1
      exact ⟨p, rfl, .inl ⟨⟨xs, h1.sq⟩, fin _ (src_list d1 fun _ => rfl)⟩⟩
    | fz es =>
      obtain ⟨p, xs, rfl, h1, h2⟩ := id d1
      exact ⟨p, rfl, .inl ⟨⟨xs, h1.sq⟩, fin _ (src_list d1 fun _ => rfl)⟩⟩
    | obj i =>
      obtain ⟨p, xs, rfl, h1, h2⟩ := ls_at r1 (show lsD G1 (.obj i) = some its from e1) d1
      exact ⟨p, rfl, .inl ⟨⟨xs, h1⟩, fin _ (src_list d1 fun _ => rfl)⟩⟩
    | _ => cases e1
  · cases e
def toRng1 (ds : List D) : Gs → Option Src := fun _ => match ds with
  | [.int j] => if -(2 ^ 62) ≤ j ∧ j < 2 ^ 62 then some (.rng 0 j.toNat) else none
  | _ => none
def toRng2 (ds : List D) : Gs → Option Src := fun _ => match ds with
  | [.int i, .int j] => if -(2 ^ 62) ≤ i ∧ i < 2 ^ 62 ∧ -(2 ^ 62) ≤ j ∧ j < 2 ^ 62 then some (.rng i (j - i).toNat) else none
  | _ => none
theorem src_rng {K : PySem.W.Frag} {ρ : Rho} {H : Hp} {a : Int} {n : Nat} : SrcRel K ρ H (.rng a n) (Itr a n) := by
  intro ρ' G' H' s rl its e i
  cases e
  refine ⟨fun d' hd => ?_, fun hi => (show n ≤ i by simpa using hi)⟩
  simp only [List.getElem?_map] at hd
  by_cases hi : i < n
  · rw [List.getElem?_range hi] at hd
    cases hd
    refine ⟨hi, fun x H2 y => ?_⟩
    obtain ⟨rfl, rfl⟩ := y
    exact ⟨Step.refl _ _, rl, rfl⟩
  · rw [List.getElem?_eq_none (by simpa using hi)] at hd
    cases hd
theorem mi_rng1 {tg a : Expr} {p : Pos} {m : M (List D)} (hg : Gl X "range") (hm : X.mg "range" = none) (ha : MA X W [a] m) (hs : starEach [a] X.env = [(false, eval a X.env)] := by rfl) : MI X W tg (.Call (.Name "range" p) [a] [] pos) (bnd m fun ds => lo (toRng1 ds)) := (pi_range1 hg hm ha hs).conv fun σ H Q ⟨ρ, G, ds, rl, sr, hl, p⟩ => by
  refine la_seq p rl sr hl fun v H1 ρ1 G1 a s1 r1 sr1 hl1 d1 p1 => ?_
  obtain ⟨d', e, q⟩ := lo_inv p1
  unfold toRng1 at e
  split at e
  · split at e
    · cases e
      rename_i j hj
      obtain ⟨v1, r', rfl, e1, e2⟩ := d1
      cases e1
      cases e2
      exact ⟨j, rfl, hj.1, hj.2, q ρ1 H1 _ (Step.refl _ _) r1 src_rng⟩
    · cases e
  · cases e
theorem mi_rng2 {tg a b : Expr} {p : Pos} {m : M (List D)} (hg : Gl X "range") (hm : X.mg "range" = none) (ha : MA X W [a, b] m) (hs : starEach [a, b] X.env = [(false, eval a X.env), (false, eval b X.env)] := by rfl) (hs2 : starEach [b] X.env = [(false, eval b X.env)] := by rfl) :
    MI X W tg (.Call (.Name "range" p) [a, b] [] pos) (bnd m fun ds => lo (toRng2 ds)) := (pi_range2 hg hm ha hs hs2).conv fun σ H Q ⟨ρ, G, ds, rl, sr, hl, p⟩ => by
  refine la_seq p rl sr hl fun v H1 ρ1 G1 a s1 r1 sr1 hl1 d1 p1 => ?_
  obtain ⟨d', e, q⟩ := lo_inv p1
  unfold toRng2 at e
  split at e
  · split at e
    · cases e
      rename_i i j hj
      obtain ⟨v1, r', rfl, e1, v2, r2, rfl, e3, e2⟩ := d1
      cases e1
      cases e3
      cases e2
      exact ⟨i, j, rfl, hj, q ρ1 H1 _ (Step.refl _ _) r1 src_rng⟩
    · cases e
  · cases e

/-! ### for, while -/
/-- the loop: the items that are left -/
def loopS (s : Src) (t : Tg) (b : MS) (its : List D) : List D → MS
  | [] => fun ds G => match items G s with
    | some l => if decDs l its = true then .nx ds G else .stuck
    | none => .stuck
  | x :: r => fun ds G => match items G s with
    | some l => if decDs l its = true then (match tgS t x ds G with
      | .nx ds1 G1 => (match b ds1 G1 with
        | .nx ds2 G2 => loopS s t b its r ds2 G2
        | .ct ds2 G2 => loopS s t b its r ds2 G2
        | .bk ds2 G2 => .nx ds2 G2
        | z => z)
      | _ => .stuck) else .stuck
    | none => .stuck
def forS (t : Tg) (b : MS) (s : Src) : MS := fun ds G => match items G s with
  | some its => loopS s t b its its ds G
  | none => .stuck
/-- behind a body: on to the next turn, or out -/
theorem body_ends {K : PySem.W.Frag} {ρ : Rho} {H : Hp} {n : Nat} {r : RS} {again : Sl → Gs → RS} {E : Ends} {N : St → Hp → Prop} (p : PstS K W ρ H n (match r with
    | .nx ds2 G2 => again ds2 G2
    | .ct ds2 G2 => again ds2 G2
    | .bk ds2 G2 => .nx ds2 G2
    | z => z) E) (hN : ∀ ρ' H' σ' ds2 G2, Step ρ H ρ' H' → Rl K ρ' G2 H' → SRel K ρ' H' ds2 σ' → Lk W ρ' H' ds2 σ' → σ'.length = n → PstS K W ρ' H' n (again ds2 G2) E → N σ' H') :
    PstS K W ρ H n r { E with nx := N, ct := N, bk := E.nx } := by
  cases r with
  | nx ds1 G1 => exact fun ρ1 H1 σ1 s1 r1 sr1 hl1 hn1 => hN ρ1 H1 σ1 ds1 G1 s1 r1 sr1 hl1 hn1 (p.step s1)
  | ct ds1 G1 => exact fun ρ1 H1 σ1 s1 r1 sr1 hl1 hn1 => hN ρ1 H1 σ1 ds1 G1 s1 r1 sr1 hl1 hn1 (p.step s1)
  | bk ds1 G1 => exact p
  | rt d G1 => exact p
  | exc e ds G1 => exact p
  | stuck => exact p
theorem ms_for {tg iter : Expr} {body : List Stmt} {t : Tg} {mi : M Src} {b : MS} (hp : PassesOwn (model X.prog X.w) X.A X.env X.xe) (hc : X.calm = true) (hi : MI X W tg iter mi) (hg : PG X tg (gTg X.K t)) (hb : MSs X W body b)
    (hs : ∀ x, foldedSetIterable iter X.env x = pure x := by intro _; rfl) (hfx : ∀ p ∈ W.fx, ∀ i ∈ tgI t, p.1 ≠ i := by intro p hp; first | cases hp | (cases hp; decide)) : MSt X W (.For tg iter body [] pos) (bndS mi (forS t b)) := (ps_for hp hc hi hg hb hs).conv fun σ H Q ⟨ρ, G, ds, rl, sr, hl, p⟩ => by
  refine ⟨ρ, G, ds, rl, sr, hl, ?_⟩
  unfold bndS at p
  revert p
  cases mi ds G with
  | exc e G1 => exact fun p ρ1 H1 c dd s1 r1 x1 => p ρ1 H1 σ c dd s1 r1 (sr.step s1) (hl.step s1) rfl x1
  | stuck => exact fun p => p
  | ok s G1 =>
    intro p ρ1 H1 J s1 r1 sj
    replace p := p.step s1
    simp only [forS] at p
    cases q : items G1 s with
    | none => simp only [q] at p; exact p.elim
    | some its =>
      simp only [q] at p
      refine ⟨fun i m σ' H' => m = its.length - i ∧ i ≤ its.length ∧ σ'.length = σ.length ∧ ∃ ρ' G' ds', Step ρ1 H1 ρ' H' ∧ Rl X.K ρ' G' H' ∧ SRel X.K ρ' H' ds' σ' ∧ Lk W ρ' H' ds' σ' ∧ PstS X.K W ρ' H' σ.length (loopS s t b its (its.drop i) ds' G') Q, ⟨_, rfl, Nat.zero_le _, rfl, ρ1, G1, ds, Step.refl _ _, r1, sr.step s1, hl.step s1, p⟩, ?_⟩
      rintro i m σ' H' ⟨rfl, hi', hn, ρ', G', ds', s', r', sr', hl', p'⟩
      by_cases hlt : i < its.length
      · rw [List.drop_eq_getElem_cons hlt] at p'
        simp only [loopS] at p'
        cases q2 : items G' s with
        | none => simp only [q2] at p'; exact p'.elim
        | some l =>
          simp only [q2] at p'
          split at p'
          · rename_i e
            have e2 := decDs_eq e
            subst e2
            obtain ⟨go, yl⟩ := (sj ρ' G' H' s'.g r' l q2 i).1 l[i] (by simp [hlt])
            refine .inr ⟨go, fun σ2 H2 => ∃ m', m' < l.length - i ∧ (m' = l.length - (i + 1) ∧ i + 1 ≤ l.length ∧ σ2.length = σ.length ∧ ∃ ρ' G' ds', Step ρ1 H1 ρ' H2 ∧ Rl X.K ρ' G' H2 ∧ SRel X.K ρ' H2 ds' σ2 ∧ Lk W ρ' H2 ds' σ2 ∧ PstS X.K W ρ' H2 σ.length (loopS s t b l (l.drop (i + 1)) ds' G') Q), fun σ2 H2 z => z, fun x H2 y => ?_⟩
            obtain ⟨s2, r2, d2⟩ := yl x H2 y
            rcases tgS_or t l[i] ds' G' with ⟨ds1, q3⟩ | q3
            · rw [q3] at p'
              refine gTg_of q3 r2 (sr'.step s2) (hl'.step s2) hfx d2 fun is xs _ sr3 hl3 => ?_
              refine ⟨ρ', G', ds1, r2, sr3, hl3, ?_⟩
              rw [setAll_length, hn]
              refine body_ends (p'.step s2) fun ρ4 H4 σ4 ds4 G4 s4 r4 sr4 hl4 hn4 p4 => ?_
              exact ⟨_, by omega, rfl, by omega, hn4, ρ4, G4, ds4, (s'.trans s2).trans s4, r4, sr4, hl4, p4⟩
            · rw [q3] at p'
              exact p'.elim
          · exact p'.elim
      · have e : i = its.length := by omega
        subst e
        rw [List.drop_length] at p'
        simp only [loopS] at p'
        cases q2 : items G' s with
        | none => simp only [q2] at p'; exact p'.elim
        | some l =>
          simp only [q2] at p'
          split at p'
          · rename_i e
            have e2 := decDs_eq e
            subst e2
            exact .inl ⟨(sj ρ' G' H' s'.g r' l q2 l.length).2 (Nat.le_refl _), p' ρ' H' σ' (Step.refl _ _) r' sr' hl' hn⟩
          · exact p'.elim
/-- while, with so many turns at the most -/
def whileS (c : M Bool) (b : MS) : Nat → MS
  | 0 => fun _ _ => .stuck
  | n + 1 => bndS c fun k => if k = true then fun ds G => (match b ds G with
    | .nx ds2 G2 => whileS c b n ds2 G2
    | .ct ds2 G2 => whileS c b n ds2 G2
    | .bk ds2 G2 => .nx ds2 G2
    | z => z) else nxtS
theorem ms_while {c : Expr} {body : List Stmt} {t : M Bool} {b : MS} (n : Nat) (hp : PassesOwn (model X.prog X.w) X.A X.env X.xe) (hc : MT X W c t) (hb : MSs X W body b) : MSt X W (.While c body [] pos) (whileS t b n) := (ps_while hp hc hb).conv fun σ H Q ⟨ρ, G, ds, rl, sr, hl, p⟩ => by
  refine ⟨fun m σ' H' => σ'.length = σ.length ∧ ∃ ρ' G' ds', Rl X.K ρ' G' H' ∧ SRel X.K ρ' H' ds' σ' ∧ Lk W ρ' H' ds' σ' ∧ PstS X.K W ρ' H' σ.length (whileS t b m ds' G') Q, ⟨n, rfl, ρ, G, ds, rl, sr, hl, p⟩, ?_⟩
  rintro m σ' H' ⟨hn, ρ', G', ds', r', sr', hl', p'⟩
  cases m with
  | zero => exact p'.elim
  | succ m =>
    unfold whileS at p'
    rw [← hn] at p'
    refine lt_seqS p' r' sr' hl' fun k H1 ρ1 G1 s1 r1 sr1 hl1 p1 => ?_
    cases k with
    | true =>
      rw [if_pos rfl] at p1 ⊢
      refine ⟨fun σ2 H2 => σ2.length = σ.length ∧ ∃ ρ' G' ds', Rl X.K ρ' G' H2 ∧ SRel X.K ρ' H2 ds' σ2 ∧ Lk W ρ' H2 ds' σ2 ∧ PstS X.K W ρ' H2 σ.length (whileS t b m ds' G') Q, fun σ2 H2 z => ⟨m, Nat.lt_succ_self _, z⟩, ρ1, G1, ds', r1, sr1, hl1, ?_⟩
      refine body_ends p1 fun ρ4 H4 σ4 ds4 G4 s4 r4 sr4 hl4 hn4 p4 => ?_
      exact ⟨hn4.trans hn, ρ4, G4, ds4, r4, sr4, hl4, by rw [← hn]; exact p4⟩
    | false =>
      rw [if_neg Bool.false_ne_true] at p1 ⊢
      exact p1 ρ1 H1 σ' (Step.refl _ _) r1 sr1 hl1 rfl
end
end M3
end L2

set_option Elab.async false
set_option linter.all false
set_option maxRecDepth 100000
set_option maxHeartbeats 2000000
/-! M3f: comprehensions. -/
namespace L2
namespace M3
open PySem PySem.Spec PyProof.Rows

/-! ### hiding the list that a comprehension makes -/
def Rho.hide (ρ : Rho) (p : Addr) : Rho := ⟨ρ.os, p :: ρ.hd⟩
section
variable {K : PySem.W.Frag} {W : Wq} {ρ ρ' : Rho} {H H' : Hp} {G : Gs}
/-- a new list, hidden: the outer words hold of the inner state -/
theorem wk_in (rl : Rl K ρ G H) {p : Addr} {o : HO} (h : H p = none) : Grow ρ H (ρ.hide p) (upd H p o) :=
  ⟨⟨[], by simp [Rho.hide]⟩, fun a u e n => by
    have ne := ne_of_none e h
    refine ⟨by rw [upd_ne ne]; exact e, n.1, ?_⟩
    show ¬ a ∈ p :: ρ.hd
    simp only [List.mem_cons, not_or]
    exact ⟨ne, n.2⟩⟩
theorem Rl.hideN (rl : Rl K ρ G H) {p : Addr} {o : HO} (h : H p = none) : Rl K (ρ.hide p) G (upd H p o) := by
  have hp := rl.new h
  refine ⟨rl.nd, rl.len, fun a ha => ?_, fun a ha => ?_, fun i u a h1 h2 => ?_⟩
  · rcases List.mem_cons.mp (show a ∈ p :: ρ.hd from ha) with rfl | ha
    · exact hp.1
    · exact rl.dj a ha
  · rcases List.mem_cons.mp (show a ∈ p :: ρ.hd from ha) with rfl | ha
    · exact ⟨o, upd_same⟩
    · obtain ⟨u, e⟩ := rl.hs a ha
      exact ⟨u, by rw [upd_ne (ne_of_none e h)]; exact e⟩
  · exact (rl.at_ i u a h1 h2).grow (wk_in rl h) (upd_ne fun z => hp.1 (z ▸ List.mem_of_getElem? h2))
/-- the hidden list is rewritten -/
theorem Rl.hwrite (rl : Rl K ρ G H) {p : Addr} {o : HO} (hp : p ∈ ρ.hd) : Grow ρ H ρ (upd H p o) ∧ Rl K ρ G (upd H p o) := by
  have w : Grow ρ H ρ (upd H p o) := ⟨⟨[], by simp⟩, fun a u e n => ⟨by rw [upd_ne fun z => n.2 (by rw [z]; exact hp)]; exact e, n⟩⟩
  refine ⟨w, rl.nd, rl.len, rl.dj, fun a ha => ?_, fun i u a h1 h2 => ?_⟩
  · by_cases z : a = p
    · exact ⟨o, by rw [z]; exact upd_same⟩
    · obtain ⟨u, e⟩ := rl.hs a ha
      exact ⟨u, by rw [upd_ne z]; exact e⟩
  · exact (rl.at_ i u a h1 h2).grow w (upd_ne fun z => rl.dj p hp (z ▸ List.mem_of_getElem? h2))
/-- shown at last -/
theorem wk_out {ρ2 : Rho} {p : Addr} (e : ρ'.hd = p :: ρ2.hd) (e2 : ρ'.os = ρ2.os) : Grow ρ' H ρ2 H :=
  ⟨⟨[], by simp [e2]⟩, fun a o h n => ⟨h, by rw [← e2]; exact n.1, fun z => n.2 (by rw [e]; exact List.mem_cons_of_mem _ z)⟩⟩
theorem wk_adopt {p : Addr} {hd : List Addr} (e : ρ'.hd = p :: hd) : Grow ρ' H ⟨ρ'.os ++ [p], hd⟩ H :=
  ⟨⟨[p], rfl⟩, fun a o h n => ⟨h, by
    refine ⟨?_, fun z => n.2 (by rw [e]; exact List.mem_cons_of_mem _ z)⟩
    show ¬ a ∈ ρ'.os ++ [p]
    simp only [List.mem_append, List.mem_singleton, not_or]
    exact ⟨n.1, fun z => n.2 (by rw [e, z]; exact List.mem_cons_self)⟩⟩⟩
theorem Rl.adopt (rl : Rl K ρ' G H) {p : Addr} {hd : List Addr} {m : MO} (e : ρ'.hd = p :: hd) (hp : ¬ p ∈ hd) (hm : MRel K ⟨ρ'.os ++ [p], hd⟩ H p m) : Rl K ⟨ρ'.os ++ [p], hd⟩ (G ++ [m]) H := by
  have hno : ¬ p ∈ ρ'.os := rl.dj p (by rw [e]; exact List.mem_cons_self)
  refine ⟨?_, ?_, fun b hb => ?_, fun b hb => rl.hs b (by rw [e]; exact List.mem_cons_of_mem _ hb), fun j u b h1 h2 => ?_⟩
  · show (ρ'.os ++ [p]).Nodup
    rw [List.nodup_append]
    exact ⟨rl.nd, by simp, fun a ha b hb e => hno (by simp at hb; rw [← hb, ← e]; exact ha)⟩
  · show _ = (ρ'.os ++ [p]).length
    simp [rl.len]
  · show ¬ b ∈ ρ'.os ++ [p]
    simp only [List.mem_append, List.mem_singleton, not_or]
    exact ⟨rl.dj b (by rw [e]; exact List.mem_cons_of_mem _ hb), fun z => hp (z ▸ hb)⟩
  · have h2' : (ρ'.os ++ [p])[j]? = some b := h2
    by_cases el : j < ρ'.os.length
    · rw [List.getElem?_append_left el] at h2'
      rw [List.getElem?_append_left (by rw [rl.len]; exact el)] at h1
      exact (rl.at_ j u b h1 h2').grow (wk_adopt e) rfl
    · have e2 : j = ρ'.os.length := by
        have := (List.getElem?_eq_some_iff.mp h2').1
        simp at this
        omega
      subst e2
      rw [List.getElem?_append_right (Nat.le_refl _)] at h2'
      rw [List.getElem?_append_right (by rw [rl.len]; exact Nat.le_refl _), rl.len] at h1
      simp at h1 h2'
      subst h1 h2'
      exact hm
theorem Rl.show_ {ρ2 : Rho} {p : Addr} (rl : Rl K ρ' G H) (e : ρ'.hd = p :: ρ2.hd) (e2 : ρ'.os = ρ2.os) : Rl K ρ2 G H :=
  ⟨by rw [← e2]; exact rl.nd, by rw [← e2]; exact rl.len, fun a ha => by rw [← e2]; exact rl.dj a (by rw [e]; exact List.mem_cons_of_mem _ ha), fun a ha => rl.hs a (by rw [e]; exact List.mem_cons_of_mem _ ha),
    fun i u a h1 h2 => (rl.at_ i u a h1 (by rw [e2]; exact h2)).grow (wk_out e e2) rfl⟩
end

section
variable {ρ ρ1 ρ' ρ4 : Rho} {H1 H' H4 : Hp} {D : Addr}
theorem step_outer {o : HO} (h : Step ρ1 H1 ⟨ρ'.os, ρ1.hd⟩ H') (s : Step ρ' H' ρ4 H4) (hh : ρ'.hd = D :: ρ1.hd) (hD : H1 D = none) (hs : ∀ a ∈ ρ1.hd, ∃ o, H1 a = some o) : Step ρ1 H1 ⟨ρ4.os, ρ1.hd⟩ (upd H4 D o) := by
  obtain ⟨t, et⟩ := h.ext
  obtain ⟨u, eu⟩ := s.ext
  refine ⟨⟨t ++ u, by rw [← List.append_assoc, ← et]; exact eu⟩, rfl, fun a ob e n => ?_, fun a ha => ?_⟩
  · have ne := ne_of_none e hD
    obtain ⟨k1, k2⟩ := h.keep a ob e n
    have n2 : ρ'.no a := ⟨k2.1, by
      rw [hh]
      simp only [List.mem_cons, not_or]
      exact ⟨ne, k2.2⟩⟩
    obtain ⟨k3, k4⟩ := s.keep a ob k1 n2
    exact ⟨by rw [upd_ne ne]; exact k3, k4.1, n.2⟩
  · obtain ⟨ob, e⟩ := hs a ha
    rw [upd_ne (ne_of_none e hD)]
    exact (s.kh a (by rw [hh]; exact List.mem_cons_of_mem _ ha)).trans (h.kh a ha)
theorem step_inner {o : HO} (s : Step ρ' H' ρ4 H4) (hm : D ∈ ρ'.hd) : Step ρ' (upd H' D o) ρ4 (upd H4 D o) :=
  ⟨s.ext, s.hid, fun a ob e n => by
    have ne : a ≠ D := fun z => n.2 (by rw [z]; exact hm)
    rw [upd_ne ne] at e
    obtain ⟨k1, k2⟩ := s.keep a ob e n
    exact ⟨by rw [upd_ne ne]; exact k1, k2⟩, fun a ha => by
    by_cases z : a = D
    · rw [z, upd_same, upd_same]
    · rw [upd_ne z, upd_ne z]
      exact s.kh a ha⟩
end

/-! ### the code -/
def wipeD {α : Type} (σ : List (Option α)) : List Nat → List (Option α)
  | [] => σ
  | v :: vs => (wipeD σ vs).set v none
theorem wipe_eq (σ : St) : ∀ vs : List Nat, wipe σ vs = wipeD σ vs
  | [] => rfl
  | v :: vs => by unfold wipe wipeD; rw [wipe_eq σ vs]
theorem wipeD_length {α : Type} (σ : List (Option α)) : ∀ vs : List Nat, (wipeD σ vs).length = σ.length
  | [] => rfl
  | v :: vs => by unfold wipeD; rw [List.length_set, wipeD_length σ vs]
theorem wipeD_get {α : Type} (σ : List (Option α)) (j : Nat) : ∀ vs : List Nat, (wipeD σ vs)[j]? = if j ∈ vs then (σ[j]?).map (fun _ => none) else σ[j]?
  | [] => by simp [wipeD]
  | v :: vs => by
    unfold wipeD
    rw [List.getElem?_set]
    by_cases h : v = j
    · subst h
      simp only [if_true, List.mem_cons, true_or]
      rw [wipeD_length]
      by_cases hl : v < σ.length
      · simp [hl]
      · simp [hl]
    · rw [if_neg h, wipeD_get σ j vs]
      have : (j ∈ v :: vs) ↔ j ∈ vs := by
        simp only [List.mem_cons]
        exact ⟨fun z => z.resolve_left (fun e => h e.symm), .inr⟩
      simp only [this]
theorem wipeD_setAll {α : Type} {vs : List Nat} : ∀ (is : List Nat) (xs : List α) (σ : List (Option α)), (∀ i ∈ is, i ∈ vs) → wipeD (setAll is xs σ) vs = wipeD σ vs
  | [], _, _, _ => by simp [setAll]
  | _ :: _, [], _, _ => by simp [setAll]
  | i :: is, x :: xs, σ, h => by
    simp only [setAll]
    rw [wipeD_setAll is xs _ fun j hj => h j (List.mem_cons_of_mem _ hj)]
    apply List.ext_getElem?
    intro j
    rw [wipeD_get, wipeD_get]
    by_cases hj : j ∈ vs
    · rw [if_pos hj, if_pos hj]
      by_cases e : i = j
      · subst e
        by_cases hl : i < σ.length
        · simp [hl]
        · simp [hl]
      · rw [List.getElem?_set_ne e]
    · rw [if_neg hj, if_neg hj]
      have : i ≠ j := fun e => hj (e ▸ h i List.mem_cons_self)
      rw [List.getElem?_set_ne this]
theorem wipeD_idem {α : Type} (σ : List (Option α)) (vs : List Nat) : wipeD (wipeD σ vs) vs = wipeD σ vs := by
  apply List.ext_getElem?
  intro j
  rw [wipeD_get, wipeD_get]
  by_cases hj : j ∈ vs
  · rw [if_pos hj, if_pos hj]
    cases σ[j]? <;> rfl
  · rw [if_neg hj, if_neg hj]
theorem SRel.wipe {K : PySem.W.Frag} {ρ : Rho} {H : Hp} {ds : Sl} {σ : St} (h : SRel K ρ H ds σ) (vs : List Nat) : SRel K ρ H (wipeD ds vs) (L2.wipe σ vs) := fun i d e => by
  rw [wipe_eq]
  rw [wipeD_get] at e
  by_cases hj : i ∈ vs
  · rw [if_pos hj] at e
    cases q : ds[i]? with
    | none => rw [q] at e; cases e
    | some o => rw [q] at e; cases e
  · rw [if_neg hj] at e
    obtain ⟨v, e1, e2⟩ := h i d e
    exact ⟨v, by rw [wipeD_get, if_neg hj]; exact e1, e2⟩
/-- the items of a comprehension's turns that are left; ds: the slots, the block's own wiped -/
def compL (s : Src) (t : Tg) (c : M Bool) (e : M D) (its : List D) : List D → M (List D)
  | [] => fun ds G => match items G s with
    | some l => if decDs l its = true then .ok [] G else .stuck
    | none => .stuck
  | x :: r => fun ds G => match items G s with
    | some l => if decDs l its = true then (match tgS t x ds G with
      | .nx ds1 G1 => (match c ds1 G1 with
        | .ok true G2 => (match e ds1 G2 with
          | .ok y G3 => (match compL s t c e its r ds G3 with
            | .ok ys G4 => .ok (y :: ys) G4
            | _ => .stuck)
          | _ => .stuck)
        | .ok false G2 => compL s t c e its r ds G2
        | _ => .stuck)
      | _ => .stuck) else .stuck
    | none => .stuck
def compD (ob : Bool) (t : Tg) (c : M Bool) (e : M D) (vs : List Nat) (s : Src) : M D := fun ds G => match items G s with
  | some its => (match compL s t c e its its (wipeD ds vs) G with
    | .ok ys G1 => if ys.length ≤ sizeLine then (if ob = true then .ok (.obj G1.length) (G1 ++ [.lst ys]) else .ok (.tl ys) G1) else .stuck
    | _ => .stuck)
  | none => .stuck
def yes : M Bool := ret true
/-- nothing is raised in a block -/
def W0 : Wq := ⟨fun _ _ _ _ => False, [], fun _ _ => True, fun _ _ _ _ _ _ => trivial⟩
theorem compL_ok {s : Src} {t : Tg} {c : M Bool} {e : M D} {its : List D} : ∀ {r : List D} {ds : Sl} {G : Gs}, (∃ ys G1, compL s t c e its r ds G = .ok ys G1) ∨ compL s t c e its r ds G = .stuck := by
  intro r
  induction r with
  | nil =>
    intro ds G
    simp only [compL]
    cases items G s with
    | none => exact .inr rfl
    | some l =>
      simp only
      split
      · exact .inl ⟨_, _, rfl⟩
      · exact .inr rfl
  | cons x r ih =>
    intro ds G
    simp only [compL]
    cases items G s with
    | none => exact .inr rfl
    | some l =>
      simp only
      split
      · cases tgS t x ds G with
        | nx ds1 G1 =>
          simp only
          cases c ds1 G1 with
          | ok k G2 =>
            cases k with
            | true =>
              simp only
              cases e ds1 G2 with
              | ok y G3 =>
                simp only
                rcases ih (ds := ds) (G := G3) with ⟨ys, G4, q⟩ | q
                · rw [q]; exact .inl ⟨_, _, rfl⟩
                · rw [q]; exact .inr rfl
              | _ => exact .inr rfl
            | false => exact ih
          | _ => exact .inr rfl
        | _ => exact .inr rfl
      · exact .inr rfl
section
variable {X : Cx} {W : Wq} {pos : Pos}
def MTs (X : Cx) (W : Wq) (ifs : List Expr) (c : M Bool) : Prop := PTs X ifs (LT X.K W c)
theorem _root_.L2.PTs.conv {X : Cx} {e : List Expr} {t t' : TT} (h : PTs X e t) (c : ∀ σ H Q, t' σ H Q → t σ H Q) : PTs X e t' := ⟨fun pins s σ H Q I q => h.run pins s σ H Q I (c _ _ _ q)⟩
theorem mts_nil : MTs X W [] yes := pts_nil.conv fun σ H Q ⟨ρ, G, ds, rl, sr, hl, p⟩ => p ρ H true (Step.refl _ _) rl rfl
theorem mts_one {c : Expr} {t : M Bool} (h : MT X W c t) : MTs X W [c] t := pts_one h
/-- a test, an element that let nothing out -/
theorem pst0 {α β : Type} {Rel : Rho → Hp → α → β → Prop} {K : PySem.W.Frag} {σ : St} {ρ : Rho} {H : Hp} {r : R α} {Q : β → Hp → Prop} {a : α} {G : Gs} (e : r = .ok a G) (q : ∀ ρ' H' v, Step ρ H ρ' H' → Rl K ρ' G H' → Rel ρ' H' a v → Q v H') : Pst K W0 Rel σ ρ H r Q := by
  subst e
  exact q
theorem comp_conv {ob : Bool} {vs : List Nat} {t : Tg} {mi : M Src} {c : M Bool} {e : M D} {σ : St} {H : Hp} {Q : VK} (hv : ∀ i ∈ tgI t, i ∈ vs) (h : LE X.K W (bnd mi (compD ob t c e vs)) σ H Q) :
    tLc (LI X.K W mi) (gTg X.K t) (LT X.K W0 c) (LE X.K W0 e) vs σ H Q := by
  obtain ⟨ρ, G, ds, rl, sr, hl, p⟩ := h
  refine ⟨ρ, G, ds, rl, sr, hl, ?_⟩
  unfold bnd at p
  revert p
  cases mi ds G with
  | exc e G1 => exact fun p => p
  | stuck => exact fun p => p
  | ok s G1 =>
    intro p ρ1 H1 J s1 r1 sj
    replace p := p.step s1
    have sr1 := sr.step s1
    simp only [compD] at p
    cases q : items G1 s with
    | none => simp only [q] at p; exact p.elim
    | some its =>
      simp only [q] at p
      intro D hD
      rcases compL_ok (s := s) (t := t) (c := c) (e := e) (its := its) (r := its) (ds := wipeD ds vs) (G := G1) with ⟨zs, Gz, qz⟩ | qz
      case inr => rw [qz] at p; exact p.elim
      rw [qz] at p
      simp only at p
      split at p
      case isFalse => exact p.elim
      rename_i hzs
      -- the words between the turns
      refine ⟨fun i m H' => m = its.length - i ∧ i ≤ its.length ∧ ∃ ρ' G' acc accV ys, ρ'.hd = D :: ρ1.hd ∧ H' D = some (.lst accV) ∧ Step ρ1 H1 ⟨ρ'.os, ρ1.hd⟩ H' ∧ Rl X.K ρ' G' H' ∧ Step (ρ1.hide D) (upd H1 D (.lst [])) ρ' (upd H' D (.lst [])) ∧
        DRels X.K ρ' H' acc accV ∧ compL s t c e its (its.drop i) (wipeD ds vs) G' = .ok ys Gz ∧ acc ++ ys = zs, ⟨_, rfl, Nat.zero_le _, ρ1.hide D, G1, [], [], zs, rfl, upd_same, step_upd r1 hD, r1.hideN hD, ?_, rfl, qz, rfl⟩, ?_⟩
      · rw [upd_upd]; exact Step.refl _ _
      rintro i m H' ⟨rfl, hi', ρ', G', acc, accV, ys, hhd, hD', st1, r', st2, hacc, qy, hys⟩
      have sw : SRel X.K ρ' H' (wipeD ds vs) (wipe σ vs) := by
        have a1 : SRel X.K (ρ1.hide D) (upd H1 D (.lst [])) (wipeD ds vs) (wipe σ vs) := (sr1.grow (wk_in r1 hD)).wipe vs
        have a2 := a1.step st2
        have hm : D ∈ ρ'.hd := by rw [hhd]; exact List.mem_cons_self
        -- from the heap with the list emptied to the heap as it is
        have w : Grow ρ' (upd H' D (.lst [])) ρ' H' := ⟨⟨[], by simp⟩, fun a o ea n => ⟨by
          have ne : a ≠ D := fun z => n.2 (by rw [z]; exact hm)
          rw [upd_ne ne] at ea
          exact ea, n⟩⟩
        exact a2.grow w
      have hm : D ∈ ρ'.hd := by rw [hhd]; exact List.mem_cons_self
      have hwl : Lk W0 ρ' H' (wipeD ds vs) (wipe σ vs) := ⟨by rw [wipeD_length, wipe_eq, wipeD_length]; exact hl.len, fun p hp => (by cases hp), trivial⟩
      have toJ : Grow ρ1 H1 ρ' H' := ⟨st1.ext, fun a o ea n => by
        obtain ⟨k1, k2⟩ := st1.keep a o ea n
        refine ⟨k1, k2.1, ?_⟩
        rw [hhd]
        simp only [List.mem_cons, not_or]
        exact ⟨ne_of_none ea hD, k2.2⟩⟩
      have rout : Rl X.K ⟨ρ'.os, ρ1.hd⟩ G' H' := r'.show_ hhd rfl
      by_cases hlt : i < its.length
      · rw [List.drop_eq_getElem_cons hlt] at qy
        simp only [compL] at qy
        cases q2 : items G' s with
        | none => simp only [q2] at qy; cases qy
        | some l =>
          simp only [q2] at qy
          split at qy
          case isFalse => cases qy
          rename_i eq
          have e2 := decDs_eq eq
          subst e2
          obtain ⟨go, yl⟩ := (sj ρ' G' H' toJ r' l q2 i).1 l[i] (by simp [hlt])
          refine .inr ⟨go, fun H2 => ∃ m', m' < l.length - i ∧ (m' = l.length - (i + 1) ∧ i + 1 ≤ l.length ∧ ∃ ρ' G' acc accV ys, ρ'.hd = D :: ρ1.hd ∧ H2 D = some (.lst accV) ∧ Step ρ1 H1 ⟨ρ'.os, ρ1.hd⟩ H2 ∧ Rl X.K ρ' G' H2 ∧ Step (ρ1.hide D) (upd H1 D (.lst [])) ρ' (upd H2 D (.lst [])) ∧
            DRels X.K ρ' H2 acc accV ∧ compL s t c e l (l.drop (i + 1)) (wipeD ds vs) G' = .ok ys Gz ∧ acc ++ ys = zs), fun H2 z => z, fun x H2 y => ?_⟩
          obtain ⟨s2, r2, d2⟩ := yl x H2 y
          rcases tgS_or t l[i] (wipeD ds vs) G' with ⟨ds1, q3⟩ | q3
          case inr => rw [q3] at qy; cases qy
          rw [q3] at qy
          simp only at qy
          refine gTg_of (W := W0) q3 r2 (sw.step s2) (hwl.step s2) (fun p hp => by cases hp) d2 fun is xs eis sr3 hl3 => ⟨?_, ?_⟩
          · have hsub : ∀ i ∈ is, i ∈ vs := fun i hi => hv i (by
              rw [eis]
              exact hi)
            rw [wipe_eq, wipe_eq, wipeD_setAll _ _ _ hsub, wipeD_idem]
          -- behind the turn, with the list rewritten or as it was
          have fin : ∀ (ρ4 : Rho) (H4 : Hp) (G4 : Gs) (acc2 : List M3.D) (accV2 : List V) (ys2 : List M3.D), Step ρ' H2 ρ4 H4 → Rl X.K ρ4 G4 H4 → DRels X.K ρ4 H4 acc2 accV2 → compL s t c e l (l.drop (i + 1)) (wipeD ds vs) G4 = .ok ys2 Gz → acc2 ++ ys2 = zs →
              ∃ m', m' < l.length - i ∧ (m' = l.length - (i + 1) ∧ i + 1 ≤ l.length ∧ ∃ ρ' G' acc accV ys, ρ'.hd = D :: ρ1.hd ∧ (upd H4 D (.lst accV2)) D = some (.lst accV) ∧ Step ρ1 H1 ⟨ρ'.os, ρ1.hd⟩ (upd H4 D (.lst accV2)) ∧ Rl X.K ρ' G' (upd H4 D (.lst accV2)) ∧
                Step (ρ1.hide D) (upd H1 D (.lst [])) ρ' (upd (upd H4 D (.lst accV2)) D (.lst [])) ∧ DRels X.K ρ' (upd H4 D (.lst accV2)) acc accV ∧ compL s t c e l (l.drop (i + 1)) (wipeD ds vs) G' = .ok ys Gz ∧ acc ++ ys = zs) := fun ρ4 H4 G4 acc2 accV2 ys2 s4 r4 d4 q4 e4 => by
            have ss := s2.trans s4
            have hm4 : D ∈ ρ4.hd := by rw [ss.hid]; exact hm
            obtain ⟨w4, rw4⟩ := r4.hwrite (o := .lst accV2) hm4
            refine ⟨_, by omega, rfl, by omega, ρ4, G4, acc2, accV2, ys2, ss.hid.trans hhd, upd_same, step_outer st1 ss hhd hD r1.hs, rw4, ?_, d4.grow w4, q4, e4⟩
            rw [upd_upd]
            exact st2.trans (step_inner ss hm)
          have keepD : ∀ {ρ4 : Rho} {H4 : Hp}, Step ρ' H2 ρ4 H4 → H4 D = some (.lst accV) := fun {ρ4 H4} s4 => ((s2.trans s4).kh D hm).trans hD'
          have updD : ∀ {H4 : Hp}, H4 D = some (.lst accV) → upd H4 D (.lst accV) = H4 := fun {H4} hh => by
            funext b
            by_cases z : b = D
            · rw [z, upd_same, hh]
            · rw [upd_ne z]
          refine ⟨ρ', G', ds1, r2, sr3, hl3, ?_⟩
          cases q5 : c ds1 G' with
          | exc e5 G5 => rw [q5] at qy; cases qy
          | stuck => rw [q5] at qy; cases qy
          | ok k G2 =>
            rw [q5] at qy
            intro ρ3 H3 b s3 r3 eb
            obtain rfl : k = b := eb
            cases k with
            | false =>
              simp only at qy
              rw [if_neg Bool.false_ne_true]
              have hK := keepD s3
              have z := fin ρ3 H3 G2 acc accV ys s3 r3 (hacc.step (s2.trans s3)) qy hys
              rw [updD hK] at z
              exact z
            | true =>
              simp only at qy
              rw [if_pos rfl]
              refine ⟨ρ3, G2, ds1, r3, sr3.step s3, hl3.step s3, ?_⟩
              cases q6 : e ds1 G2 with
              | exc e5 G5 => rw [q6] at qy; cases qy
              | stuck => rw [q6] at qy; cases qy
              | ok y' G3 =>
                rw [q6] at qy
                simp only at qy
                intro ρ4 H4 v s4 r4 d4
                rcases compL_ok (s := s) (t := t) (c := c) (e := e) (its := l) (r := l.drop (i + 1)) (ds := wipeD ds vs) (G := G3) with ⟨ys2, G6, q7⟩ | q7
                case inr => rw [q7] at qy; cases qy
                rw [q7] at qy
                simp only at qy
                injection qy with e8 e9
                subst e8 e9
                have s5 := s3.trans s4
                refine ⟨accV, keepD s5, ?_, fin ρ4 H4 G3 (acc ++ [y']) (accV ++ [v]) ys2 s5 r4 ((hacc.step (s2.trans s5)).append (drels_one d4)) q7 (by rw [List.append_assoc]; exact hys)⟩
                have l1 := hacc.length
                have l2 : (acc ++ y' :: ys2).length = zs.length := by rw [hys]
                rw [List.length_append, List.length_cons] at l2
                omega
      · have e : i = its.length := by omega
        subst e
        rw [List.drop_length] at qy
        simp only [compL] at qy
        cases q2 : items G' s with
        | none => simp only [q2] at qy; cases qy
        | some l =>
          simp only [q2] at qy
          split at qy
          case isFalse => cases qy
          rename_i eq
          have e2 := decDs_eq eq
          subst e2
          cases qy
          rw [List.append_nil] at hys
          subst hys
          refine .inl ⟨(sj _ _ _ toJ r' l q2 l.length).2 (Nat.le_refl _), ?_⟩
          have nD : ¬ D ∈ ρ1.hd := fun z => by
            obtain ⟨o, eo⟩ := r1.hs D z
            rw [hD] at eo
            cases eo
          cases ob with
          | false =>
            rw [if_neg Bool.false_ne_true] at p
            exact p ⟨ρ'.os, ρ1.hd⟩ H' (.ref D) st1 rout ⟨D, accV, rfl, ⟨⟨r'.dj D hm, nD⟩, hD'⟩, hacc.grow (wk_out (ρ2 := ⟨ρ'.os, ρ1.hd⟩) hhd rfl)⟩
          | true =>
            rw [if_pos rfl] at p
            refine p ⟨ρ'.os ++ [D], ρ1.hd⟩ H' (.ref D) ⟨?_, rfl, fun a o ea n => ?_, st1.kh⟩ (r'.adopt hhd nD ⟨accV, hD', hacc.grow (wk_adopt hhd)⟩) ⟨D, ?_, rfl⟩
            · obtain ⟨t, et⟩ := st1.ext
              exact ⟨t ++ [D], by rw [← List.append_assoc, ← et]⟩
            · obtain ⟨k1, k2⟩ := st1.keep a o ea n
              refine ⟨k1, ?_, k2.2⟩
              show ¬ a ∈ ρ'.os ++ [D]
              simp only [List.mem_append, List.mem_singleton, not_or]
              exact ⟨k2.1, ne_of_none ea hD⟩
            · show (ρ'.os ++ [D])[_]? = _
              rw [r'.len]
              simp
theorem me_comp {ob : Bool} {elt tg iter : Expr} {ifs : List Expr} {scope : Scope} {own : List (Str × Nat)} {t : Tg} {mi : M Src} {c : M Bool} {e : M D} (hc : X.calm = true) (hN : X.N.Nodup) (hi : MI X W tg iter mi) (ok : BlkOk X.N X.env.scope scope own)
    (hg : ∀ (s : Shared) (H : Hp) (C : Addr) (cl : List (Str × Addr)) (fp : List Addr), PG (X.blk s H scope (compEnvC scope cl C X.env) fp) tg (gTg X.K t))
    (ht : ∀ (s : Shared) (H : Hp) (C : Addr) (cl : List (Str × Addr)) (fp : List Addr), MTs (X.blk s H scope (compEnvC scope cl C X.env) fp) W0 ifs c)
    (he : ∀ (s : Shared) (H : Hp) (C : Addr) (cl : List (Str × Addr)) (fp : List Addr), ME (X.blk s H scope (compEnvC scope cl C X.env) fp) W0 elt e)
    (hv : ∀ i ∈ tgI t, i ∈ own.map (·.2) := by decide) (hs : ∀ x, foldedSetIterable iter X.env x = pure x := by intro _; rfl) :
    ME X W (.ListComp elt [⟨tg, iter, ifs, 0⟩] scope pos) (bnd mi (compD ob t c e (own.map (·.2)))) := (pe_lc (tt := LT X.K W0 c) (te := LE X.K W0 e) hc hN hi ok hg ht he hs).conv fun σ H Q h => comp_conv hv h
theorem ms_setcomp {ob : Bool} {i : Nat} {y : Str} {py spos : Pos} {elt tg iter : Expr} {ifs : List Expr} {scope : Scope} {own : List (Str × Nat)} {t : Tg} {mi : M Src} {c : M Bool} {e : M D} (hc : X.calm = true) (hN : X.N.Nodup) (hy : X.N[i]? = some y) (hyl : X.env.scope.names.lookup y = some .local)
    (hsw : swapsWith (.ListComp elt [⟨tg, iter, ifs, 0⟩] scope pos) (some (.Name y py)) spos.line X.env = pure true) (hi : MI X W tg iter mi) (ok : BlkOk X.N X.env.scope scope own)
    (hg : ∀ (s : Shared) (H : Hp) (C : Addr) (cl : List (Str × Addr)) (fp : List Addr), PG (X.blk s H scope (compEnvC scope cl C X.env) fp) tg (gTg X.K t))
    (ht : ∀ (s : Shared) (H : Hp) (C : Addr) (cl : List (Str × Addr)) (fp : List Addr), MTs (X.blk s H scope (compEnvC scope cl C X.env) fp) W0 ifs c)
    (he : ∀ (s : Shared) (H : Hp) (C : Addr) (cl : List (Str × Addr)) (fp : List Addr), ME (X.blk s H scope (compEnvC scope cl C X.env) fp) W0 elt e)
    (hv : ∀ i ∈ tgI t, i ∈ own.map (·.2) := by decide) (hs : ∀ x, foldedSetIterable iter X.env x = pure x := by intro _; rfl) (hfx : ∀ p ∈ W.fx, p.1 ≠ i := by intro p hp; first | cases hp | (cases hp; decide)) :
    MSt X W (.Assign [.Name y py] (.ListComp elt [⟨tg, iter, ifs, 0⟩] scope pos) spos) (bndS (bnd mi (compD ob t c e (own.map (·.2)))) (setS i)) := (ps_setLc (tt := LT X.K W0 c) (te := LE X.K W0 e) hc hN hy hyl hsw hi ok hg ht he hs).conv fun σ H Q ⟨ρ, G, ds, rl, sr, hl, p⟩ =>
  comp_conv hv (le_seqS p rl sr hl fun v H1 ρ1 G1 a s1 r1 sr1 hl1 d1 p1 => p1 ρ1 H1 _ (Step.refl _ _) r1 (sr1.set (Nat.le_of_eq hl1.len) i d1) (hl1.set hfx) (by simp))
end
end M3
end L2

set_option Elab.async false
set_option linter.all false
set_option maxRecDepth 100000
set_option maxHeartbeats 2000000
/-! M3g: calls, methods, fields, stores, defs. -/
namespace L2
namespace M3
open PySem PySem.Spec PyProof.Rows

/-! ### a def by its code -/
def startD (N : Nat) (ds : List D) : Sl := ds.map some ++ List.replicate (N - ds.length) none
def runF (N : Nat) (b : MS) : FM := fun ds G => match b (startD N ds) G with
  | .nx _ G1 => .ok .non G1
  | .rt d G1 => .ok d G1
  | .exc e _ G1 => .exc e G1
  | _ => .stuck
/-- what a def's body wants of exceptions -/
def WD (E : XK) : Wq := ⟨fun c dd _ H => E c dd H, [], fun _ _ => True, fun _ _ _ _ _ _ => trivial⟩
theorem srel_start {K : PySem.W.Frag} {ρ : Rho} {H : Hp} {ds : List D} {vs : List V} (N : List Str) (h : DRels K ρ H ds vs) : SRel K ρ H (startD N.length ds) (start N vs) := fun i d e => by
  have hl := h.length
  unfold startD at e
  unfold start
  by_cases hi : i < ds.length
  · rw [List.getElem?_append_left (by simpa using hi), List.getElem?_map] at e
    cases q : ds[i]? with
    | none => rw [q] at e; cases e
    | some d' =>
      rw [q] at e
      cases e
      obtain ⟨v, e1, e2⟩ := h.get q
      refine ⟨v, ?_, e2⟩
      rw [List.getElem?_append_left (by rw [List.length_map, ← hl]; exact hi), List.getElem?_map, e1]
      rfl
  · rw [List.getElem?_append_right (by simpa using hi), List.getElem?_replicate] at e
    split at e <;> cases e
theorem start_len {ds : List D} {vs : List V} (N : List Str) (h : ds.length = vs.length) : (startD N.length ds).length = (start N vs).length := by
  unfold startD start
  simp [h]
section
variable {P : Program} {w : World} {K : PySem.W.Frag} {mg : Str → Option Value} {base : Heap} {x qual : Str} {params : Arguments} {body : List Stmt} {scope : Scope} {f : Addr} {fd : FuncData}
/-- THE RULE of a def -/
theorem fn_okX {N ps : List Str} {k : Nat} {b : MS} (F : FunD K x qual params body scope [] [] f fd) (S : FnScope N ps scope)
    (hbody : ∀ (cdv : Value) (A : Around) (outer : List Env) (s : Shared) (H : Hp) (E : XK), Room k (A.deeper (envOfC qual scope s.heap.objs.size f cdv)) → MSs (cxOf (L2.CX P w) P w K mg base N qual scope f cdv A outer s H E) (WD E) body b) :
    FnOk P w K mg base (L2.CX P w) (k + 1) f fd ps (spM K ps.length (runF N.length b)) := by
  refine F.ok S (fun vs H Q E h => h.1) (fun cdv A outer s H vs Q E hr h => ⟨_, hbody cdv A outer s H E hr, ?_⟩)
  obtain ⟨hn, ρ, G, ds, rl, dr, p⟩ := h
  refine ⟨ρ, G, startD N.length ds, rl, srel_start N dr, ⟨start_len N dr.length, fun p hp => (by cases hp), trivial⟩, ?_⟩
  unfold runF at p
  revert p
  cases b (startD N.length ds) G with
  | nx ds1 G1 => exact fun p ρ1 H1 σ1 s1 r1 _ _ _ => p ρ1 H1 .non s1 r1 rfl
  | rt d G1 => exact fun p => p
  | bk ds1 G1 => exact fun p => p.elim
  | ct ds1 G1 => exact fun p => p.elim
  | exc e ds1 G1 => exact fun p ρ1 H1 σ1 c dd s1 r1 _ _ _ x1 => p ρ1 H1 c dd s1 r1 x1
  | stuck => exact fun p => p
end

/-! ### freezing what a def made -/
mutual
/-- data told without the objects from n on; k: how deep objects are followed -/
def frzD (G : Gs) (n : Nat) (rec : Nat → Option D) : D → Option D
  | .obj i => if i < n then some (.obj i) else rec i
  | .tup ds => (frzDs G n rec ds).map D.tup
  | .tl ds => (frzDs G n rec ds).map D.tl
  | .fz ds => (frzDs G n rec ds).map D.fz
  | .ti C ks ds => (frzDs G n rec ds).map (D.ti C ks)
  | .td ks ds => (frzDs G n rec ds).map (D.td ks)
  | d => some d
def frzDs (G : Gs) (n : Nat) (rec : Nat → Option D) : List D → Option (List D)
  | [] => some []
  | d :: ds => match frzD G n rec d, frzDs G n rec ds with
    | some a, some as => some (a :: as)
    | _, _ => none
end
def recO (G : Gs) (n : Nat) : Nat → Nat → Option D
  | 0, _ => none
  | k + 1, i => match G[i]? with
    | some (.lst ds) => (frzDs G n (recO G n k) ds).map D.tl
    | some (.ins C fs) => (frzDs G n (recO G n k) (fs.map (·.2))).map (D.ti C (fs.map (·.1)))
    | some (.dct kvs) => (frzDs G n (recO G n k) (kvs.map (·.2))).map (D.td (kvs.map (·.1)))
    | none => none
/-- objects below n speak of such alone -/
def below (n : Nat) : Gs → Bool
  | [] => true
  | .lst ds :: r => belowDs n ds && below n r
  | .ins _ fs :: r => belowDs n (fs.map (·.2)) && below n r
  | .dct kvs :: r => belowDs n (kvs.map (·.2)) && below n r
where
  belowD (n : Nat) : D → Bool
    | .obj i => decide (i < n)
    | .tup ds => belowDs n ds
    | .tl ds => belowDs n ds
    | .fz ds => belowDs n ds
    | .ti _ _ ds => belowDs n ds
    | .td _ ds => belowDs n ds
    | _ => true
  belowDs (n : Nat) : List D → Bool
    | [] => true
    | d :: ds => belowD n d && belowDs n ds
section
variable {K : PySem.W.Frag} {ρ : Rho} {G : Gs} {H : Hp} {n : Nat}
def Rho.cut (ρ : Rho) (n : Nat) : Rho := ⟨ρ.os.take n, ρ.hd⟩
theorem no_cut {a : Addr} (h : ρ.no a) : (ρ.cut n).no a := ⟨fun z => h.1 (List.mem_of_mem_take z), h.2⟩
theorem TupN.cut {a xs} (h : TupN K ρ H a xs) : TupN K (ρ.cut n) H a xs := h.imp (fun x => ⟨no_cut x.1, x.2⟩) id
theorem LstF.cut {a xs} (h : LstF K ρ H a xs) : LstF K (ρ.cut n) H a xs := h.imp (fun x => ⟨no_cut x.1, x.2⟩) id
theorem no_obj (rl : Rl K ρ G H) {i : Nat} {a : Addr} (hi : n ≤ i) (h : ρ.os[i]? = some a) : (ρ.cut n).no a := by
  refine ⟨fun z => ?_, fun z => rl.dj a z (List.mem_of_getElem? h)⟩
  obtain ⟨j, hj, e⟩ := List.mem_iff_getElem.mp (show a ∈ ρ.os.take n from z)
  rw [List.getElem_take] at e
  have hj2 : j < min n ρ.os.length := by simpa using hj
  obtain ⟨l2, e2⟩ := List.getElem?_eq_some_iff.mp h
  have := (List.getElem_inj rl.nd).mp (e.trans e2.symm)
  omega
mutual
theorem frzD_rel (rl : Rl K ρ G H) {rec : Nat → Option D} (hr : ∀ i d v, n ≤ i → rec i = some d → DRel K ρ H (.obj i) v → DRel K (ρ.cut n) H d v) : ∀ {d d' : D} {v : V}, frzD G n rec d = some d' → DRel K ρ H d v → DRel K (ρ.cut n) H d' v
  | .obj i, d', v, h, r => by
    simp only [frzD] at h
    split at h
    · rename_i hi
      cases h
      obtain ⟨a, e1, e2⟩ := r
      refine ⟨a, ?_, e2⟩
      show (ρ.os.take n)[i]? = some a
      rw [List.getElem?_take_of_lt hi]
      exact e1
    · exact hr i d' v (by omega) h r
  | .tup ds, d', v, h, r => by
    simp only [frzD] at h
    cases q : frzDs G n rec ds with
    | none => rw [q] at h; cases h
    | some es =>
      rw [q] at h
      cases h
      obtain ⟨a, xs, e1, e2, e3⟩ := r
      exact ⟨a, xs, e1, e2.cut, frzDs_rel rl hr q e3⟩
  | .tl ds, d', v, h, r => by
    simp only [frzD] at h
    cases q : frzDs G n rec ds with
    | none => rw [q] at h; cases h
    | some es =>
      rw [q] at h
      cases h
      obtain ⟨a, xs, e1, e2, e3⟩ := r
      exact ⟨a, xs, e1, ⟨no_cut e2.1, e2.2⟩, frzDs_rel rl hr q e3⟩
  | .fz ds, d', v, h, r => by
    simp only [frzD] at h
    cases q : frzDs G n rec ds with
    | none => rw [q] at h; cases h
    | some es =>
      rw [q] at h
      cases h
      obtain ⟨a, xs, e1, e2, e3⟩ := r
      exact ⟨a, xs, e1, e2.cut, frzDs_rel rl hr q e3⟩
  | .ti C ks ds, d', v, h, r => by
    simp only [frzD] at h
    cases q : frzDs G n rec ds with
    | none => rw [q] at h; cases h
    | some es =>
      rw [q] at h
      cases h
      obtain ⟨a, dx, xs, e1, e2, e3, e4, e5⟩ := r
      exact ⟨a, dx, xs, e1, no_cut e2, e3, e4, frzDs_rel rl hr q e5⟩
  | .td ks ds, d', v, h, r => by
    simp only [frzD] at h
    cases q : frzDs G n rec ds with
    | none => rw [q] at h; cases h
    | some es =>
      rw [q] at h
      cases h
      obtain ⟨a, xs, e1, e2, e3, e4⟩ := r
      exact ⟨a, xs, e1, no_cut e2, e3, frzDs_rel rl hr q e4⟩
  | .non, _, _, h, r => by cases h; exact r
  | .bl _, _, _, h, r => by cases h; exact r
  | .int _, _, _, h, r => by cases h; exact r
  | .str _, _, _, h, r => by cases h; exact r
  | .ty _, _, _, h, r => by cases h; exact r
  | .glo _, _, _, h, r => by cases h; exact r
theorem frzDs_rel (rl : Rl K ρ G H) {rec : Nat → Option D} (hr : ∀ i d v, n ≤ i → rec i = some d → DRel K ρ H (.obj i) v → DRel K (ρ.cut n) H d v) : ∀ {ds es : List D} {vs : List V}, frzDs G n rec ds = some es → DRels K ρ H ds vs → DRels K (ρ.cut n) H es vs
  | [], _, _, h, r => by cases h; exact r
  | d :: ds, es, vs, h, r => by
    obtain ⟨v, us, rfl, r1, r2⟩ := r
    simp only [frzDs] at h
    split at h
    · cases h
      rename_i q1 q2
      exact ⟨v, us, rfl, frzD_rel rl hr q1 r1, frzDs_rel rl hr q2 r2⟩
    · cases h
end
theorem recO_rel (rl : Rl K ρ G H) : ∀ (k i : Nat) (d : D) (v : V), n ≤ i → recO G n k i = some d → DRel K ρ H (.obj i) v → DRel K (ρ.cut n) H d v
  | 0, _, _, _, _, h, _ => by cases h
  | k + 1, i, d, v, hi, h, r => by
    obtain ⟨a, e1, e2⟩ := r
    simp only [recO] at h
    cases q : G[i]? with
    | none => rw [q] at h; cases h
    | some o =>
      rw [q] at h
      have m := rl.at_ i o a q e1
      cases o with
      | lst ds =>
        simp only at h
        cases q2 : frzDs G n (recO G n k) ds with
        | none => rw [q2] at h; cases h
        | some es =>
          rw [q2] at h
          cases h
          obtain ⟨xs, m1, m2⟩ := m
          exact ⟨a, xs, e2, ⟨no_obj rl hi e1, m1⟩, frzDs_rel rl (recO_rel rl k) q2 m2⟩
      | ins C fs =>
        simp only at h
        cases q2 : frzDs G n (recO G n k) (fs.map (·.2)) with
        | none => rw [q2] at h; cases h
        | some es =>
          rw [q2] at h
          cases h
          obtain ⟨dx, xs, m1, m2⟩ := m
          refine ⟨a, dx, xs, e2, no_obj rl hi e1, m1, ?_, frzDs_rel rl (recO_rel rl k) q2 m2⟩
          rw [← m2.length, List.length_map, List.length_map]
      | dct kvs =>
        simp only at h
        cases q2 : frzDs G n (recO G n k) (kvs.map (·.2)) with
        | none => rw [q2] at h; cases h
        | some es =>
          rw [q2] at h
          cases h
          rcases m with ⟨l, m1, m2, m3⟩ | ⟨l, m1, m2, m3⟩
          · exact ⟨a, _, e2, no_obj rl hi e1, .inl ⟨l, m1, m2, rfl⟩, frzDs_rel rl (recO_rel rl k) q2 m3⟩
          · exact ⟨a, _, e2, no_obj rl hi e1, .inr ⟨l, m1, m2, rfl⟩, frzDs_rel rl (recO_rel rl k) q2 m3⟩
mutual
theorem belowD_rel : ∀ {d : D} {v : V}, below.belowD n d = true → DRel K ρ H d v → DRel K (ρ.cut n) H d v
  | .obj i, v, h, r => by
    have hi : i < n := by simpa [below.belowD] using h
    obtain ⟨a, e1, e2⟩ := r
    refine ⟨a, ?_, e2⟩
    show (ρ.os.take n)[i]? = some a
    rw [List.getElem?_take_of_lt hi]
    exact e1
  | .tup ds, v, h, r => by
    obtain ⟨a, xs, e1, e2, e3⟩ := r
    exact ⟨a, xs, e1, e2.cut, belowDs_rel h e3⟩
  | .tl ds, v, h, r => by
    obtain ⟨a, xs, e1, e2, e3⟩ := r
    exact ⟨a, xs, e1, ⟨no_cut e2.1, e2.2⟩, belowDs_rel h e3⟩
  | .fz ds, v, h, r => by
    obtain ⟨a, xs, e1, e2, e3⟩ := r
    exact ⟨a, xs, e1, e2.cut, belowDs_rel h e3⟩
  | .ti C ks ds, v, h, r => by
    obtain ⟨a, dx, xs, e1, e2, e3, e4, e5⟩ := r
    exact ⟨a, dx, xs, e1, no_cut e2, e3, e4, belowDs_rel h e5⟩
  | .td ks ds, v, h, r => by
    obtain ⟨a, xs, e1, e2, e3, e4⟩ := r
    exact ⟨a, xs, e1, no_cut e2, e3, belowDs_rel h e4⟩
  | .non, _, _, r => r
  | .bl _, _, _, r => r
  | .int _, _, _, r => r
  | .str _, _, _, r => r
  | .ty _, _, _, r => r
  | .glo _, _, _, r => r
theorem belowDs_rel : ∀ {ds : List D} {vs : List V}, below.belowDs n ds = true → DRels K ρ H ds vs → DRels K (ρ.cut n) H ds vs
  | [], _, _, r => r
  | d :: ds, vs, h, r => by
    obtain ⟨v, us, rfl, r1, r2⟩ := r
    have h' : below.belowD n d = true ∧ below.belowDs n ds = true := by simpa [below.belowDs] using h
    exact ⟨v, us, rfl, belowD_rel h'.1 r1, belowDs_rel h'.2 r2⟩
end
theorem below_at : ∀ {L : Gs} {i : Nat} {o : MO} {a : Addr}, below n L = true → L[i]? = some o → MRel K ρ H a o → MRel K (ρ.cut n) H a o
  | [], i, o, a, _, e, _ => by simp at e
  | m :: r, 0, o, a, h, e, x => by
    simp at e
    subst e
    cases m with
    | lst ds =>
      have h' : below.belowDs n ds = true ∧ below n r = true := by simpa [below] using h
      obtain ⟨xs, m1, m2⟩ := x
      exact ⟨xs, m1, belowDs_rel h'.1 m2⟩
    | ins C fs =>
      have h' : below.belowDs n (fs.map (·.2)) = true ∧ below n r = true := by simpa [below] using h
      obtain ⟨dx, xs, m1, m2⟩ := x
      exact ⟨dx, xs, m1, belowDs_rel h'.1 m2⟩
    | dct kvs =>
      have h' : below.belowDs n (kvs.map (·.2)) = true ∧ below n r = true := by simpa [below] using h
      rcases x with ⟨l, m1, m2, m3⟩ | ⟨l, m1, m2, m3⟩
      · exact .inl ⟨l, m1, m2, belowDs_rel h'.1 m3⟩
      · exact .inr ⟨l, m1, m2, belowDs_rel h'.1 m3⟩
  | m :: r, i + 1, o, a, h, e, x => by
    have h' : below n r = true := by
      cases m <;> (simp [below] at h; exact h.2)
    exact below_at (L := r) (i := i) h' (by simpa using e) x
theorem rl_cut (rl : Rl K ρ G H) (h : below n (G.take n) = true) (hn : n ≤ ρ.os.length) : Rl K (ρ.cut n) (G.take n) H := by
  refine ⟨rl.nd.sublist (List.take_sublist _ _), ?_, fun a ha z => rl.dj a ha (List.mem_of_mem_take z), rl.hs, fun i o a h1 h2 => ?_⟩
  · show (G.take n).length = (ρ.os.take n).length
    rw [List.length_take, List.length_take, rl.len]
  · have hi : i < n := by
      have := (List.getElem?_eq_some_iff.mp h1).1
      rw [List.length_take] at this
      omega
    refine below_at h h1 (rl.at_ i o a ?_ ?_)
    · rw [List.getElem?_take_of_lt hi] at h1; exact h1
    · have h2' : (ρ.os.take n)[i]? = some a := h2
      rw [List.getElem?_take_of_lt hi] at h2'
      exact h2'
end
/-- a def that leaves none of its own objects -/
def trim (k : Nat) (f : FM) : FM := fun ds G => match f ds G with
  | .ok d G1 => if below G.length (G1.take G.length) = true then (match frzD G1 G.length (recO G1 G.length k) d with
    | some d' => .ok d' (G1.take G.length)
    | none => .stuck) else .stuck
  | .exc e G1 => if below G.length (G1.take G.length) = true then (match e.f with
    | none => .exc ⟨e.c, none⟩ (G1.take G.length)
    | some (x, d) => (match frzD G1 G.length (recO G1 G.length k) d with
      | some d' => .exc ⟨e.c, some (x, d')⟩ (G1.take G.length)
      | none => .stuck)) else .stuck
  | .stuck => .stuck
theorem step_cut {ρ ρ' : Rho} {H H' : Hp} {n : Nat} (s : Step ρ H ρ' H') (hn : n = ρ.os.length) : Step ρ H (ρ'.cut n) H' ∧ ρ'.cut n = ρ := by
  obtain ⟨t, et⟩ := s.ext
  have e : ρ'.cut n = ρ := by
    unfold Rho.cut
    rw [et, hn, List.take_left, s.hid]
  rw [e]
  exact ⟨⟨⟨[], by simp⟩, rfl, fun a o h1 h2 => ⟨(s.keep a o h1 h2).1, h2⟩, s.kh⟩, rfl⟩
theorem trim_sp {K : PySem.W.Frag} {n k : Nat} {f : FM} {vs : List V} {H : Hp} {Q : VK} {E : XK} (h : spM K n (trim k f) vs H Q E) : spM K n f vs H Q E := by
  obtain ⟨hn, ρ, G, ds, rl, dr, p⟩ := h
  refine ⟨hn, ρ, G, ds, rl, dr, ?_⟩
  unfold trim at p
  revert p
  cases f ds G with
  | stuck => exact fun p => p
  | ok d G1 =>
    intro p ρ' H' v s r dd
    simp only at p
    by_cases hb : below G.length (G1.take G.length) = true
    case neg => rw [if_neg hb] at p; exact p.elim
    rw [if_pos hb] at p
    cases q : frzD G1 G.length (recO G1 G.length k) d with
    | none => rw [q] at p; exact p.elim
    | some d' =>
      rw [q] at p
      obtain ⟨s2, e2⟩ := step_cut s rl.len
      exact p _ H' v s2 (rl_cut r hb (by obtain ⟨t, et⟩ := s.ext; rw [et, rl.len]; simp)) (frzD_rel r (fun i d v hi => recO_rel r k i d v hi) q dd)
  | exc e G1 =>
    intro p ρ' H' c dd s r xx
    simp only at p
    by_cases hb : below G.length (G1.take G.length) = true
    case neg => rw [if_neg hb] at p; exact p.elim
    rw [if_pos hb] at p
    obtain ⟨s2, e2⟩ := step_cut s rl.len
    have r2 := rl_cut r hb (by obtain ⟨t, et⟩ := s.ext; rw [et, rl.len]; simp)
    obtain ⟨x1, x2⟩ := xx
    cases q : e.f with
    | none =>
      rw [q] at p x2
      exact p _ H' c dd s2 r2 ⟨x1, x2⟩
    | some xd =>
      obtain ⟨x, d⟩ := xd
      rw [q] at p x2
      obtain ⟨a, v, y1, y2, y3, y4⟩ := x2
      simp only at p
      cases q2 : frzD G1 G.length (recO G1 G.length k) d with
      | none => rw [q2] at p; exact p.elim
      | some d' =>
        rw [q2] at p
        exact p _ H' c dd s2 r2 ⟨x1, a, v, y1, no_cut y2, y3, frzD_rel r (fun i d v hi => recO_rel r k i d v hi) q2 y4⟩
theorem trim_ok {P : Program} {w : World} {K : PySem.W.Frag} {mg : Str → Option Value} {base : Heap} {CX : CXT} {k j n : Nat} {f : Addr} {fd : FuncData} {ps : List Str} {fm : FM} (F : FnOk P w K mg base CX k f fd ps (spM K n fm)) : FnOk P w K mg base CX k f fd ps (spM K n (trim j fm)) :=
  F.imp fun _ _ _ _ h => trim_sp h

/-! ### calls of the text's own -/
def callM (n : Nat) (f : FM) (ds : List D) : M D := fun _ G => if ds.length = n then f ds G else .stuck
section
variable {X : Cx} {W : Wq} {e : Expr} {es : List Expr} {pos p : Pos} {m : M (List D)} {me : M D}
theorem sp_of {K : PySem.W.Frag} {n : Nat} {f : FM} {ds : List D} {vs : List V} {σ : St} {ρ : Rho} {H : Hp} {l : Sl} {G : Gs} {Q : VK} (p : Pst K W (DRel K) σ ρ H (callM n f ds l G) Q) (rl : Rl K ρ G H) (r : DRels K ρ H ds vs) : spM K n f vs H Q (WE W.w σ) := by
  unfold callM at p
  split at p
  · rename_i hn
    refine ⟨by rw [← r.length]; exact hn, ρ, G, ds, rl, r, ?_⟩
    revert p
    unfold Pst
    cases f ds G <;> exact fun p => p
  · exact p.elim
theorem me_call {x : Str} {k n : Nat} {f : Addr} {fd : FuncData} {ps : List Str} {fm : FM} (F : FnOk X.prog X.w X.K X.mg X.base (L2.CX X.prog X.w) k f fd ps (spM X.K n fm)) (hr : Room k X.A) (hg : Gl X x) (hm : X.mg x = some (.ref f)) (hk : PySem.W.keepIn X.K (.ref f) = true) (hb : Binds X.K fd ps []) (tk : Takes X W.w) (ha : MA X W (e :: es) m)
    (hdb : (x == ("__debug__" : Str)) = false := by decide) (he : starEach (e :: es) X.env = (false, eval e X.env) :: starEach es X.env := by rfl) (hpl : (backTo pos (starEach es X.env)).any (·.1) = false := by rfl) : ME X W (.Call (.Name x p) (e :: es) [] pos) (bnd m (callM n fm)) :=
  (pe_callS F hr hg hm hk hb (fun σ => passAt tk σ) ha hdb he hpl).conv fun σ H Q ⟨ρ, G, ds, rl, sr, hl, p⟩ => la_seq p rl sr hl fun xs H1 ρ1 G1 c s1 r1 sr1 hl1 d1 p1 => sp_of p1 r1 d1
theorem pe_callS0 {CX : CXT} {x : Str} {k : Nat} {f : Addr} {fd : FuncData} {ps : List Str} {sp : Sp} {E : St → XK} (F : FnOk X.prog X.w X.K X.mg X.base CX k f fd ps sp) (hr : Room k X.A) (hg : Gl X x) (hm : X.mg x = some (.ref f)) (hk : PySem.W.keepIn X.K (.ref f) = true) (hb : Binds X.K fd ps []) (hx : ∀ σ, PassesAt CX X σ (E σ))
    (hdb : (x == ("__debug__" : Str)) = false := by decide) : PE X (.Call (.Name x p) [] [] pos) (tCallS sp E tNil) := by
  refine ⟨fun pins s σ H Q I h => ?_⟩
  refine wpAny_Call_Name_kw (ld_glob I hg hm ?_ hdb)
  exact PySem.W.callWith_K0 I.kIn hk (run_fnS (us := []) F hr hb (hx σ) I .nil h)
theorem me_call0 {x : Str} {k n : Nat} {f : Addr} {fd : FuncData} {ps : List Str} {fm : FM} (F : FnOk X.prog X.w X.K X.mg X.base (L2.CX X.prog X.w) k f fd ps (spM X.K n fm)) (hr : Room k X.A) (hg : Gl X x) (hm : X.mg x = some (.ref f)) (hk : PySem.W.keepIn X.K (.ref f) = true) (hb : Binds X.K fd ps []) (tk : Takes X W.w)
    (hdb : (x == ("__debug__" : Str)) = false := by decide) : ME X W (.Call (.Name x p) [] [] pos) (callM n fm []) :=
  (pe_callS0 F hr hg hm hk hb (fun σ => passAt tk σ) hdb).conv fun σ H Q ⟨ρ, G, ds, rl, sr, hl, p⟩ => sp_of p rl rfl

/-! ### methods of built-in types -/
/-- a value of that built-in type, whose methods are asked -/
def tyOk (T : String) (x : D) (G : Gs) : Bool := match x with
  | .str _ => decide (T = "str")
  | x => match lstD G x with
    | some _ => decide (T = "list")
    | none => false
def chk {α : Type} (c : Gs → Bool) (m : M α) : M α := fun ds G => if c G = true then m ds G else .stuck
/-- an answer and the objects behind it -/
def lof (f : Gs → Option (D × Gs)) : M D := fun _ G => match f G with
  | some (d, G1) => .ok d G1
  | none => .stuck
theorem lof_inv {K : PySem.W.Frag} {σ : St} {ρ H} {f : Gs → Option (D × Gs)} {ds : Sl} {G} {Q : VK} (p : Pst K W (DRel K) σ ρ H (lof f ds G) Q) :
    ∃ d G1, f G = some (d, G1) ∧ ∀ ρ' H' v, Step ρ H ρ' H' → Rl K ρ' G1 H' → DRel K ρ' H' d v → Q v H' := by
  unfold lof at p
  revert p
  cases f G with
  | none => exact False.elim
  | some d => exact fun p => ⟨d.1, d.2, rfl, p⟩
def rMt (K : PySem.W.Frag) (f : D → List D → Gs → Option (D × Gs)) : V → List V → Hp → VK → Prop := fun x xs H Q => ∃ ρ G a as d G1, Rl K ρ G H ∧ DRel K ρ H a x ∧ DRels K ρ H as xs ∧ f a as G = some (d, G1) ∧
  ∀ ρ' H' v, Step ρ H ρ' H' → Rl K ρ' G1 H' → DRel K ρ' H' d v → Q v H'
theorem tyOk_at {K : PySem.W.Frag} {ρ : Rho} {G : Gs} {H : Hp} {T : String} {d : D} {v : V} (rl : Rl K ρ G H) (h : tyOk T d G = true) (r : DRel K ρ H d v) : tyV K T v H := by
  unfold tyOk at h
  split at h
  · obtain rfl : v = _ := r
    have e : T = "str" := of_decide_eq_true h
    exact e
  · split at h
    · rename_i ds e
      obtain ⟨a, xs, rfl, h1, h2⟩ := lst_at rl e r
      exact .inl ⟨of_decide_eq_true h, xs, .of h1⟩
    · cases h
theorem chk_inv {K : PySem.W.Frag} {α β : Type} {Rel : Rho → Hp → α → β → Prop} {σ : St} {ρ : Rho} {H : Hp} {c : Gs → Bool} {m : M α} {ds : Sl} {G : Gs} {Q : β → Hp → Prop} (p : Pst K W Rel σ ρ H (chk c m ds G) Q) : c G = true ∧ Pst K W Rel σ ρ H (m ds G) Q := by
  unfold chk at p
  split at p
  · exact ⟨by assumption, p⟩
  · exact p.elim
variable {o : Expr} {mo : M D} {name : Str} {apos cpos : Pos} {T id : String} {f : D → List D → Gs → Option (D × Gs)}
theorem me_bm (pa : PlainAttrs T) (slot : Slot T name id) (hty : typeOf (.builtin id) = pure (.type "method_descriptor")) (hm : MtR X id (rMt X.K f)) (ho : ME X W o mo) (ha : MA X W (e :: es) m)
    (hbase : attributeBase o name X.env (eval o X.env) = eval o X.env := by rfl)
    (hfew : ((backTo cpos (starEach (e :: es) X.env)).all (fun x => !x.1) && (backToKw cpos (keywordEach [] X.env)).all (fun x => x.1.isSome)
      && decide ((e :: es).length + ([] : List Keyword).length + (if ([] : List Keyword).isEmpty then 0 else 1) < 30)) = true := by rfl)
    (hline : (apos.endLine == cpos.line) = true := by rfl) (hs : starEach (e :: es) X.env = (false, eval e X.env) :: starEach es X.env := by rfl) (hplain : (backTo cpos (starEach es X.env)).any (·.1) = false := by rfl) :
    ME X W (.Call (.Attribute o name apos) (e :: es) [] cpos) (bnd mo fun x => chk (tyOk T x) (bnd m fun ds => lof (f x ds))) := (pe_bm pa slot hty hm ho ha hbase hfew hline hs hplain).conv fun σ H Q ⟨ρ, G, ds, rl, sr, hl, p⟩ => by
  refine le_seq p rl sr hl fun x H1 ρ1 G1 c s1 r1 sr1 hl1 d1 p1 => ?_
  obtain ⟨hc, p1⟩ := chk_inv p1
  refine ⟨tyOk_at r1 hc d1, la_seq p1 r1 sr1 hl1 fun xs H2 ρ2 G2 as s2 r2 sr2 hl2 d2 p2 => ?_⟩
  obtain ⟨d', G', e, q⟩ := lof_inv p2
  exact ⟨ρ2, G2, c, as, d', G', r2, d1.step s2, d2, e, q⟩
theorem me_bm0 (pa : PlainAttrs T) (slot : Slot T name id) (hty : typeOf (.builtin id) = pure (.type "method_descriptor")) (hm : MtR X id (rMt X.K f)) (ho : ME X W o mo)
    (hbase : attributeBase o name X.env (eval o X.env) = eval o X.env := by rfl) (hline : (apos.endLine == cpos.line) = true := by rfl) :
    ME X W (.Call (.Attribute o name apos) [] [] cpos) (bnd mo fun x => chk (tyOk T x) (lof (f x []))) := (pe_bm0 pa slot hty hm ho hbase hline).conv fun σ H Q ⟨ρ, G, ds, rl, sr, hl, p⟩ => by
  refine le_seq p rl sr hl fun x H1 ρ1 G1 c s1 r1 sr1 hl1 d1 p1 => ?_
  obtain ⟨hc, p1⟩ := chk_inv p1
  obtain ⟨d', G', e, q⟩ := lof_inv p1
  exact ⟨tyOk_at r1 hc d1, ρ1, G1, c, [], d', G', r1, d1, rfl, e, q⟩
/-- the list that is changed -/
def objL (G : Gs) (x : D) : Option (Nat × List D) := match x with
  | .obj i => (match G[i]? with
    | some (.lst ds) => some (i, ds)
    | _ => none)
  | _ => none
theorem objL_at {K : PySem.W.Frag} {ρ : Rho} {G : Gs} {H : Hp} {d : D} {v : V} {i : Nat} {ds : List D} (rl : Rl K ρ G H) (h : objL G d = some (i, ds)) (r : DRel K ρ H d v) :
    ∃ a xs, v = .ref a ∧ H a = some (.lst xs) ∧ DRels K ρ H ds xs ∧ ρ.os[i]? = some a ∧ a ∈ ρ.os ∧ ∀ ds' xs', DRels K ρ H ds' xs' → Rl K ρ (G.set i (.lst ds')) (upd H a (.lst xs')) := by
  unfold objL at h
  split at h
  · rename_i j
    cases q : G[j]? with
    | none => rw [q] at h; cases h
    | some ob =>
      rw [q] at h
      cases ob with
      | lst es =>
        cases h
        obtain ⟨a, h1, rfl⟩ := r
        obtain ⟨xs, h2, h3⟩ := rl.at_ _ _ a q h1
        have hm := List.mem_of_getElem? h1
        refine ⟨a, xs, rfl, h2, h3, h1, hm, fun ds' xs' h4 => rl.write h1 ⟨xs', upd_same, h4.step (step_write rl hm)⟩⟩
      | _ => cases h
  · cases h
def appendF : D → List D → Gs → Option (D × Gs) := fun x ds G => match objL G x, ds with
  | some (i, es), [d] => if es.length < sizeLine then some (.non, G.set i (.lst (es ++ [d]))) else none
  | _, _ => none
theorem mAppend : MtR X "list.append" (rMt X.K appendF) := by
  intro pins s σ H x xs v us Q I rx rs ⟨ρ, G, a, as, d, G1, rl, ha, hs, e, q⟩
  unfold appendF at e
  split at e
  · split at e
    · cases e
      rename_i i es d e1 hz
      obtain ⟨p, ys, rfl, h1, h2, h3, h4, h5⟩ := objL_at rl e1 ha
      obtain ⟨v1, r1, rfl, d1, e2⟩ := hs
      cases e2
      exact mt_append _ _ _ _ _ _ _ _ _ I rx rs ⟨p, ys, v1, rfl, rfl, h1, by rw [← h2.length]; exact hz, q ρ _ _ (step_write rl h4) (h5 _ _ (h2.append (drels_one d1))) rfl⟩
    · cases e
  · cases e
def extendF : D → List D → Gs → Option (D × Gs) := fun x ds G => match objL G x, ds with
  | some (i, es), [d] => (match lstD G d with
    | some fs => if es.length + fs.length ≤ sizeLine then some (.non, G.set i (.lst (es ++ fs))) else none
    | none => none)
  | _, _ => none
theorem mExtend : MtR X "list.extend" (rMt X.K extendF) := by
  intro pins s σ H x xs v us Q I rx rs ⟨ρ, G, a, as, d, G1, rl, ha, hs, e, q⟩
  unfold extendF at e
  split at e
  · split at e
    · split at e
      · cases e
        rename_i i es d e1 _ fs e3 hz
        obtain ⟨p, ys, rfl, h1, h2, h3, h4, h5⟩ := objL_at rl e1 ha
        obtain ⟨v1, r1, rfl, d1, e2⟩ := hs
        cases e2
        obtain ⟨b, zs, rfl, k1, k2⟩ := lst_at rl e3 d1
        exact mt_extend _ _ _ _ _ _ _ _ _ I rx rs ⟨p, b, ys, zs, rfl, rfl, h1, k1, by rw [← h2.length, ← k2.length]; exact hz, q ρ _ _ (step_write rl h4) (h5 _ _ (h2.append k2)) rfl⟩
      · cases e
    · cases e
  · cases e
theorem DRels.dropLast {K : PySem.W.Frag} {ρ : Rho} {H : Hp} {ds : List D} {xs : List V} (h : DRels K ρ H ds xs) : DRels K ρ H ds.dropLast xs.dropLast := by
  rw [List.dropLast_eq_take, List.dropLast_eq_take, h.length]
  exact h.take _
theorem DRels.eraseIdx {K : PySem.W.Frag} {ρ : Rho} {H : Hp} {ds : List D} {xs : List V} (h : DRels K ρ H ds xs) (k : Nat) : DRels K ρ H (ds.eraseIdx k) (xs.eraseIdx k) := by
  rw [List.eraseIdx_eq_take_drop_succ, List.eraseIdx_eq_take_drop_succ]
  exact (h.take _).append (h.drop _)
/-- l.pop(), l.pop(k) -/
def popG (i : Nat) (es : List D) (G : Gs) : List D → Option (D × Gs)
  | [] => (es[es.length - 1]?).map fun d => (d, G.set i (.lst es.dropLast))
  | [.int k] => if -(2 ^ 63) ≤ k ∧ k < 2 ^ 63 then (ixN es.length k).bind fun j => (es[j]?).map fun d => (d, G.set i (.lst (es.eraseIdx j))) else none
  | _ => none
def popF : D → List D → Gs → Option (D × Gs) := fun x ds G => (objL G x).bind fun p => popG p.1 p.2 G ds
theorem mPop : MtR X "list.pop" (rMt X.K popF) := by
  intro pins s σ H x xs v us Q I rx rs ⟨ρ, G, a, as, d, G1, rl, ha, hs, e, q⟩
  unfold popF at e
  cases e1 : objL G a with
  | none => rw [e1] at e; cases e
  | some p =>
    obtain ⟨i, es⟩ := p
    rw [e1, Option.bind_some] at e
    obtain ⟨p, ys, rfl, h1, h2, h3, h4, h5⟩ := objL_at rl e1 ha
    simp only at e
    unfold popG at e
    split at e
    · cases e3 : es[es.length - 1]? with
      | none => rw [e3] at e; cases e
      | some d' =>
        rw [e3] at e
        cases e
        cases hs
        obtain ⟨w, e4, e5⟩ := h2.get e3
        rw [h2.length] at e4
        exact mt_pop _ _ _ _ _ _ _ _ _ I rx rs ⟨p, ys, w, rfl, rfl, h1, e4, q ρ _ _ (step_write rl h4) (h5 _ _ h2.dropLast) (e5.step (step_write rl h4))⟩
    · rename_i k
      split at e
      · rename_i hk
        cases e3 : ixN es.length k with
        | none => rw [e3] at e; cases e
        | some j =>
          rw [e3, Option.bind_some] at e
          cases e4 : es[j]? with
          | none => rw [e4] at e; cases e
          | some d' =>
            rw [e4] at e
            cases e
            obtain ⟨v1, r1, rfl, d1, e2⟩ := hs
            cases e2
            cases d1
            obtain ⟨w, e5, e6⟩ := h2.get e4
            obtain ⟨k1, _, _, _⟩ := ixN_seq e3
            exact mt_popAt _ _ _ _ _ _ _ _ _ I rx rs ⟨p, ys, k, j, w, rfl, rfl, h1, hk.1, hk.2, by rw [← h2.length]; exact k1, e5, q ρ _ _ (step_write rl h4) (h5 _ _ (h2.eraseIdx j)) (e6.step (step_write rl h4))⟩
      · cases e
    · cases e

/-! ### o[i] = v -/
def setIx (o i v : D) : MS := fun ds G => match objL G o, i with
  | some (j, es), .int k => (match ixN es.length k with
    | some n => .nx ds (G.set j (.lst (es.set n v)))
    | none => .stuck)
  | _, _ => .stuck
theorem ms_setix {i : Expr} {tpos : Pos} {mi : M D} (he : ME X W e me) (ho : ME X W o mo) (hi : ME X W i mi)
    (ha : ∀ v, assign (.Subscript o i tpos) X.env v = (do
      let ov ← holding [v] (eval o X.env)
      let iv ← holding [v, ov] (eval i X.env)
      standAt tpos
      holding [v, ov, iv] (setItem ov iv v)
      release [v, ov, iv] []) := by intro _; rfl)
    (hs : swapsWithSole [.Subscript o i tpos] e pos.line X.env = pure false := by rfl) (hw : swappedStores [.Subscript o i tpos] e X.env = pure none := by rfl)
    (h1 : (assignEach [.Subscript o i tpos] X.env).map (·.2) = [assign (.Subscript o i tpos) X.env] := by rfl) :
    MSt X W (.Assign [.Subscript o i tpos] e pos) (bndS me fun v => bndS mo fun x => bndS mi fun y => setIx x y v) := (ps_asg he (pg_sub ho hi set_list ha) hs hw h1).conv fun σ H Q ⟨ρ, G, ds, rl, sr, hl, p⟩ => by
  refine le_seqS p rl sr hl fun v H1 ρ1 G1 a s1 r1 sr1 hl1 d1 p1 => ?_
  refine le_seqS p1 r1 sr1 hl1 fun x H2 ρ2 G2 b s2 r2 sr2 hl2 d2 p2 => ?_
  refine le_seqS p2 r2 sr2 hl2 fun y H3 ρ3 G3 c s3 r3 sr3 hl3 d3 p3 => ?_
  unfold setIx at p3
  split at p3
  · split at p3
    · rename_i j es k e1 _ n e3
      obtain ⟨q, ys, rfl, h1, h2, h3, h4, h5⟩ := objL_at r3 e1 (d2.step s3)
      obtain rfl : y = _ := d3
      have st := step_write (o := .lst (ys.set n v)) r3 h4
      exact ⟨q, ys, k, n, rfl, rfl, h1, by rw [← h2.length]; exact e3, p3 ρ3 _ σ st (h5 _ _ (h2.set n ((d1.step s2).step s3))) (sr3.step st) (hl3.step st) rfl⟩
    · exact p3.elim
  · exact p3.elim
end
end M3
end L2

set_option Elab.async false
set_option linter.all false
set_option maxRecDepth 100000
set_option maxHeartbeats 2000000
/-! M3h: own errors whose __init__ is super().__init__('m'); self.f = f. -/
namespace PySem
namespace SupX
open PySem.W PySem.Calls PyProof.Rows PySem.HandSPX
def iA (fld : Str) (p1 p2 : Pos) : Arguments := { posonlyargs := [], args := [{ arg := "self", annotation := none, pos := p1 }, { arg := fld, annotation := none, pos := p2 }], vararg := none, kwonlyargs := [], kw_defaults := [], kwarg := none, defaults := [] }
def iB (fld msg : Str) (q1 q2 q3 q4 q5 q6 r1 r2 r3 r4 : Pos) : List Stmt := [.Expr (.Call (.Attribute (.Call (.Name "super" q1) [] [] q2) "__init__" q3) [.Constant (.str msg) 0 q4] [] q5) q6, .Assign [.Attribute (.Name "self" r1) fld r2] (.Name fld r3) r4]
def iS (fld : Str) : Scope := { kind := .function, names := [(PySem.Str.ofString "self", .local), (fld, .local), (PySem.Str.ofString "__class__", .free), (PySem.Str.ofString "super", .globalImplicit)], isGenerator := false, isCoroutine := false, more := [] }
/-- what the written part says of the class at C and of its __init__, at fI -/
structure SupTxt (P : Program) (K : Frag) (mg : Str → Option Value) (C fI : Addr) (fld : Str) : Prop where
  cls : ∃ nm q N bs bm sn sub ab col dd k0 k1 k2 k3 k5, K.lookup C = some (excClassObj nm q C N bs bm true sn sub ab col dd k0 k1 k2 k3 k5 "ValueError.__new__") ∧ refsVE bm = true
  sa : findIn K (.ref C) "__setattr__" = some (some (.builtin "object.__setattr__"))
  ga : findIn K (.ref C) "__getattribute__" = some (some (.builtin "BaseException.__getattribute__"))
  gg : findIn K (.ref C) "__getattr__" = some none
  noN : findIn K (.ref C) fld = some none
  iC : findIn K (.ref C) "__init__" = some (some (.ref fI))
  tC : typeIn K (.ref fI) = some (.type "function")
  kC : keepIn K (.ref C) = true
  exC : subIn K (.ref C) (.type "BaseException") = some true
  tyC : typeIn K (.ref C) = some (.type "type")
  hdC : hasDictIn K C = true
  sup : ks_superIn K C C "__init__" = some (some (.builtin "ValueError.__init__"))
  veC : subIn K (.ref C) (.type "ValueError") = some true
  mroC : mroIn K C (.ref C) = some true
  op : nsIn K cStatics "thirdparty.any" = some none
  noS : mg "super" = none
  top : (P.main.scope.names.lookup ("super" : Str)).isSome = false
  f1 : fld ≠ "self"
  f2 : fld ≠ "super"
  f3 : fld ≠ "__class__"
  f4 : (fld == ("__debug__" : Str)) = false
  bd : ∀ (qual msg : Str) (doc pm : Value) (an : Option Addr) (cda : Addr) (ct : Value) (cc : Addr) (p1 p2 q1 q2 q3 q4 q5 q6 r1 r2 r3 r4 : Pos) (x v : Value), bindArgs (ksFn "__init__" qual (iA fld p1 p2) (iB fld msg q1 q2 q3 q4 q5 q6 r1 r2 r3 r4) (iS fld) .none .none doc pm an (.ref cda) ct cc) ⟨[x, v], []⟩ = pure [(("self" : Str), x), (fld, v)]
  fn : ∃ (oc : Value) (od : Option Addr) (doc pm : Value) (an : Option Addr) (cda : Addr) (ct : Value) (osl : Array (Option Value)) (cc : Addr) (qual msg : Str) (p1 p2 q1 q2 q3 q4 q5 q6 r1 r2 r3 r4 : Pos),
    K.lookup fI = some ⟨oc, od, .func (ksFn "__init__" qual (iA fld p1 p2) (iB fld msg q1 q2 q3 q4 q5 q6 r1 r2 r3 r4) (iS fld) .none .none doc pm an (.ref cda) ct cc), osl⟩ ∧ codeIn K (.ref cda) qual = true ∧ (q3.endLine == q5.line) = true ∧
    (∃ (ccl : Value) (cdd : Option Addr) (vs : Array Value) (ccs : Array (Option Value)) (file : Str) (tf : Tok), K.lookup cda = some ⟨ccl, cdd, .fields vs, ccs⟩ ∧ vs[2]? = some (.str file tf) ∧ ((P.main.file : Str) == file) = true) ∧
    ∃ (cl : Value) (cld : Option Addr) (csl : Array (Option Value)), K.lookup cc = some ⟨cl, cld, .cell (some (.ref C)), csl⟩
theorem mcall {prog : Program} {w : World} {A : Around} {c : Code} {E : Value → Shared → Prop} {s : Shared} {env : Env} {o : Expr} {name : Str} {apos pos : Pos} {args : List Expr} {Q : Value → Shared → Prop}
    (hform : methodCallForm (args.length + ([] : List Keyword).length) (backTo pos (starEach args env)) (backToKw pos (keywordEach [] env)) = true) (hline : (apos.endLine == pos.line) = true)
    (h : _root_.PySem.wpAt (model prog w) A c (attributeBase o name env (eval o env)) (fun ov s₁ => ∀ pl, wpAny (model prog w) A (getMethod ov name pl) (fun fx s₂ => wpAny (model prog w) A (callWith pos fx.1 fx.2 (backTo pos (starEach args env)) []) Q E s₂) E s₁) E s) :
    _root_.PySem.wpAt (model prog w) A c (eval (.Call (.Attribute o name apos) args [] pos) env) Q E s := by
  have hpos : methodCallPos true o env apos pos = pure pos := by unfold methodCallPos; simp [hline]
  rw [arm_eval_Call]
  refine wpAt_bind (ks_wpAt_mono h (fun ov s₁ h₁ => wpAt_of_wpAny (wpAny_bind (wpAny_standAt ?_))) fun _ _ x => x)
  unfold methodCall
  rw [hform]
  refine wpAny_bind (wpAny_holding (wpAny_mono (h₁ _) (fun fx s₂ h₂ => ?_) fun _ _ x => x))
  exact wpAny_bind (wpAny_of_eq hpos h₂)
theorem kept_but {K : Frag} {h h' : Heap} {x : Addr} (X : K.In h) (hx : K.lookup x = none) (k : ∀ b o, b ≠ x → h.get? b = some o → h'.get? b = some o) : K.In h' := fun a o e =>
  k a o (fun z => by rw [z, hx] at e; cases e) (X a o e)
theorem one_size (v : Value) : [v].length ≤ sizeLine := by
  rw [sizeLine_eq]
  exact (by decide : 1 ≤ 16777216)
/-- what __init__ leaves of a fresh exception at x -/
structure InitEnd (h h' : Heap) (x C dx t1 : Addr) (fld : Str) (v : Value) : Prop where
  keep : ∀ b o, b ≠ x → h.get? b = some o → h'.get? b = some o
  obj : h'.get? x = some { cls := .ref C, dict := some dx, data := .fields #[.ref t1, .none, .none, .none, .bool false, .none] }
  dbig : h.objs.size ≤ dx
  dne : dx ≠ x
  ns : h'.Ns1 dx (fun y => if y = fld then some v else none)
/-- a made error -/
structure OwnMade (h h' : Heap) (e C d : Addr) (fld : Str) (v : Value) : Prop where
  keep : ∀ b o, h.get? b = some o → h'.get? b = some o
  new : h.objs.size ≤ e
  obj : ∃ oe vs, h'.get? e = some oe ∧ oe.cls = .ref C ∧ oe.dict = some d ∧ oe.data = .fields vs ∧ vs[1]? = some .none
  dbig : h.objs.size ≤ d
  dne : d ≠ e
  ns : h'.Ns1 d (fun y => if y = fld then some v else none)
section
variable {prog : Program} {w : World} {A : Around} {E : Value → Shared → Prop} {R : Result → Shared → Prop} {s : Shared} {K : Frag} {mg mb : Str → Option Value} {C fI : Addr} {fld : Str}
theorem sup_init (T : SupTxt prog K mg C fI fld) {x t0 : Addr} {v : Value} (X : K.In s.heap) (hG : s.heap.Ns mainGlobals mg) (hB : s.heap.Ns builtinsNs mb) (hb : mb "super" = some (.type "super")) (hlim : s.heap.NoLimit) (hx : s.heap.get? x = some (excO C t0)) (hnx : K.lookup x = none) (hroom : A.depth < recursionLimit)
    (hq : ∀ h' tk dx t1, InitEnd s.heap h' x C dx t1 fld v → R (.ok (.ret .none)) { s with heap := h', toks := tk }) :
    codeAny (model prog w) A (.call (.ref fI) ⟨[.ref x, v], []⟩) R s := by
  obtain ⟨oc, od, doc, pm, an, cda, ct, osl, cc, qual, msg, p1, p2, q1, q2, q3, q4, q5, q6, r1, r2, r3, r4, ho, hcd, hline, ⟨ccl, cdd, vs, ccs, file, tf, hco, hvs, hfile⟩, cl, cld, csl, hcell⟩ := T.fn
  obtain ⟨nm, q, N, bs, bm, sn, sub, ab, col, dd, k0, k1, k2, k3, k5, hC, hbm⟩ := T.cls
  have hcl : clsIn K C = some { name := nm, bases := bs, mro := .ref C :: bm, ns := N, qualname := q, hasDict := true, slotNames := sn, subclasses := sub, abstract := ab, collection := col, hasDel := false } := by unfold clsIn; rw [hC] <;> rfl
  have l1 : List.lookup ("self" : Str) (iS fld).names = some NameKind.local := by simp [iS, List.lookup]
  have l2 : List.lookup fld (iS fld).names = some NameKind.local := by
    have e : (fld == ("self" : Str)) = false := by simpa using T.f1
    have e' : (fld == PySem.Str.ofString "self") = false := e
    simp [iS, List.lookup, e']
  have l3 : List.lookup ("__class__" : Str) (iS fld).names = some NameKind.free := by
    have e : (("__class__" : Str) == fld) = false := by simpa using Ne.symm T.f3
    have e' : (PySem.Str.ofString "__class__" == fld) = false := e
    show List.lookup ("__class__" : Str) [(PySem.Str.ofString "self", NameKind.local), (fld, NameKind.local), (PySem.Str.ofString "__class__", NameKind.free), (PySem.Str.ofString "super", NameKind.globalImplicit)] = _
    rw [List.lookup_cons, show (("__class__" : Str) == PySem.Str.ofString "self") = false by decide]
    dsimp only
    rw [List.lookup_cons, e]
    rfl
  have l4 : List.lookup ("super" : Str) (iS fld).names = some NameKind.globalImplicit := by
    have e : (("super" : Str) == fld) = false := by simpa using Ne.symm T.f2
    show List.lookup ("super" : Str) [(PySem.Str.ofString "self", NameKind.local), (fld, NameKind.local), (PySem.Str.ofString "__class__", NameKind.free), (PySem.Str.ofString "super", NameKind.globalImplicit)] = _
    rw [List.lookup_cons, show (("super" : Str) == PySem.Str.ofString "self") = false by decide]
    dsimp only
    rw [List.lookup_cons, e]
    rfl
  refine ks_codeAny_call_defAt (fd := ksFn "__init__" qual (iA fld p1 p2) (iB fld msg q1 q2 q3 q4 q5 q6 r1 r2 r3 r4) (iS fld) .none .none doc pm an (.ref cda) ct cc) (body := iB fld msg q1 q2 q3 q4 q5 q6 r1 r2 r3 r4) (binds := [("self", .ref x), (fld, v)]) hroom (X _ _ ho) rfl hlim (codeRec_of X hcd) rfl ?_ ?_ ?_ (fun h₁ hn k => ?_) rfl rfl rfl
  · exact BindsTo.of_eq (T.bd _ _ _ _ _ _ _ _ _ _ _ _ _ _ _ _ _ _ _ _ _ _)
  · intro y hy
    simp only [iS, List.mem_cons, List.not_mem_nil, or_false] at hy
    rcases hy with rfl | rfl | rfl | rfl <;> (intro z; cases z)
  · intro y hy
    simp only [List.mem_cons, List.not_mem_nil, or_false] at hy
    rcases hy with rfl | rfl
    · exact l1
    · exact l2
  · have X₁ : K.In h₁ := X.keeps k
    have hx₁ := k _ _ hx
    have hns : h₁.Ns s.heap.objs.size (fun y => List.lookup y [(fld, v), ("self", .ref x)]) := hn
    have lx : List.lookup ("self" : Str) [(fld, v), ("self", Value.ref x)] = some (.ref x) := by
      have e : (("self" : Str) == fld) = false := by simpa using Ne.symm T.f1
      rw [List.lookup_cons, e]
      rfl
    have lv : List.lookup fld [(fld, v), ("self", Value.ref x)] = some v := by simp [List.lookup]
    show _root_.PySem.wpAt (model prog w) (A.deeper (ksEnv qual (iS fld) s.heap.objs.size fI (.ref cda) cc)) (.func (iB fld msg q1 q2 q3 q4 q5 q6 r1 r2 r3 r4) (ksEnv qual (iS fld) s.heap.objs.size fI (.ref cda) cc)) _ _ _ _
    refine ks_wpAt_execs_cons (ks_wpAt_Expr_any (mcall rfl hline (ks_wpAt_super_base (f := fI) (cc := cda) (ar := { arg := "self", annotation := none, pos := p1 }) l4 l3 (by decide) rfl (X₁ _ _ ho) rfl rfl rfl (X₁ _ _ hco) rfl hvs hfile T.top ?_)) rfl rfl)
    have keepC : h₁.get? C = some (excClassObj nm q C N bs bm true sn sub ab col dd k0 k1 k2 k3 k5 "ValueError.__new__") := X₁ _ _ hC
    refine ks_loadName_global rfl l4 (loadGlobal_builtin (env := ksEnv qual (iS fld) s.heap.objs.size fI (.ref cda) cc) (hG.keeps k) T.noS (hB.keeps k) hb ⟨rfl, ?_⟩)
    refine wpAny_loadName_free rfl l3 rfl ⟨_, X₁ _ _ hcell, rfl⟩ ?_
    refine wpAny_loadName_local rfl l1 hns lx ?_
    obtain ⟨hp0, g, d, tk0, os⟩ := s
    refine ks_wpAny_isType_cls keepC rfl ⟨rfl, ?_⟩
    have I : InstAt h₁ x (excO C t0) C none := ⟨hx₁, rfl, rfl, trivial⟩
    have hxC : x ≠ C := ks_ne X₁ I hcl
    refine ks_wpAny_call_super keepC rfl hx₁ rfl (fun c e => by cases e) (looks_mroIn X₁ T.mroC) (fun h2 e2 kk2 => ?_)
    have X2 : K.In h2 := X₁.keeps kk2
    have I2 : InstAt h2 x (excO C t0) C none := ⟨kk2 _ _ hx₁, rfl, rfl, trivial⟩
    have hm := T.sup
    unfold ks_superIn at hm
    rw [hcl] at hm
    intro pl
    refine kxs_getMethod kxs_ValueError e2 (looks_opaque X2 T.op) (l₀ := .ref C :: bm) (fun A Q E s k q => wpAny_bind ((looks_clsIn X2 hcl) A _ E s k (wpAny_pure q))) rfl X2 hm (I2.type.andThen (looks_subIn X2 T.veC)) hxC (by decide) ?_
    have hu : (h2.push (kxs_mw "ValueError.__init__" x)).get? h2.objs.size = some (kxs_mw "ValueError.__init__" x) := Heap.get?_push_size h2 rfl
    have kk3 : ∀ b o, h2.get? b = some o → (h2.push (kxs_mw "ValueError.__init__" x)).get? b = some o := fun b o e => Heap.get?_push_of_some _ e
    refine kxs_callWith (i := "ValueError.__init__") (x := x) rfl (evalArgs_plain ?_)
    show wpAny _ _ (spliced ((false, eval (.Constant (.str msg) 0 q4) _) :: [])) _ _ _
    refine Calls.spliced_cons (Calls.Constant_str ?_)
    refine Calls.spliced_nil ⟨hu, ?_⟩
    refine wpAny_call (codeAny_of_tree ?_)
    show wpAny _ _ (callAny (.ref h2.objs.size) ⟨[.str msg _], []⟩) _ _ _
    simp only [callAny]
    refine wpAny_bind (wpAny_load hu ?_)
    simp only [kxs_mw, show (Value.type "method-wrapper" == Value.type "method" || Value.type "method-wrapper" == Value.type "builtin_function_or_method" || Value.type "method-wrapper" == Value.type "method-wrapper") = true by decide, if_true]
    refine KFB.if_so (by decide) ?_
    have hC3 := kk3 _ _ (kk2 _ _ keepC)
    have hx3 := kk3 _ _ (kk2 _ _ hx₁)
    refine wpAny_bind (check_bound_init F.excBase_ValueError.toExcCallFacts hC3 hx3 rfl ?_)
    refine wpAny_bind (wpAny_pure (wpAny_pure ?_))
    refine ⟨plainId_quiet F.excBase_ValueError.init.plain _, codeAny_builtin F.excBase_ValueError.initEntry ?_⟩
    refine exc_init_tree (cls := .ref C) (t0 := t0) (dv := none) (c2 := .none) (c3 := .none) (b4 := .bool false) hx3 (one_size _) fun h4 k4 e4 t4 => ?_
    have k5 : ∀ b o, b ≠ x → hp0.get? b = some o → h4.get? b = some o := fun b o hb e => k4 b o hb (kk3 _ _ (kk2 _ _ (k _ _ e)))
    have X4 : K.In h4 := kept_but X hnx k5
    have hns4 : h4.Ns hp0.objs.size (fun y => List.lookup y [(fld, v), ("self", .ref x)]) := by
      obtain ⟨oL, es, ep, hL, r⟩ := hns
      exact ⟨oL, es, ep, k4 _ _ (Nat.ne_of_gt (Heap.lt_size hx)) (kk3 _ _ (kk2 _ _ hL)), r⟩
    have hLlt : hp0.objs.size < h4.objs.size := hns4.lt
    show _root_.PySem.wpAt (model prog w) (A.deeper (ksEnv qual (iS fld) hp0.objs.size fI (.ref cda) cc)) _ (execs [.Assign [.Attribute (.Name "self" r1) fld r2] (.Name fld r3) r4] (ksEnv qual (iS fld) hp0.objs.size fI (.ref cda) cc)) _ _ ⟨h4, g, d, _, os⟩
    refine wpAt_of_wpAny (wpAny_execs_cons (plainObj_wpAny_Assign_Attribute ?_))
    refine wpAny_Name (wpAny_loadName_local rfl l2 hns4 lv ?_) T.f4
    refine wpAny_Name (wpAny_loadName_local rfl l1 hns4 lx ?_) (by decide)
    refine set_plain X4 (ox := excO C (h2.push (kxs_mw "ValueError.__init__" x)).objs.size) (od := none) ⟨e4, rfl, rfl, trivial⟩ T.sa ?_
    refine exc_osa X4 e4 hcl (show refsVE (.ref C :: bm) = true from hbm) rfl T.noN (fun h₃ tk₃ dx k₃ dn dne hx₃ hn₃ => ?_)
    show wpAny _ _ (execs _ _) _ _ _
    exact wpAny_execs_nil (hq h₃ tk₃ dx _ ⟨fun b o hb e => k₃ b o hb (k5 b o hb e), hx₃, Nat.le_of_lt (Nat.lt_of_lt_of_le hLlt dn), dne, hn₃⟩)
theorem sup_made (T : SupTxt prog K mg C fI fld) {v : Value} (X : K.In s.heap) (hG : s.heap.Ns mainGlobals mg) (hB : s.heap.Ns builtinsNs mb) (hb : mb "super" = some (.type "super")) (hlim : s.heap.NoLimit) (hroom : A.depth + 1 < recursionLimit)
    (hq : ∀ h' tk e d, OwnMade s.heap h' e C d fld v → R (.ok (.ret (.ref e))) { s with heap := h', toks := tk }) :
    codeAny (model prog w) A (.call (.ref C) ⟨[v], []⟩) R s := by
  obtain ⟨nm, q, N, bs, bm, sn, sub, ab, col, dd, k0, k1, k2, k3, k5, hC, hbm⟩ := T.cls
  obtain ⟨hp, g, dr, tk, os⟩ := s
  have k : ∀ b o, hp.get? b = some o → ((hp.push (kdv_tup [v])).push (excO C hp.objs.size)).get? b = some o := fun b o e => Heap.get?_push_of_some _ (Heap.get?_push_of_some _ e)
  have hget : ((hp.push (kdv_tup [v])).push (excO C hp.objs.size)).get? (hp.objs.size + 1) = some (excO C hp.objs.size) := by heap_get
  have hnx : K.lookup (hp.objs.size + 1) = none := by
    cases e : K.lookup (hp.objs.size + 1) with
    | none => rfl
    | some o =>
      have z : hp.get? (hp.objs.size + 1) = some o := X _ _ e
      exact absurd (Nat.lt_of_succ_lt (Heap.lt_size z)) (Nat.lt_irrefl _)
  refine call_own F.excBase_ValueError (fun X => refsVE_contains X bm hbm) (X _ _ hC) (looks_findIn X T.iC) (fun self => bind_fn X self T.tC) (one_size v) ?_
  refine sup_init (s := ⟨(hp.push (kdv_tup [v])).push (excO C hp.objs.size), g, dr, tk, os⟩) T (X.keeps k) (hG.keeps k) (hB.keeps k) hb (hlim.keeps k) hget hnx ?_ fun h' tk' dx t1 ⟨k', hx, dn, dne, hns⟩ => ?_
  · show A.depth + 1 < recursionLimit
    exact hroom
  · have old : ∀ b o, hp.get? b = some o → h'.get? b = some o := fun b o e => k' b o (Nat.ne_of_lt (Nat.lt_succ_of_lt (Heap.lt_size e))) (k b o e)
    have z : hp.objs.size + 1 + 1 ≤ dx := by
      first
        | (simpa only [Heap.size_push] using dn)
        | exact dn
        | (have q := dn; rw [Heap.size_push, Heap.size_push] at q; exact q)
    exact ⟨rfl, hq h' tk' (hp.objs.size + 1) dx ⟨old, Nat.le_succ _, ⟨_, _, hx, rfl, rfl, rfl, rfl⟩, Nat.le_trans (Nat.le_trans (Nat.le_succ _) (Nat.le_succ _)) z, dne, hns⟩⟩
end
theorem bd_index : ∀ (qual msg : Str) (doc pm : Value) (an : Option Addr) (cda : Addr) (ct : Value) (cc : Addr) (p1 p2 q1 q2 q3 q4 q5 q6 r1 r2 r3 r4 : Pos) (x v : Value), bindArgs (ksFn "__init__" qual (iA "index" p1 p2) (iB "index" msg q1 q2 q3 q4 q5 q6 r1 r2 r3 r4) (iS "index") .none .none doc pm an (.ref cda) ct cc) ⟨[x, v], []⟩ = pure [(("self" : Str), x), (("index" : Str), v)] := by
  intros; first | rfl | with_unfolding_all rfl
theorem bd_part : ∀ (qual msg : Str) (doc pm : Value) (an : Option Addr) (cda : Addr) (ct : Value) (cc : Addr) (p1 p2 q1 q2 q3 q4 q5 q6 r1 r2 r3 r4 : Pos) (x v : Value), bindArgs (ksFn "__init__" qual (iA "part" p1 p2) (iB "part" msg q1 q2 q3 q4 q5 q6 r1 r2 r3 r4) (iS "part") .none .none doc pm an (.ref cda) ct cc) ⟨[x, v], []⟩ = pure [(("self" : Str), x), (("part" : Str), v)] := by
  intros; first | rfl | with_unfolding_all rfl
theorem bd_most : ∀ (qual msg : Str) (doc pm : Value) (an : Option Addr) (cda : Addr) (ct : Value) (cc : Addr) (p1 p2 q1 q2 q3 q4 q5 q6 r1 r2 r3 r4 : Pos) (x v : Value), bindArgs (ksFn "__init__" qual (iA "most" p1 p2) (iB "most" msg q1 q2 q3 q4 q5 q6 r1 r2 r3 r4) (iS "most") .none .none doc pm an (.ref cda) ct cc) ⟨[x, v], []⟩ = pure [(("self" : Str), x), (("most" : Str), v)] := by
  intros; first | rfl | with_unfolding_all rfl
theorem bd_line : ∀ (qual msg : Str) (doc pm : Value) (an : Option Addr) (cda : Addr) (ct : Value) (cc : Addr) (p1 p2 q1 q2 q3 q4 q5 q6 r1 r2 r3 r4 : Pos) (x v : Value), bindArgs (ksFn "__init__" qual (iA "line" p1 p2) (iB "line" msg q1 q2 q3 q4 q5 q6 r1 r2 r3 r4) (iS "line") .none .none doc pm an (.ref cda) ct cc) ⟨[x, v], []⟩ = pure [(("self" : Str), x), (("line" : Str), v)] := by
  intros; first | rfl | with_unfolding_all rfl
end SupX
end PySem

set_option Elab.async false
set_option linter.all false
set_option maxRecDepth 100000
set_option maxHeartbeats 2000000
/-! M3i: raise, try. -/
namespace L2
namespace M3
open PySem PySem.Spec PyProof.Rows

/-! ### raise -/
section
variable {X : Cx} {C fI : Addr} {fld : Str}
def tMkS (C : Addr) (fld : Str) (ta : TA) : St → Hp → XK → Prop := fun σ H Q => ta σ H fun vs H1 => ∃ v, vs = [v] ∧ ∀ d, H1 d = none → Q (.ref C) (some d) (upd H1 d (.xd [(fld, v)]))
theorem relO_one {v : V} {v' : Value} (r : RelV v v') (g f : Str) : RelO (List.lookup f [(g, v)]) (if f = g then some v' else none) := by
  by_cases hw : f = g
  · subst hw
    rw [if_pos rfl]
    have q : List.lookup f [(f, v)] = some v := by simp [List.lookup]
    rw [q]
    exact r
  · rw [if_neg hw]
    have qw : (f == g) = false := by simpa using hw
    have q2 : List.lookup f [(g, v)] = none := by simp [List.lookup, qw]
    rw [q2]
    trivial
theorem pmk_sup {a : Expr} {ta : TA} {x : Str} {p pos : Pos} {k : Nat} (T : PySem.SupX.SupTxt X.prog X.K X.mg C fI fld) (gC : X.mg x = some (.ref C)) (hr : Room k X.A) (ha : PA X [a] ta) (hg : Gl X x)
    (hdb : (x == ("__debug__" : Str)) = false := by decide)
    (he : starEach (a :: []) X.env = (false, eval a X.env) :: starEach [] X.env := by rfl) (hpl : (backTo pos (starEach [] X.env)).any (·.1) = false := by rfl) :
    PMk X (.Call (.Name x p) [a] [] pos) (tMkS C fld ta) := by
  intro pins s σ H Q I h
  refine wpAny_Call_Name_kw (ld_glob I hg gC ?_ hdb)
  refine PySem.W.callWith_K (h₀ := X.base) I.ok.mod.kin T.kC (thn (ha.run pos pins s σ H _ I h) fun us s1 hh => ?_) he hpl
  obtain ⟨vs, H1, I1, r1, v, ev, q1⟩ := hh
  subst ev
  refine ⟨I1.kIn, ?_⟩
  cases r1 with
  | cons rv rn =>
    rename_i v' us'
    cases rn
    show wpAny _ _ (call (.ref C) [v']) _ _ _
    have hlim := I1.nolimit
    have hG := I1.mod.glob.keeps I1.bk
    obtain ⟨mb, hB0, hb0⟩ := I1.mod.blt
    have hB := hB0.keeps I1.bk
    have hb : mb "super" = some (.type "super") := (hb0 "super" (by decide)).trans (by decide +kernel)
    obtain ⟨hp, g, dr, tk, os⟩ := s1
    refine wpAny_call (PySem.SupX.sup_made T I1.kIn hG hB hb hlim (by have := hr.dp; omega) fun h' tk' e d M => ?_)
    show MkP X pins σ Q (.ref e) ⟨h', g, dr, tk', os⟩
    obtain ⟨oe, fv, hoe, hc, hd, hdat, h1⟩ := M.obj
    have hns := M.ns
    obtain ⟨G', g1, g2⟩ := restrict h' fun b => decide (b ≠ e)
    have gk : ∀ b, b ≠ e → G'.get? b = h'.get? b := fun b hb => g1 b (decide_eq_true hb)
    have ge : G'.get? e = none := g2 e (by simp)
    have old : ∀ b o, hp.get? b = some o → G'.get? b = some o := fun b o q => (gk b (Nat.ne_of_lt (Nat.lt_of_lt_of_le (Heap.lt_size q) M.new))).trans (M.keep b o q)
    have ob : ObjOk X.prog X.w (upd H1 d (.xd [(fld, v)])) G' d (.xd [(fld, v)]) :=
      ⟨_, hns.at (fun o q => (gk d M.dne).trans q), fun f => relO_one rv fld f⟩
    have J : Inv X pins σ (upd H1 d (.xd [(fld, v)])) ⟨G', g, dr, tk', os⟩ := I1.laid (t' := tk') old M.dbig ob
    refine ⟨e, oe, fv, ⟨G', g, dr, tk', os⟩, _, .ref C, some d, rfl, J, fun b o q => ?_, ge, hoe, ⟨hc, hd⟩, hdat, h1, ?_, rfl, I1.bare, raises_own T.exC T.tyC, q1 d (I1.hok.fresh M.dbig)⟩
    · by_cases hb : b = e
      · have q' : G'.get? b = some o := q
        rw [hb, ge] at q'; cases q'
      · exact (gk b hb).symm.trans q
    · rw [upd_ne (Ne.symm M.dne)]
      exact I1.hok.fresh M.new
/-- X() -/
theorem pmk_own0 {bmB : List Value} {B newId initId : String} {x : Str} {p pos : Pos} (F : ExcBaseFacts B newId initId bmB) (q : PySem.W.excIn X.K C bmB newId = true) (gC : X.mg x = some (.ref C)) (kC : PySem.W.keepIn X.K (.ref C) = true) (r : Raises X (.ref C)) (hg : Gl X x)
    (hdb : (x == ("__debug__" : Str)) = false := by decide) : PMk X (.Call (.Name x p) [] [] pos) (fun _ H Q => Q (.ref C) none H) := by
  intro pins s σ H Q I h
  refine wpAny_Call_Name_kw (ld_glob I hg gC ?_ hdb)
  refine PySem.W.callWith_K0 I.kIn kC ?_
  obtain ⟨bm, N, nm, qn, bs, hdct, sn, sub, ab, col, dd, k0, k1, k2, k3, k5, mN, hC, hN, hni, T⟩ := exc_obj I.kIn q
  obtain ⟨hp, g, dr, tk, os⟩ := s
  refine wpAny_call_exc_subT F T hC hN hni (fun h' e hm => ?_) (by show 0 ≤ sizeLine; omega)
  exact mk_of I hm r h (I.hok.gone hm.new)
variable {W : Wq}
def rzS (c fld : Str) (m : M (List D)) : MS := fun ds G => match m ds G with
  | .ok [d] G1 => .exc ⟨c, some (fld, d)⟩ ds G1
  | .exc e G1 => .exc e ds G1
  | _ => .stuck
def rzS0 (c : Str) : MS := fun ds G => .exc ⟨c, none⟩ ds G
theorem ms_raise1 {a : Expr} {m : M (List D)} {x : Str} {p pos pos2 : Pos} {k : Nat} (hc : X.calm = true) (tk : Takes X W.w) (T : PySem.SupX.SupTxt X.prog X.K X.mg (He.ga X.K x) fI fld) (gC : X.mg x = some (.ref (He.ga X.K x))) (hr : Room k X.A) (hg : Gl X x) (ha : MA X W [a] m)
    (hdb : (x == ("__debug__" : Str)) = false := by decide)
    (he : starEach (a :: []) X.env = (false, eval a X.env) :: starEach [] X.env := by rfl) (hpl : (backTo pos (starEach [] X.env)).any (·.1) = false := by rfl) :
    MSt X W (.Raise (some (.Call (.Name x p) [a] [] pos)) none pos2) (rzS x fld m) := (ps_raise hc tk (pmk_sup T gC hr ha hg hdb he hpl)).conv fun σ H Q ⟨ρ, G, ds, rl, sr, hl, p⟩ => by
  refine ⟨ρ, G, ds, rl, sr, hl, ?_⟩
  unfold rzS at p
  cases q : m ds G with
  | exc e G1 => rw [q] at p; exact fun ρ1 H1 c dd s1 r1 x1 => p ρ1 H1 σ c dd s1 r1 (sr.step s1) (hl.step s1) rfl x1
  | stuck => rw [q] at p; exact p
  | ok ls G1 =>
    rw [q] at p
    intro ρ1 H1 vs s1 r1 d1
    cases ls with
    | nil => exact p.elim
    | cons d ls =>
      cases ls with
      | cons d2 ls => exact p.elim
      | nil =>
        obtain ⟨v, r', rfl, d2, e2⟩ := d1
        cases e2
        refine ⟨v, rfl, fun dd hd => ?_⟩
        have st := step_upd (o := .xd [(fld, v)]) r1 hd
        exact p ρ1 _ σ _ _ (s1.trans st) (r1.updN hd) (sr.step (s1.trans st)) (hl.step (s1.trans st)) rfl ⟨rfl, dd, v, rfl, r1.new hd, upd_same, d2.step st⟩
theorem ms_raise0 {bmB : List Value} {B newId initId : String} {x : Str} {p pos pos2 : Pos} (hc : X.calm = true) (tk : Takes X W.w) (F : ExcBaseFacts B newId initId bmB) (q : PySem.W.excIn X.K (He.ga X.K x) bmB newId = true) (gC : X.mg x = some (.ref (He.ga X.K x))) (kC : PySem.W.keepIn X.K (.ref (He.ga X.K x)) = true) (r : Raises X (.ref (He.ga X.K x))) (hg : Gl X x)
    (hdb : (x == ("__debug__" : Str)) = false := by decide) : MSt X W (.Raise (some (.Call (.Name x p) [] [] pos)) none pos2) (rzS0 x) := (ps_raise hc tk (pmk_own0 F q gC kC r hg hdb)).conv fun σ H Q ⟨ρ, G, ds, rl, sr, hl, p⟩ =>
  p ρ H σ _ _ (Step.refl _ _) rl sr hl rfl ⟨rfl, rfl⟩
end

/-! ### try: B, except C as n: S -/
def endT (i : Nat) : RS → RS
  | .nx ds G => .nx (ds.set i none) G
  | .bk ds G => .bk (ds.set i none) G
  | .ct ds G => .ct (ds.set i none) G
  | .rt d G => .rt d G
  | _ => .stuck
def tryS (kx : Str → Option Bool) (i : Nat) (B : MS) (S : Exc → MS) : MS := fun ds G => match B ds G with
  | .exc e ds1 G1 => (match kx e.c with
    | some true => if i < ds1.length then endT i (S e (ds1.set i none) G1) else .stuck
    | some false => .exc e ds1 G1
    | none => .stuck)
  | r => r
def Ws (K : PySem.W.Frag) (i : Nat) (a : Addr) (cls : Value) (d : Option Addr) (e : Exc) : Wq := ⟨fun _ _ _ _ => False, [(i, .ref a)], fun ρ H => XRel K ρ H e cls d, fun _ _ _ _ s h => h.step s⟩
theorem SRel.drop {K : PySem.W.Frag} {ρ : Rho} {H : Hp} {ds : Sl} {σ : St} {o : Option V} (i : Nat) (h : SRel K ρ H ds σ) : SRel K ρ H (ds.set i none) (σ.set i o) := fun j d e => by
  by_cases q : j = i
  · subst q
    by_cases hl : j < ds.length
    · rw [List.getElem?_set_self hl] at e; cases e
    · rw [List.getElem?_eq_none (by simpa using hl)] at e; cases e
  · rw [List.getElem?_set_ne (Ne.symm q)] at e ⊢
    exact h j d e
section
variable {X : Cx} {W : Wq} {x n : Str} {c : Value} {i : Nat} {body suite : List Stmt} {b₀ : Stmt} {np pos pos' : Pos} {mB : MS} {mS : Exc → MS}
theorem ms_try_as {kx : Str → Option Bool} (hW : W.fx = []) (hv : ∀ ρ H, W.iv ρ H) (hs : X.stack = X.env :: X.outer) (hf : X.env.frame = some X.env.locals) (hN : X.N.Nodup) (hi : X.N[i]? = some n) (hln : X.env.kindOf n = some .local) (hc : Names X x c) (tk : Takes X W.w)
    (hk : ∀ C b, kx C = some b → PySem.W.exmOne X.K (.ref (He.ga X.K C)) c = some b)
    (hb : ∀ (w : WX) (pn : List (Addr × Obj)) (xe : Value → Shared → Prop), Takes (X.tr pn xe) w → PassesOwn (model X.prog X.w) X.A X.env xe → MSs (X.tr pn xe) { W with w := w } body mB)
    (hsu : ∀ (a : Addr) (oe : Obj) (cls : Value) (d : Option Addr) (pn : List (Addr × Obj)) (e : Exc), Zc cls d oe → (∃ vs, oe.data = .fields vs) → cls = .ref (He.ga X.K e.c) → kx e.c = some true → MSs (X.suite a ((a, oe) :: pn)) (Ws X.K i a cls d e) (b₀ :: suite) (mS e)) :
    MSt X W (.Try body [.ExceptHandler (some (.Name x np)) (some n) (b₀ :: suite) pos'] [] [] pos) (tryS kx i mB mS) := by
  refine (ps_try_as (tb := fun w => LS X.K { W with w := w } mB) (ts := fun a cls d E σ H => ∃ e : Exc, cls = .ref (He.ga X.K e.c) ∧ kx e.c = some true ∧ LS X.K (Ws X.K i a cls d e) (mS e) E σ H) (Wout := W.w) hs hf hN hi hln hc tk (fun w pn xe t o => hb w pn xe t o)
    (fun a oe cls d pn hz hd => ⟨fun pins s σ H E I h => ?_⟩)).conv fun σ H E ⟨ρ, G, ds, rl, sr, hl, p⟩ => ?_
  · obtain ⟨e, hcl, hke, h⟩ := h
    exact (hsu a oe cls d pn e hz hd hcl hke).run pins s σ H E I h
  · refine ⟨ρ, G, ds, rl, sr, ⟨hl.len, hl.fx, hl.iv⟩, ?_⟩
    unfold tryS at p
    have lk : ∀ {w : WX} {ρ H ds σ}, Lk { W with w := w } ρ H ds σ → Lk W ρ H ds σ := fun h => ⟨h.len, h.fx, h.iv⟩
    cases q : mB ds G with
    | nx ds1 G1 => rw [q] at p; exact fun ρ1 H1 σ1 s1 r1 sr1 hl1 hn1 => p ρ1 H1 σ1 s1 r1 sr1 (lk hl1) hn1
    | bk ds1 G1 => rw [q] at p; exact fun ρ1 H1 σ1 s1 r1 sr1 hl1 hn1 => p ρ1 H1 σ1 s1 r1 sr1 (lk hl1) hn1
    | ct ds1 G1 => rw [q] at p; exact fun ρ1 H1 σ1 s1 r1 sr1 hl1 hn1 => p ρ1 H1 σ1 s1 r1 sr1 (lk hl1) hn1
    | rt d G1 => rw [q] at p; exact p
    | stuck => rw [q] at p; exact p
    | exc e ds1 G1 =>
      rw [q] at p
      intro ρ1 H1 σ1 cls dd s1 r1 sr1 hl1 hn1 x1
      simp only at p
      cases hb1 : kx e.c with
      | none => rw [hb1] at p; exact p.elim
      | some b =>
        rw [hb1] at p
        refine ⟨b, by rw [x1.1]; exact hk _ _ hb1, fun eb a ha => ?_, fun eb => ?_⟩
        · subst eb
          simp only at p
          by_cases hi2 : i < ds1.length
          case neg => rw [if_neg hi2] at p; exact p.elim
          rw [if_pos hi2] at p
          have hls : i < σ1.length := by rw [← hl1.len]; exact hi2
          refine ⟨e, x1.1, hb1, ρ1, G1, ds1.set i none, r1, sr1.drop i, ⟨by simp [hl1.len], fun p hp => ?_, x1⟩, ?_⟩
          · cases hp with
            | head => exact List.getElem?_set_self hls
            | tail _ z => cases z
          · replace p := p.step s1
            have hw : ∀ {ρ H ds σ}, ds.length = σ.length → Lk W ρ H ds σ := fun h => ⟨h, by rw [hW]; exact fun p hp => (by cases hp), hv _ _⟩
            cases q2 : mS e (ds1.set i none) G1 with
            | nx ds2 G2 => rw [q2] at p; exact fun ρ2 H2 σ2 s2 r2 sr2 hl2 hn2 => p ρ2 H2 _ s2 r2 (sr2.drop i) (hw (by simp [hl2.len])) (by simpa [hn1] using hn2)
            | bk ds2 G2 => rw [q2] at p; exact fun ρ2 H2 σ2 s2 r2 sr2 hl2 hn2 => p ρ2 H2 _ s2 r2 (sr2.drop i) (hw (by simp [hl2.len])) (by simpa [hn1] using hn2)
            | ct ds2 G2 => rw [q2] at p; exact fun ρ2 H2 σ2 s2 r2 sr2 hl2 hn2 => p ρ2 H2 _ s2 r2 (sr2.drop i) (hw (by simp [hl2.len])) (by simpa [hn1] using hn2)
            | rt d G2 => rw [q2] at p; exact p
            | exc e2 ds2 G2 => rw [q2] at p; exact p.elim
            | stuck => rw [q2] at p; exact p.elim
        · subst eb
          exact p ρ1 H1 σ1 cls dd s1 r1 sr1 (lk hl1) hn1 x1
end
end M3
end L2

set_option Elab.async false
set_option linter.all false
set_option maxRecDepth 100000
set_option maxHeartbeats 2000000
/-! M3j: caught errors, own classes, globals. -/
namespace L2
namespace M3
open PySem PySem.Spec PyProof.Rows

/-- what is known of the program's classes, more -/
structure CF (K : PySem.W.Frag) extends PF K where
  hnf : ∀ C f, T.nf C f = true → NoAttr K (He.ga K C) f
  hec : ∀ C, T.ec C = true → ExcC K (He.ga K C)
  hxf : ∀ C f, T.xf C f = true → XfC K (He.ga K C) ∧ PySem.W.findIn K (.ref (He.ga K C)) f = some none

/-! ### the error that a suite holds -/
def rIsS (K : PySem.W.Frag) (D a : Addr) (d : Option Addr) : List V → Hp → VK → Prop := fun xs H Q => ∃ (c : V) (cv : Value) (b : Bool), xs = [.ref a, c] ∧ (∀ u, RelV c u → u = cv) ∧ PySem.W.kitOne K (.ref D) cv = some b ∧ (∀ dd, d = some dd → ∃ fs, H dd = some (.xd fs)) ∧ Q (.bl b) H
theorem kitx_exc {K : PySem.W.Frag} {x D : Addr} {ox : Obj} (C : ExcC K D) : PySem.W.KitX K (.ref x) (.ref D) (fun h => ∃ od, PySem.W.InstAt h x ox D od) where
  ty := fun _ _ _ ⟨_, I⟩ => I.type
  it := fun _ _ X _ => by
    obtain ⟨cdD, hcD, _⟩ := PySem.W.any_some (show (PySem.W.clsIn K D).any (fun cd => cd.hasDict) = true from C.hd)
    unfold PySem.W.clsIn at hcD
    split at hcD
    · rename_i c' d' cd' sl' ho
      intro A' Q' E' s' k q
      unfold isType loadHead
      exact wpAny_bind (wpAny_loadPart (k _ _ (X _ _ ho)) (wpAny_pure q))
    · cases hcD
  ne := fun h tp dd its n sl X htp => by
    obtain ⟨cdD, hcD, _⟩ := PySem.W.any_some C.hd
    refine Bool.eq_false_iff.mpr fun q => ?_
    have e : D = tp := Value.ref.inj (beq_iff_eq.mp q)
    subst e
    unfold PySem.W.clsIn at hcD
    split at hcD
    · rename_i c' d' cd' sl' ho
      have z := (X _ _ ho).symm.trans htp
      cases z
    · cases hcD
  ca := fun X I k => by
    obtain ⟨od, I⟩ := I
    exact PySem.W.kx_classE X I C.hg C.hk C.hs (PySem.W.findObj_dataE (by obtain ⟨cd, hc, _⟩ := PySem.W.any_some C.hd; rw [hc]; rfl) C.ha C.hn C.ht) C.hm k
theorem call_isS {X : Cx} {a D : Addr} {d : Option Addr} {oe : Obj} {pn : List (Addr × Obj)} (C : ExcC X.K D) (hz : Zc (.ref D) d oe) (hf : ∃ vs, oe.data = .fields vs) : CallR (X.suite a ((a, oe) :: pn)) (.builtin "isinstance") (rIsS X.K D a d) := by
  intro pins s σ H xs us Q I r h
  obtain ⟨c, cv, b, rfl, hcv, e, hdd, q⟩ := h
  cases r with
  | cons rx rr =>
    cases rr with
    | cons rt rr =>
      cases rr
      cases rx
      have ec := hcv _ rt
      subst ec
      obtain ⟨hget, _⟩ := I.pin (a, oe) (List.mem_append.mpr (.inl List.mem_cons_self))
      obtain ⟨vs, hv⟩ := hf
      have J : ∃ od, PySem.W.InstAt s.heap a oe D od := by
        obtain ⟨oc, od, oda, osl⟩ := oe
        obtain ⟨h1, h2⟩ := hz
        dsimp only at h1 h2 hv
        subst h1 h2 hv
        cases od with
        | none => exact ⟨none, hget, rfl, rfl, trivial⟩
        | some dd =>
          obtain ⟨fs, e2⟩ := hdd dd rfl
          obtain ⟨o, e3⟩ := objOk_get (I.hok dd _ e2)
          exact ⟨some o, hget, rfl, rfl, e3⟩
      exact PySem.W.kia_one (kitx_exc C) I.kIn J e (fun z => nomatch z) fun tk => ⟨.bl b, H, I.kept (t' := tk) fun _ _ z => z, rfl, q⟩
section
variable {X : Cx} {i : Nat} {a : Addr} {oe : Obj} {cls : Value} {d : Option Addr} {pn : List (Addr × Obj)} {e : Exc} {n : Str} {p q pos : Pos}
/-- isinstance(e, C), e the exception that the suite holds -/
def isE (T : TF) (c : Str) (x : D) : Gs → Option D := fun _ => match clsD x with
  | some u => if T.ec c = true then (T.kt (.inr c) u).map D.bl else none
  | none => none
theorem me_isE (F : CF X.K) {c : Expr} {mc : M D} (hz : Zc cls d oe) (hd : ∃ vs, oe.data = .fields vs) (hcl : cls = .ref (He.ga X.K e.c)) (hec : F.T.ec e.c = true) (hN : X.N[i]? = some n) (hl : Vis X.env.scope n) (hg : Gl X "isinstance") (hm : X.mg "isinstance" = none) (hc : ME (X.suite a ((a, oe) :: pn)) (Ws X.K i a cls d e) c mc)
    (hn : (n == ("__debug__" : Str)) = false := by decide) (hn2 : (n == ("__classdict__" : Str)) = false := by decide)
    (he : starEach [.Name n q, c] X.env = (false, eval (.Name n q) X.env) :: starEach [c] X.env := by rfl) (he2 : starEach [c] X.env = (false, eval c X.env) :: starEach [] X.env := by rfl) (hpl : (backTo pos (starEach [c] X.env)).any (·.1) = false := by rfl) :
    ME (X.suite a ((a, oe) :: pn)) (Ws X.K i a cls d e) (.Call (.Name "isinstance" p) [.Name n q, c] [] pos) (bnd mc fun x => lo (isE F.T e.c x)) := by
  have hcls : CallR (X.suite a ((a, oe) :: pn)) (.builtin "isinstance") (rIsS X.K (He.ga X.K e.c) a d) := call_isS (F.hec _ hec) (by rw [← hcl]; exact hz) hd
  refine (pe_callB hcls hg hm (by decide +kernel) (pa_cons (pv (X := X.suite a ((a, oe) :: pn)) i hN hl hn hn2) (pa_cons hc pa_nil he2) he) (by decide) (by decide) he hpl).conv fun σ H Q ⟨ρ, G, ds, rl, sr, hl, p⟩ => ?_
  refine ⟨.ref a, hl.fx (i, .ref a) List.mem_cons_self, ?_⟩
  refine le_seq p rl sr hl fun v H1 ρ1 G1 x s1 r1 sr1 hl1 d1 p1 => ?_
  obtain ⟨d', e1, q1⟩ := lo_inv p1
  unfold isE at e1
  cases q2 : clsD x with
  | none => rw [q2] at e1; cases e1
  | some u =>
    rw [q2] at e1
    simp only [hec, if_true] at e1
    cases q3 : F.T.kt (.inr e.c) u with
    | none => rw [q3] at e1; cases e1
    | some b =>
      rw [q3] at e1
      cases e1
      refine ⟨v, cv X.K u, b, rfl, fun w hw => ?_, F.hkt _ _ _ q3, fun dd hdd => ?_, q1 ρ1 H1 _ (Step.refl _ _) r1 rfl⟩
      · exact (clsV_at q2 d1).eq hw
      · obtain ⟨_, x2⟩ := hl1.iv
        cases q4 : e.f with
        | none => rw [q4] at x2; rw [x2] at hdd; cases hdd
        | some xd =>
          rw [q4] at x2
          obtain ⟨b2, v2, y1, y2, y3, y4⟩ := x2
          rw [y1] at hdd
          cases hdd
          exact ⟨_, y3⟩
/-- e.f, e the exception that the suite holds -/
def xfE (T : TF) (e : Exc) (f : Str) : Gs → Option D := fun _ => if T.xf e.c f = true then (match e.f with
    | some (g, v) => if g = f then some v else none
    | none => none) else none
theorem me_xfE (F : CF X.K) {f : Str} (hz : Zc cls d oe) (hd : ∃ vs, oe.data = .fields vs) (hcl : cls = .ref (He.ga X.K e.c)) (hN : X.N[i]? = some n) (hl : Vis X.env.scope n)
    (hn : (n == ("__debug__" : Str)) = false := by decide) (hn2 : (n == ("__classdict__" : Str)) = false := by decide) (hb : attributeBase (.Name n q) f X.env (eval (.Name n q) X.env) = eval (.Name n q) X.env := by rfl) :
    ME (X.suite a ((a, oe) :: pn)) (Ws X.K i a cls d e) (.Attribute (.Name n q) f pos) (lo (xfE F.T e f)) := by
  by_cases hx : F.T.xf e.c f = true
  · obtain ⟨h1, h2⟩ := F.hxf _ _ hx
    refine (pe_xf h1 h2 hz hd (pv (X := X.suite a ((a, oe) :: pn)) i hN hl hn hn2) hb).conv fun σ H Q ⟨ρ, G, ds, rl, sr, hl, p⟩ => ?_
    obtain ⟨d', e1, q1⟩ := lo_inv p
    unfold xfE at e1
    rw [if_pos hx] at e1
    obtain ⟨_, x2⟩ := hl.iv
    refine ⟨.ref a, hl.fx (i, .ref a) List.mem_cons_self, rfl, hcl, ?_⟩
    cases q4 : e.f with
    | none => rw [q4] at e1; cases e1
    | some xd =>
      obtain ⟨g, v⟩ := xd
      rw [q4] at e1 x2
      obtain ⟨b2, v2, y1, y2, y3, y4⟩ := x2
      simp only at e1
      by_cases hg : g = f
      case neg => rw [if_neg hg] at e1; cases e1
      rw [if_pos hg] at e1
      cases e1
      subst hg
      exact ⟨b2, [(g, v2)], v2, y1, y3, by simp [List.lookup], q1 ρ H v2 (Step.refl _ _) rl y4⟩
  · refine ⟨fun pins s σ H Q I ⟨ρ, G, ds, rl, sr, hl, p⟩ => ?_⟩
    obtain ⟨d', e1, q1⟩ := lo_inv p
    unfold xfE at e1
    rw [if_neg hx] at e1
    cases e1
end

/-! ### instances -/
section
variable {X : Cx} {W : Wq} {e o : Expr} {me mo : M D} {f : Str} {pos pos' : Pos}
theorem zip_lookup {K : PySem.W.Frag} {ρ : Rho} {H : Hp} {f : Str} {d : D} : ∀ {ks : List Str} {ds : List D} {xs : List V}, (ks.zip ds).lookup f = some d → DRels K ρ H ds xs → ∃ v, (ks.zip xs).lookup f = some v ∧ DRel K ρ H d v
  | [], _, _, h, _ => by cases h
  | _ :: _, [], _, h, _ => by cases h
  | k :: ks, d' :: ds, xs, h, r => by
    obtain ⟨v, us, rfl, r1, r2⟩ := r
    simp only [List.zip_cons_cons, List.lookup] at h ⊢
    cases q : f == k with
    | true => rw [q] at h; cases h; exact ⟨v, rfl, r1⟩
    | false => rw [q] at h; exact zip_lookup h r2
theorem lookup_zip {α : Type} {f : Str} : ∀ fs : List (Str × α), fs.lookup f = ((fs.map (·.1)).zip (fs.map (·.2))).lookup f
  | [] => rfl
  | (k, x) :: r => by
    simp only [List.map_cons, List.zip_cons_cons, List.lookup]
    rw [lookup_zip r]
/-- the fields of an instance -/
def insD (G : Gs) : D → Option (Str × List (Str × D))
  | .ti C ks ds => if ks.length = ds.length then some (C, ks.zip ds) else none
  | .obj i => (match G[i]? with
    | some (.ins C fs) => some (C, fs)
    | _ => none)
  | _ => none
theorem ins_at {K : PySem.W.Frag} {ρ : Rho} {G : Gs} {H : Hp} (rl : Rl K ρ G H) {d : D} {v : V} {C : Str} {fs : List (Str × D)} (h : insD G d = some (C, fs)) (r : DRel K ρ H d v) :
    ∃ a dx xs, v = .ref a ∧ H a = some (.ins (He.ga K C) dx ((fs.map (·.1)).zip xs)) ∧ DRels K ρ H (fs.map (·.2)) xs := by
  unfold insD at h
  split at h
  · rename_i C' ks ds
    split at h
    · rename_i hk
      cases h
      obtain ⟨a, dx, xs, e1, e2, e3, e4, e5⟩ := r
      have k1 : (ks.zip ds).map (·.1) = ks := by rw [← List.unzip_fst, List.unzip_zip hk]
      have k2 : (ks.zip ds).map (·.2) = ds := by rw [← List.unzip_snd, List.unzip_zip hk]
      exact ⟨a, dx, xs, e1, by rw [k1]; exact e3, by rw [k2]; exact e5⟩
    · cases h
  · rename_i i
    obtain ⟨a, e1, e2⟩ := r
    cases q : G[i]? with
    | none => rw [q] at h; cases h
    | some ob =>
      rw [q] at h
      cases ob with
      | ins C' fs' =>
        cases h
        obtain ⟨dx, xs, m1, m2⟩ := rl.at_ _ _ _ q e1
        exact ⟨a, dx, xs, e2, m1, m2⟩
      | _ => cases h
  · cases h
def fldD (T : TF) (f : Str) (x : D) : Gs → Option D := fun G => match insD G x with
  | some (C, fs) => if T.ic C = true then if T.nf C f = true then fs.lookup f else none else none
  | none => none
theorem me_fld (F : CF X.K) (he : ME X W e me) (hb : attributeBase e f X.env (eval e X.env) = eval e X.env := by rfl) : ME X W (.Attribute e f pos) (bnd me fun x => lo (fldD F.T f x)) := (pe_fld he hb).conv fun σ H Q ⟨ρ, G, ds, rl, sr, hl, p⟩ => by
  refine le_seq p rl sr hl fun v H1 ρ1 G1 x s1 r1 sr1 hl1 d1 p1 => ?_
  obtain ⟨d', e1, q1⟩ := lo_inv p1
  unfold fldD at e1
  cases q : insD G1 x with
  | none => rw [q] at e1; cases e1
  | some cf =>
    obtain ⟨C, fs⟩ := cf
    rw [q] at e1
    simp only at e1
    by_cases h1 : F.T.ic C = true
    case neg => rw [if_neg h1] at e1; cases e1
    by_cases h2 : F.T.nf C f = true
    case neg => rw [if_pos h1, if_neg h2] at e1; cases e1
    rw [if_pos h1, if_pos h2, lookup_zip] at e1
    obtain ⟨a, dx, xs, rfl, i1, i2⟩ := ins_at r1 q d1
    obtain ⟨v, l1, l2⟩ := zip_lookup e1 i2
    exact ⟨a, _, dx, _, v, rfl, i1, (F.hic C h1).cl, F.hnf C f h2, l1, q1 ρ1 H1 v (Step.refl _ _) r1 l2⟩
/-- o.f = e -/
def putD (f : Str) (d : D) : List (Str × D) → List (Str × D)
  | [] => [(f, d)]
  | (g, x) :: r => if g = f then (g, d) :: r else (g, x) :: putD f d r
theorem putD_rel {K : PySem.W.Frag} {ρ : Rho} {H : Hp} {f : Str} {d : D} {v : V} (hd : DRel K ρ H d v) : ∀ {fs : List (Str × D)} {xs : List V}, DRels K ρ H (fs.map (·.2)) xs → ∃ ys, putF f v ((fs.map (·.1)).zip xs) = ((putD f d fs).map (·.1)).zip ys ∧ DRels K ρ H ((putD f d fs).map (·.2)) ys
  | [], xs, h => by
    cases h
    exact ⟨[v], rfl, drels_one hd⟩
  | (g, x) :: r, xs, h => by
    obtain ⟨u, us, rfl, r1, r2⟩ := h
    simp only [List.map_cons, List.zip_cons_cons, putF, putD]
    by_cases hg : g = f
    · rw [if_pos hg, if_pos hg]
      exact ⟨v :: us, by simp, drels_cons hd r2⟩
    · rw [if_neg hg, if_neg hg]
      obtain ⟨ys, e1, e2⟩ := putD_rel hd r2
      exact ⟨u :: ys, by simp [e1], drels_cons r1 e2⟩
def setFld (T : TF) (f : Str) (y x : D) : MS := fun ds G => match x with
  | .obj i => (match G[i]? with
    | some (.ins C fs) => if T.ic C = true ∧ T.nf C f = true ∧ fs.length < 1000 then .nx ds (G.set i (.ins C (putD f y fs))) else .stuck
    | _ => .stuck)
  | _ => .stuck
theorem ms_setfld (F : CF X.K) (he : ME X W e me) (ho : ME X W o mo) (hs : swapsWith e (some (.Attribute o f pos')) pos.line X.env = pure false := by rfl) :
    MSt X W (.Assign [.Attribute o f pos'] e pos) (bndS me fun y => bndS mo fun x => setFld F.T f y x) := (ps_fld ho he hs).conv fun σ H Q ⟨ρ, G, ds, rl, sr, hl, p⟩ => by
  refine le_seqS p rl sr hl fun v H1 ρ1 G1 y s1 r1 sr1 hl1 d1 p1 => ?_
  refine le_seqS p1 r1 sr1 hl1 fun u H2 ρ2 G2 x s2 r2 sr2 hl2 d2 p2 => ?_
  unfold setFld at p2
  split at p2
  · rename_i i
    split at p2
    · rename_i C fs q
      split at p2
      · rename_i hc
        obtain ⟨a, e1, rfl⟩ := d2
        obtain ⟨dx, xs, m1, m2⟩ := r2.at_ _ _ _ q e1
        have hm := List.mem_of_getElem? e1
        obtain ⟨ys, k1, k2⟩ := putD_rel (f := f) (d1.step s2) m2
        have st := step_write (o := .ins (He.ga X.K C) dx (putF f v ((fs.map (·.1)).zip xs))) r2 hm
        refine ⟨a, _, dx, _, rfl, m1, (F.hic C hc.1).cl, F.hnf C f hc.2.1, ?_, ?_⟩
        · rw [List.length_zip, List.length_map]; omega
        · exact p2 ρ2 _ σ st (r2.write e1 ⟨dx, ys, by rw [upd_same, k1], k2.step st⟩) (sr2.step st) (hl2.step st) rfl
      · exact p2.elim
    · exact p2.elim
  · exact p2.elim
end
end M3
end L2

set_option Elab.async false
set_option linter.all false
set_option maxRecDepth 100000
set_option maxHeartbeats 2000000
/-! M3k: methods, making instances, globals. -/
namespace L2
namespace M3
open PySem PySem.Spec PyProof.Rows

section
variable {X : Cx} {W : Wq} {CX : CXT} {k : Nat} {m x : Str} {o e : Expr} {es : List Expr} {apos pos p : Pos} {ta : TE} {t : TA} {E : St → XK} {pl : Sem Bool}
/-- o.m(e, ..), by the class that o has -/
def tMV (X : Cx) (CX : CXT) (k : Nat) (m : Str) (E : St → XK) (ta : TE) (t : TA) : TE := fun σ H Q => ta σ H fun x H1 => ∃ a C dx fs g fd ps sp, x = .ref a ∧ H1 a = some (.ins C dx fs) ∧ Cls X.K C ∧ Meth X.K C m g ∧ FnOk X.prog X.w X.K X.mg X.base CX k g fd ps sp ∧ Binds X.K fd ps [] ∧
  fs.lookup m = none ∧ t σ H1 fun vs H2 => sp (x :: vs) H2 Q (E σ)
theorem pe_methV (he : PE X o ta) (hr : Room k X.A) (hx : ∀ σ, PassesAt CX X σ (E σ)) (ha : PA X (e :: es) t)
    (hst : starEach (e :: es) X.env = (false, eval e X.env) :: starEach es X.env := by rfl) (hpl : (backTo pos (starEach es X.env)).any (·.1) = false := by rfl)
    (ht : eval (.Call (.Attribute o m apos) (e :: es) [] pos) X.env = (do
      let ov ← eval o X.env
      standAt apos.atName
      let (f, first) ← holding [ov] (getMethod ov m pl)
      callWith pos f first (backTo pos (starEach (e :: es) X.env)) (backToKw pos (keywordEach [] X.env))) := by rfl) :
    PE X (.Call (.Attribute o m apos) (e :: es) [] pos) (tMV X CX k m E ta t) := by
  refine ⟨fun pins s σ H Q I h => ?_⟩
  refine PySem.W.methodCall_KW (pl := pl) (thn (he.run pins s σ H _ I h) fun u s1 ⟨x, H1, I1, rx, a, C, dx, fs, g, fd, ps, sp, ex, ea, c, hm, F, hb, l, q⟩ => ?_) ht
  subst ex
  obtain rfl : u = Value.ref a := rx
  refine getmeth_ok I1 ea c hm l ?_
  refine PySem.W.callWith_K (first := [.ref a]) (h₀ := X.base) I.ok.mod.kin hm.kp (thn (ha.run pos pins s1 σ H1 _ I1 q) fun us s2 ⟨vs, H2, I2, r, q2⟩ => ⟨I2.kIn, ?_⟩) hst hpl
  exact run_fnS (us := .ref a :: us) (vs := .ref a :: vs) F hr hb (hx σ) I2 (.cons rfl r) q2
theorem pe_methV0 (he : PE X o ta) (hr : Room k X.A) (hx : ∀ σ, PassesAt CX X σ (E σ)) (h0 : ∀ σ H Q, t σ H Q → Q [] H)
    (ht : eval (.Call (.Attribute o m apos) [] [] pos) X.env = (do
      let ov ← eval o X.env
      standAt apos.atName
      let (f, first) ← holding [ov] (getMethod ov m pl)
      callWith pos f first (backTo pos (starEach [] X.env)) (backToKw pos (keywordEach [] X.env))) := by rfl) :
    PE X (.Call (.Attribute o m apos) [] [] pos) (tMV X CX k m E ta t) := by
  refine ⟨fun pins s σ H Q I h => ?_⟩
  refine PySem.W.methodCall_KW (pl := pl) (thn (he.run pins s σ H _ I h) fun u s1 ⟨x, H1, I1, rx, a, C, dx, fs, g, fd, ps, sp, ex, ea, c, hm, F, hb, l, q⟩ => ?_) ht
  subst ex
  obtain rfl : u = Value.ref a := rx
  refine getmeth_ok I1 ea c hm l ?_
  exact PySem.W.callWith_K0 (first := [.ref a]) I1.kIn hm.kp (run_fnS (us := [.ref a]) (vs := [.ref a]) F hr hb (hx σ) I1 (.cons rfl .nil) (h0 _ _ _ q))
/-- the classes whose method is known -/
structure AltOk (X : Cx) (k : Nat) (m : Str) (C : Str) (n : Nat) (fm : FM) : Prop where
  c : Cls X.K (He.ga X.K C)
  g : ∃ g fd ps, Meth X.K (He.ga X.K C) m g ∧ FnOk X.prog X.w X.K X.mg X.base (L2.CX X.prog X.w) k g fd ps (spM X.K n fm) ∧ Binds X.K fd ps []
abbrev Alts := List (Str × Nat × FM)
inductive AltsOk (X : Cx) (k : Nat) (m : Str) : Alts → Prop
  | nil : AltsOk X k m []
  | cons {C n fm r} (h : AltOk X k m C n fm) (t : AltsOk X k m r) : AltsOk X k m ((C, n, fm) :: r)
theorem AltsOk.at_ {m : Str} {C : Str} {n : Nat} {fm : FM} : ∀ {l : Alts}, AltsOk X k m l → l.lookup C = some (n, fm) → AltOk X k m C n fm
  | [], _, h => by cases h
  | (D, n', fm') :: r, a, h => by
    cases a with
    | cons h1 t =>
      simp only [List.lookup] at h
      cases q : C == D with
      | true =>
        rw [q] at h
        cases h
        rw [eq_of_beq q]
        exact h1
      | false =>
        rw [q] at h
        exact AltsOk.at_ t h
def methM (m : Str) (alts : Alts) (ma : M (List D)) (x : D) : M D := fun ds G => match insD G x with
  | some (C, fs) => (match alts.lookup C with
    | some (n, fm) => if (fs.lookup m).isNone = true then bnd ma (fun as => callM n fm (x :: as)) ds G else .stuck
    | none => .stuck)
  | none => .stuck
theorem lookup_none {f : Str} : ∀ {fs : List (Str × D)} {xs : List V}, fs.lookup f = none → ((fs.map (·.1)).zip xs).lookup f = none
  | [], _, _ => rfl
  | (g, d) :: r, xs, h => by
    cases xs with
    | nil => rfl
    | cons u us =>
      simp only [List.lookup, List.map_cons, List.zip_cons_cons] at h ⊢
      cases q : f == g with
      | true => rw [q] at h; cases h
      | false => rw [q] at h; exact lookup_none h
theorem meth_conv {mo : M D} {ma : M (List D)} {alts : Alts} (hA : AltsOk X k m alts) {σ : St} {H : Hp} {Q : VK} {ρ : Rho} {G : Gs} {ds : Sl} (rl : Rl X.K ρ G H) (sr : SRel X.K ρ H ds σ) (hl : Lk W ρ H ds σ)
    (p : Pst X.K W (DRel X.K) σ ρ H (bnd mo (methM m alts ma) ds G) Q) : tMV X (L2.CX X.prog X.w) k m (WE W.w) (LE X.K W mo) (LA X.K W ma) σ H Q := by
  refine le_seq p rl sr hl fun v H1 ρ1 G1 x s1 r1 sr1 hl1 d1 p1 => ?_
  unfold methM at p1
  cases q : insD G1 x with
  | none => simp only [q] at p1; exact p1.elim
  | some cf =>
    obtain ⟨C, fs⟩ := cf
    simp only [q] at p1
    cases q2 : alts.lookup C with
    | none => simp only [q2] at p1; exact p1.elim
    | some nf =>
      obtain ⟨n, fm⟩ := nf
      simp only [q2] at p1
      by_cases hn : (fs.lookup m).isNone = true
      case neg => rw [if_neg hn] at p1; exact p1.elim
      rw [if_pos hn] at p1
      obtain ⟨a, dx, xs, rfl, i1, i2⟩ := ins_at r1 q d1
      obtain ⟨c, g, fd, ps, hm, F, hb⟩ := hA.at_ q2
      refine ⟨a, _, dx, _, g, fd, ps, _, rfl, i1, c, hm, F, hb, lookup_none (Option.isNone_iff_eq_none.mp hn), ?_⟩
      exact la_seq p1 r1 sr1 hl1 fun ys H2 ρ2 G2 as s2 r2 sr2 hl2 d2 p2 => sp_of p2 r2 (drels_cons (d1.step s2) d2)
theorem me_meth {mo : M D} {ma : M (List D)} {alts : Alts} (hA : AltsOk X k m alts) (ho : ME X W o mo) (hr : Room k X.A) (tk : Takes X W.w) (ha : MA X W (e :: es) ma)
    (hst : starEach (e :: es) X.env = (false, eval e X.env) :: starEach es X.env := by rfl) (hpl : (backTo pos (starEach es X.env)).any (·.1) = false := by rfl)
    (ht : eval (.Call (.Attribute o m apos) (e :: es) [] pos) X.env = (do
      let ov ← eval o X.env
      standAt apos.atName
      let (f, first) ← holding [ov] (getMethod ov m pl)
      callWith pos f first (backTo pos (starEach (e :: es) X.env)) (backToKw pos (keywordEach [] X.env))) := by rfl) :
    ME X W (.Call (.Attribute o m apos) (e :: es) [] pos) (bnd mo (methM m alts ma)) := (pe_methV ho hr (fun σ => passAt tk σ) ha hst hpl ht).conv fun σ H Q ⟨ρ, G, ds, rl, sr, hl, p⟩ => meth_conv hA rl sr hl p
theorem me_meth0 {mo : M D} {alts : Alts} (hA : AltsOk X k m alts) (ho : ME X W o mo) (hr : Room k X.A) (tk : Takes X W.w)
    (ht : eval (.Call (.Attribute o m apos) [] [] pos) X.env = (do
      let ov ← eval o X.env
      standAt apos.atName
      let (f, first) ← holding [ov] (getMethod ov m pl)
      callWith pos f first (backTo pos (starEach [] X.env)) (backToKw pos (keywordEach [] X.env))) := by rfl) :
    ME X W (.Call (.Attribute o m apos) [] [] pos) (bnd mo (methM m alts (ret []))) := (pe_methV0 ho hr (fun σ => passAt tk σ) (t := LA X.K W (ret [])) (fun σ H Q ⟨ρ, G, ds, rl, sr, hl, p⟩ => p ρ H [] (Step.refl _ _) rl rfl) ht).conv fun σ H Q ⟨ρ, G, ds, rl, sr, hl, p⟩ => meth_conv hA rl sr hl p

/-! ### C(e, ..) -/
variable {C f : Addr} {fd : FuncData} {ps : List Str} {sp : Sp}
theorem run_makeS {pins : List (Addr × Obj)} {σ : St} {H : Hp} {s : Shared} {Q : VK} {us : List Value} {vs : List V} (M : Mk X.K C f) (F : FnOk X.prog X.w X.K X.mg X.base CX k f fd ps sp) (hr : Room (k + 1) X.A) (hb : Binds X.K fd ps [])
    (hx : PassesAt CX X σ (E σ)) (I : Inv X pins σ H s) (r : Vals vs us)
    (h : ∀ x dx, H x = none → H dx = none → dx ≠ x → sp (.ref x :: vs) (upd (upd H dx (.own x)) x (.ins C dx [])) (fun v H2 => v = .non ∧ Q (.ref x) H2) (E σ)) :
    wpAny (model X.prog X.w) X.A (call (.ref C) us) (EP X pins σ Q) X.xe s := by
  have hq := h (s.heap.objs.size + 1) s.heap.objs.size (I.hok.fresh (Nat.le_succ _)) (I.hok.fresh (Nat.le_refl _)) (Nat.ne_of_lt (Nat.lt_succ_self _))
  have I2 := Inv.made (C := C) I
  have r2 : Vals (V.ref (s.heap.objs.size + 1) :: vs) (Value.ref (s.heap.objs.size + 1) :: us) := .cons rfl r
  have hl : (Value.ref (s.heap.objs.size + 1) :: us).length = ps.length := by
    have e := r2.length
    rw [F.len _ _ _ _ hq] at e
    exact e.symm
  have b := hb { s with heap := (s.heap.push PySem.W.emptyDict).push (PySem.W.instObj C s.heap.objs.size) } (Value.ref (s.heap.objs.size + 1) :: us) I2.kIn (by rw [List.append_nil]; exact hl)
  rw [List.append_nil] at b
  refine wpAny_call (make_map (f := f) I.kIn M.makes M.init (beq_iff_eq.mp M.fn) (codeAny_mono (F.run _ X.stack _ _ ⟨Value.ref (s.heap.objs.size + 1) :: us, []⟩ (Value.ref (s.heap.objs.size + 1) :: us) _ _ (E σ) (hr.make C us [])
    (I2.env0.make C us []) b r2 hq) fun r s' hq' => ?_))
  cases r with
  | error e => exact hx pins _ _ e s' I2 hq'
  | ok fl =>
    cases fl with
    | ret u =>
      obtain ⟨v, H', I3, rv, ev, q3⟩ := I2.after hq'
      subst ev
      exact ⟨rv, ⟨V.ref (s.heap.objs.size + 1), H', I3, rfl, q3⟩⟩
    | next => exact False.elim hq'
    | brk => exact False.elim hq'
    | cont => exact False.elim hq'
def tMakeS (C : Addr) (sp : Sp) (E : St → XK) (t : TA) : TE := fun σ H Q => t σ H fun vs H1 => ∀ x dx, H1 x = none → H1 dx = none → dx ≠ x → sp (.ref x :: vs) (upd (upd H1 dx (.own x)) x (.ins C dx [])) (fun v H2 => v = .non ∧ Q (.ref x) H2) (E σ)
theorem pe_makeS (M : Mk X.K C f) (F : FnOk X.prog X.w X.K X.mg X.base CX k f fd ps sp) (hr : Room (k + 1) X.A) (hg : Gl X x) (hm : X.mg x = some (.ref C)) (hb : Binds X.K fd ps []) (hx : ∀ σ, PassesAt CX X σ (E σ))
    (ha : PA X (e :: es) t) (hdb : (x == ("__debug__" : Str)) = false := by decide) (he : starEach (e :: es) X.env = (false, eval e X.env) :: starEach es X.env := by rfl) (hpl : (backTo pos (starEach es X.env)).any (·.1) = false := by rfl) :
    PE X (.Call (.Name x p) (e :: es) [] pos) (tMakeS C sp E t) := by
  refine ⟨fun pins s σ H Q I h => ?_⟩
  refine wpAny_Call_Name_kw (ld_glob I hg hm ?_ hdb)
  refine PySem.W.callWith_K (h₀ := X.base) I.ok.mod.kin M.kp (thn (ha.run pos pins s σ H _ I h) fun us s1 ⟨vs, H1, I1, r, q⟩ => ⟨I1.kIn, ?_⟩) he hpl
  exact run_makeS M F hr hb (hx σ) I1 r q
theorem pe_makeS0 (M : Mk X.K C f) (F : FnOk X.prog X.w X.K X.mg X.base CX k f fd ps sp) (hr : Room (k + 1) X.A) (hg : Gl X x) (hm : X.mg x = some (.ref C)) (hb : Binds X.K fd ps []) (hx : ∀ σ, PassesAt CX X σ (E σ))
    (h0 : ∀ σ H Q, t σ H Q → Q [] H) (hdb : (x == ("__debug__" : Str)) = false := by decide) :
    PE X (.Call (.Name x p) [] [] pos) (tMakeS C sp E t) := by
  refine ⟨fun pins s σ H Q I h => ?_⟩
  refine wpAny_Call_Name_kw (ld_glob I hg hm ?_ hdb)
  exact PySem.W.callWith_K0 I.kIn M.kp (run_makeS (us := []) M F hr hb (hx σ) I .nil (h0 _ _ _ h))
def mkI (C : Str) (n : Nat) (fm : FM) (as : List D) : M D := fun _ G => if as.length + 1 = n then (match fm (.obj G.length :: as) (G ++ [.ins C []]) with
  | .ok .non G1 => .ok (.obj G.length) G1
  | .exc e G1 => .exc e G1
  | _ => .stuck) else .stuck
theorem make_conv {C : Str} {n : Nat} {fm : FM} {ma : M (List D)} {σ : St} {H : Hp} {Q : VK} {ρ : Rho} {G : Gs} {ds : Sl} (rl : Rl X.K ρ G H) (sr : SRel X.K ρ H ds σ) (hl : Lk W ρ H ds σ)
    (p : Pst X.K W (DRel X.K) σ ρ H (bnd ma (mkI C n fm) ds G) Q) : tMakeS (He.ga X.K C) (spM X.K n fm) (WE W.w) (LA X.K W ma) σ H Q := by
  refine la_seq p rl sr hl fun vs H1 ρ1 G1 as s1 r1 sr1 hl1 d1 p1 => ?_
  intro x dx hx hdx hne
  unfold mkI at p1
  by_cases hn : as.length + 1 = n
  case neg => rw [if_neg hn] at p1; exact p1.elim
  rw [if_pos hn] at p1
  have st1 := step_upd (o := .own x) r1 hdx
  have r2 := r1.updN (o := .own x) hdx
  have hx2 : upd H1 dx (.own x) x = none := by rw [upd_ne (Ne.symm hne)]; exact hx
  have st2 := step_alloc (o := .ins (He.ga X.K C) dx []) r2 hx2
  have r3 : Rl X.K (ρ1.more x) (G1 ++ [.ins C []]) (upd (upd H1 dx (.own x)) x (.ins (He.ga X.K C) dx [])) := r2.alloc hx2 ⟨dx, [], upd_same, rfl⟩
  have hob : ∀ {ρ' : Rho} {H' : Hp}, (∃ t, ρ'.os = (ρ1.more x).os ++ t) → DRel X.K ρ' H' (.obj G1.length) (.ref x) := fun {ρ' H'} ⟨t, et⟩ => ⟨x, by
    rw [et]
    show ((ρ1.os ++ [x]) ++ t)[G1.length]? = _
    rw [r1.len]
    simp, rfl⟩
  refine ⟨by rw [List.length_cons, ← d1.length]; exact hn, ρ1.more x, G1 ++ [.ins C []], .obj G1.length :: as, r3, drels_cons (hob ⟨[], by simp⟩) (d1.step (st1.trans st2)), ?_⟩
  cases q : fm (.obj G1.length :: as) (G1 ++ [.ins C []]) with
  | stuck => rw [q] at p1; exact p1
  | exc e G2 => rw [q] at p1; exact fun ρ3 H3 c dd s3 r4 x4 => p1 ρ3 H3 c dd ((st1.trans st2).trans s3) r4 x4
  | ok d G2 =>
    rw [q] at p1
    cases d with
    | non =>
      intro ρ3 H3 v s3 r4 d4
      refine ⟨d4, p1 ρ3 H3 (.ref x) ((st1.trans st2).trans s3) r4 ?_⟩
      exact hob s3.ext
    | _ => exact p1.elim
theorem me_make {n : Nat} {fm : FM} {ma : M (List D)} (M : Mk X.K (He.ga X.K x) f) (F : FnOk X.prog X.w X.K X.mg X.base (L2.CX X.prog X.w) k f fd ps (spM X.K n fm)) (hr : Room (k + 1) X.A) (hg : Gl X x) (hm : X.mg x = some (.ref (He.ga X.K x))) (hb : Binds X.K fd ps []) (tk : Takes X W.w)
    (ha : MA X W (e :: es) ma) (hdb : (x == ("__debug__" : Str)) = false := by decide) (he : starEach (e :: es) X.env = (false, eval e X.env) :: starEach es X.env := by rfl) (hpl : (backTo pos (starEach es X.env)).any (·.1) = false := by rfl) :
    ME X W (.Call (.Name x p) (e :: es) [] pos) (bnd ma (mkI x n fm)) := (pe_makeS M F hr hg hm hb (fun σ => passAt tk σ) ha hdb he hpl).conv fun σ H Q ⟨ρ, G, ds, rl, sr, hl, p⟩ => make_conv rl sr hl p
theorem me_make0 {n : Nat} {fm : FM} (M : Mk X.K (He.ga X.K x) f) (F : FnOk X.prog X.w X.K X.mg X.base (L2.CX X.prog X.w) k f fd ps (spM X.K n fm)) (hr : Room (k + 1) X.A) (hg : Gl X x) (hm : X.mg x = some (.ref (He.ga X.K x))) (hb : Binds X.K fd ps []) (tk : Takes X W.w)
    (hdb : (x == ("__debug__" : Str)) = false := by decide) :
    ME X W (.Call (.Name x p) [] [] pos) (bnd (ret []) (mkI x n fm)) := (pe_makeS0 M F hr hg hm hb (fun σ => passAt tk σ) (t := LA X.K W (ret [])) (fun σ H Q ⟨ρ, G, ds, rl, sr, hl, p⟩ => p ρ H [] (Step.refl _ _) rl rfl) hdb).conv fun σ H Q ⟨ρ, G, ds, rl, sr, hl, p⟩ => make_conv rl sr hl p

/-! ### globals -/
theorem me_glo (hg : Gl X x) (hm : X.mg x = some (.ref (He.ga X.K x))) (hd : (x == ("__debug__" : Str)) = false := by decide) : ME X W (.Name x pos) (ret (.glo x)) := me_c (pe_glob (v := .ref (He.ga X.K x)) hg hm rfl hd) fun _ _ => by simp [DRel]
theorem me_gint {i : Int} (hg : Gl X x) (hm : ∃ t, X.mg x = some (.int i t)) (hd : (x == ("__debug__" : Str)) = false := by decide) : ME X W (.Name x pos) (ret (.int i)) := by
  obtain ⟨t, hm⟩ := hm
  exact me_c (pe_glob (v := .int i) hg hm ⟨t, rfl⟩ hd) fun _ _ => by simp [DRel]
theorem me_gstr {z : Str} (hg : Gl X x) (hm : ∃ t, X.mg x = some (.str z t)) (hd : (x == ("__debug__" : Str)) = false := by decide) : ME X W (.Name x pos) (ret (.str z)) := by
  obtain ⟨t, hm⟩ := hm
  exact me_c (pe_glob (v := .str z) hg hm ⟨t, rfl⟩ hd) fun _ _ => by simp [DRel]
theorem me_gval {d : D} (hg : Gl X x) (hm : X.mg x = some (.ref (He.ga X.K x))) (hD : ∀ ρ H, DRel X.K ρ H d (.ref (He.ga X.K x))) (hd : (x == ("__debug__" : Str)) = false := by decide) : ME X W (.Name x pos) (ret d) := me_c (pe_glob (v := .ref (He.ga X.K x)) hg hm rfl hd) hD
theorem me_bty {T : String} (hg : Gl X x) (hm : X.mg x = none) (hv : bootBuiltins x = some (.type T)) (hn : x ≠ "__name__" := by decide) (hd : (x == ("__debug__" : Str)) = false := by decide) : ME X W (.Name x pos) (ret (.ty T)) := me_c (pe_bltn (v := .ty T) hg hm hv rfl hn hd) fun _ _ => by simp [DRel]
end
/-- a tuple of strings, written in the module -/
def tupSB (K : PySem.W.Frag) (x : Str) (ws : List Str) : Bool := match K.lookup (He.ga K x) with
  | some ⟨.type c, _, .seq its _, _⟩ => decide (c = "tuple") && (decide (its.size ≤ sizeLine) && go ws its.toList)
  | _ => false
where go : List Str → List Value → Bool
  | [], [] => true
  | w :: ws, .str z _ :: vs => decide (w = z) && go ws vs
  | _, _ => false
theorem tupSB_go : ∀ {ws : List Str} {vs : List Value}, tupSB.go ws vs = true → Vals (ws.map V.str) vs
  | [], [], _ => .nil
  | w :: ws, v :: vs, h => by
    cases v with
    | str z t =>
      simp only [tupSB.go, Bool.and_eq_true, decide_eq_true_eq] at h
      obtain ⟨rfl, h2⟩ := h
      exact .cons ⟨t, rfl⟩ (tupSB_go h2)
    | _ => simp [tupSB.go] at h
  | [], _ :: _, h => by simp [tupSB.go] at h
  | _ :: _, [], h => by simp [tupSB.go] at h
theorem drels_strs {K : PySem.W.Frag} {ρ : Rho} {H : Hp} : ∀ ws : List Str, DRels K ρ H (ws.map D.str) (ws.map V.str)
  | [] => rfl
  | w :: ws => drels_cons rfl (drels_strs ws)
theorem tupSB_ok {K : PySem.W.Frag} {x : Str} {ws : List Str} (h : tupSB K x ws = true) : ∀ ρ H, DRel K ρ H (.tup (ws.map D.str)) (.ref (He.ga K x)) := by
  intro ρ H
  unfold tupSB at h
  cases q : K.lookup (He.ga K x) with
  | none => rw [q] at h; cases h
  | some o =>
    obtain ⟨oc, od, dt, osl⟩ := o
    rw [q] at h
    cases oc with
    | type c =>
      cases dt with
      | seq its n =>
        simp only [Bool.and_eq_true, decide_eq_true_eq] at h
        obtain ⟨rfl, h2, h3⟩ := h
        exact ⟨_, ws.map V.str, rfl, .inr ⟨_, its, n, q, rfl, rfl, h2, tupSB_go h3⟩, drels_strs ws⟩
      | _ => cases h
    | _ => cases h
end M3
end L2

set_option Elab.async false
set_option linter.all false
set_option maxRecDepth 100000
set_option maxHeartbeats 2000000
/-! M3l: the head's facts. -/
namespace L2
namespace M3
open PySem PySem.Spec PyProof.Rows

/-- a part of the heap that holds what the names, the statics reach -/
def asE (g : Addr → Option Obj) : Nat → List Addr
  | 0 => [mainGlobals, cStatics]
  | n + 1 => He.growD g (asE g n)
/-- an own error with a field -/
structure SupD where
  C : Str
  fld : Str
  qual : Str
  msg : Str
  params : Arguments
  body : List Stmt
  scope : Scope
abbrev FnS : Type := Option (Str × Str × Arguments × FuncBody × Scope × Addr × List Str × Addr)
def SupD.fI (K : PySem.W.Frag) (d : SupD) : Addr := He.ma K (He.ga K d.C) "__init__"
def fnS (K : PySem.W.Frag) (a : Addr) : FnS := match K.lookup a with
  | some ⟨_, _, .func fd, _⟩ => some (fd.name, fd.qualname, fd.params, fd.body, fd.scope, fd.globals, fd.closure.map (·.1), fd.builtins)
  | _ => none
def SupD.val (d : SupD) : FnS := some ("__init__", d.qual, d.params, .stmts d.body, d.scope, mainGlobals, [("__class__" : Str)], builtinsNs)
def excB (K : PySem.W.Frag) (C : Addr) : Bool := match K.lookup C with
  | some ⟨.type c, _, .cls cd, sl⟩ => (match cd.mro, sl.toList with
    | .ref C' :: bm, [_, _, _, _, some (.builtin n), _] => decide (c = "type") && (C' == C && (n == "ValueError.__new__" && (!cd.hasDel && (cd.hasDict && PySem.HandSPX.refsVE bm))))
    | _, _ => false)
  | _ => false
theorem excB_ok {K : PySem.W.Frag} {C : Addr} (h : excB K C = true) : ∃ nm q N bs bm sn sub ab col dd k0 k1 k2 k3 k5, K.lookup C = some (excClassObj nm q C N bs bm true sn sub ab col dd k0 k1 k2 k3 k5 "ValueError.__new__") ∧ PySem.HandSPX.refsVE bm = true := by
  unfold excB at h
  split at h
  · rename_i c dd cd sl ho
    split at h
    · rename_i C' bm k0 k1 k2 k3 n k5 hm hs
      simp only [Bool.and_eq_true, beq_iff_eq, Bool.not_eq_true', decide_eq_true_eq] at h
      obtain ⟨rfl, rfl, rfl, hdel, hdct, ht⟩ := h
      obtain ⟨nm, bs, mro, ns, qn, hd, sn, sub, ab, col, del⟩ := cd
      dsimp only at hm hdel hdct
      subst hm hdel hdct
      have hsl : sl = #[k0, k1, k2, k3, some (.builtin "ValueError.__new__"), k5] := by
        obtain ⟨l⟩ := sl
        simp only at hs
        rw [hs]
      subst hsl
      exact ⟨nm, qn, ns, bs, bm, sn, sub, ab, col, dd, k0, k1, k2, k3, k5, ho, ht⟩
    · cases h
  · cases h
def codB (P : Program) (K : PySem.W.Frag) (C fI : Addr) (qual : Str) : Bool := match K.lookup fI with
  | some ⟨_, _, .func fd, _⟩ => PySem.W.codeIn K fd.code qual && ((match fd.defaults, fd.kwdefaults with | .none, .none => true | _, _ => false) && ((match fd.code with
    | .ref cda => (match K.lookup cda with
      | some ⟨_, _, .fields vs, _⟩ => (match (vs[2]? : Option Value) with
        | some (.str file _) => (P.main.file : Str) == file
        | _ => false)
      | _ => false)
    | _ => false) && (match fd.closure with
    | [(_, cc)] => (match K.lookup cc with
      | some ⟨_, _, .cell (some (.ref C')), _⟩ => C' == C
      | _ => false)
    | _ => false)))
  | _ => false
def SupD.ok (P : Program) (K : PySem.W.Frag) (d : SupD) : Bool := excB K (He.ga K d.C) && (He.eqO (PySem.W.findIn K (.ref (He.ga K d.C)) "__setattr__") (some (some (.builtin "object.__setattr__"))) && (xfB K (He.ga K d.C) && (He.eqO (PySem.W.findIn K (.ref (He.ga K d.C)) d.fld) (some none) &&
  (He.eqO (PySem.W.findIn K (.ref (He.ga K d.C)) "__init__") (some (some (.ref (d.fI K)))) && (decide (PySem.W.typeIn K (.ref (d.fI K)) = some (.type "function")) && (PySem.W.keepIn K (.ref (He.ga K d.C)) && (decide (PySem.W.typeIn K (.ref (He.ga K d.C)) = some (.type "type")) &&
  (He.eqO (PySem.W.ks_superIn K (He.ga K d.C) (He.ga K d.C) "__init__") (some (some (.builtin "ValueError.__init__"))) && (decide (PySem.W.subIn K (.ref (He.ga K d.C)) (.type "ValueError") = some true) && (decide (PySem.W.mroIn K (He.ga K d.C) (.ref (He.ga K d.C)) = some true) && (He.eqO (PySem.W.nsIn K cStatics "thirdparty.any") (some none) &&
  codB P K (He.ga K d.C) (d.fI K) d.qual)))))))))))
theorem codB_ok {P : Program} {K : PySem.W.Frag} {d : SupD} {C : Addr} {p1 p2 q1 q2 q3 q4 q5 q6 r1 r2 r3 r4 : Pos} (hc : codB P K C (d.fI K) d.qual = true) (e : fnS K (d.fI K) = d.val) (hp : d.params = PySem.SupX.iA d.fld p1 p2) (hb : d.body = PySem.SupX.iB d.fld d.msg q1 q2 q3 q4 q5 q6 r1 r2 r3 r4) (hs : d.scope = PySem.SupX.iS d.fld)
    (hl : (q3.endLine == q5.line) = true) :
    ∃ (oc : Value) (od : Option Addr) (doc pm : Value) (an : Option Addr) (cda : Addr) (ct : Value) (osl : Array (Option Value)) (cc : Addr) (qual msg : Str) (p1 p2 q1 q2 q3 q4 q5 q6 r1 r2 r3 r4 : Pos),
    K.lookup (d.fI K) = some ⟨oc, od, .func (PySem.W.ksFn "__init__" qual (PySem.SupX.iA d.fld p1 p2) (PySem.SupX.iB d.fld msg q1 q2 q3 q4 q5 q6 r1 r2 r3 r4) (PySem.SupX.iS d.fld) .none .none doc pm an (.ref cda) ct cc), osl⟩ ∧ PySem.W.codeIn K (.ref cda) qual = true ∧ (q3.endLine == q5.line) = true ∧
    (∃ (ccl : Value) (cdd : Option Addr) (vs : Array Value) (ccs : Array (Option Value)) (file : Str) (tf : Tok), K.lookup cda = some ⟨ccl, cdd, .fields vs, ccs⟩ ∧ vs[2]? = some (.str file tf) ∧ ((P.main.file : Str) == file) = true) ∧
    ∃ (cl : Value) (cld : Option Addr) (csl : Array (Option Value)), K.lookup cc = some ⟨cl, cld, .cell (some (.ref C)), csl⟩ := by
  unfold fnS at e
  unfold codB at hc
  cases q : K.lookup (d.fI K) with
  | none => rw [q] at hc; cases hc
  | some o =>
    obtain ⟨oc, od, dt, osl⟩ := o
    rw [q] at hc e
    cases dt with
    | func fd =>
      obtain ⟨n1, n2, n3, n4, n5, n6, n7, n8, n9, n10, n11, n12, n13, n14, n15⟩ := fd
      have e2 : (some (n1, n2, n3, n4, n5, n6, n7.map (·.1), n15) : FnS) = some (("__init__" : Str), d.qual, d.params, .stmts d.body, d.scope, mainGlobals, [("__class__" : Str)], builtinsNs) := e
      simp only [Option.some.injEq, Prod.mk.injEq] at e2
      obtain ⟨h1, h2, h3, h4, h5, h6, h7, h8⟩ := e2
      subst h1 h2 h3 h4 h5 h6 h8
      dsimp only at hc
      obtain ⟨c1, hc⟩ := He.ba hc
      obtain ⟨c2, hc⟩ := He.ba hc
      obtain ⟨c3, c4⟩ := He.ba hc
      cases n8 with
      | none =>
        cases n9 with
        | none =>
          cases n13 with
          | ref cda =>
            cases n7 with
            | nil => cases c4
            | cons y r =>
              cases r with
              | cons _ _ => cases c4
              | nil =>
                obtain ⟨y1, cc⟩ := y
                have hy : y1 = ("__class__" : Str) := by simpa using h7
                subst hy
                dsimp only at c3 c4
                cases z2 : K.lookup cda with
                | none => rw [z2] at c3; cases c3
                | some o2 =>
                  obtain ⟨o1, o2, o3, o4⟩ := o2
                  rw [z2] at c3
                  cases o3 with
                  | fields vs =>
                    dsimp only at c3
                    cases q3' : vs[2]? with
                    | none => rw [q3'] at c3; cases c3
                    | some fv =>
                      rw [q3'] at c3
                      cases fv with
                      | str file tf =>
                        cases q4' : K.lookup cc with
                        | none => rw [q4'] at c4; cases c4
                        | some o5 =>
                          obtain ⟨u1, u2, u3, u4⟩ := o5
                          rw [q4'] at c4
                          cases u3 with
                          | cell cv =>
                            cases cv with
                            | none => cases c4
                            | some cvv =>
                              cases cvv with
                              | ref C' =>
                                have hC : C' = C := beq_iff_eq.mp c4
                                subst hC
                                rw [hp, hb, hs]
                                refine ⟨oc, od, n10, n11, n12, cda, n14, osl, cc, d.qual, d.msg, p1, p2, q1, q2, q3, q4, q5, q6, r1, r2, r3, r4, rfl, c1, hl, ⟨o1, o2, vs, o4, file, tf, z2, q3', c3⟩, u1, u2, u4, q4'⟩
                              | _ => cases c4
                          | _ => cases c4
                      | _ => cases c3
                  | _ => cases c3
          | _ => cases c3
        | _ => cases c2
      | _ => cases c2
    | _ => cases hc
structure SupShape (d : SupD) : Prop where
  ex : ∃ (p1 p2 q1 q2 q3 q4 q5 q6 r1 r2 r3 r4 : Pos), d.params = PySem.SupX.iA d.fld p1 p2 ∧ d.body = PySem.SupX.iB d.fld d.msg q1 q2 q3 q4 q5 q6 r1 r2 r3 r4 ∧ d.scope = PySem.SupX.iS d.fld ∧ (q3.endLine == q5.line) = true
  f1 : d.fld ≠ "self"
  f2 : d.fld ≠ "super"
  f3 : d.fld ≠ "__class__"
  f4 : (d.fld == ("__debug__" : Str)) = false
  bd : ∀ (qual msg : Str) (doc pm : Value) (an : Option Addr) (cda : Addr) (ct : Value) (cc : Addr) (p1 p2 q1 q2 q3 q4 q5 q6 r1 r2 r3 r4 : Pos) (x v : Value), bindArgs (PySem.W.ksFn "__init__" qual (PySem.SupX.iA d.fld p1 p2) (PySem.SupX.iB d.fld msg q1 q2 q3 q4 q5 q6 r1 r2 r3 r4) (PySem.SupX.iS d.fld) .none .none doc pm an (.ref cda) ct cc) ⟨[x, v], []⟩ = pure [(("self" : Str), x), (d.fld, v)]
theorem supTxt {P : Program} {K : PySem.W.Frag} {mg : Str → Option Value} {d : SupD} (h : d.ok P K = true) (e : fnS K (d.fI K) = d.val) (S : SupShape d) (noS : mg "super" = none) (top : (P.main.scope.names.lookup ("super" : Str)).isSome = false) : PySem.SupX.SupTxt P K mg (He.ga K d.C) (d.fI K) d.fld := by
  unfold SupD.ok at h
  obtain ⟨a1, h⟩ := He.ba h
  obtain ⟨a2, h⟩ := He.ba h
  obtain ⟨a3, h⟩ := He.ba h
  obtain ⟨a4, h⟩ := He.ba h
  obtain ⟨a5, h⟩ := He.ba h
  obtain ⟨a6, h⟩ := He.ba h
  obtain ⟨a7, h⟩ := He.ba h
  obtain ⟨a8, h⟩ := He.ba h
  obtain ⟨a9, h⟩ := He.ba h
  obtain ⟨a10, h⟩ := He.ba h
  obtain ⟨a11, h⟩ := He.ba h
  obtain ⟨a12, a13⟩ := He.ba h
  obtain ⟨p1, p2, q1, q2, q3, q4, q5, q6, r1, r2, r3, r4, s1, s2, s3, s4⟩ := S.ex
  have x := xfB_ok a3
  exact ⟨excB_ok a1, He.eqO_ok a2, x.ga, x.gg, He.eqO_ok a4, He.eqO_ok a5, of_decide_eq_true a6, a7, x.exC, of_decide_eq_true a8, x.hdC, He.eqO_ok a9, of_decide_eq_true a10, of_decide_eq_true a11, He.eqO_ok a12, noS, top, S.f1, S.f2, S.f3, S.f4, S.bd, codB_ok a13 e s1 s2 s3 s4⟩

/-! ### facts of our own -/
inductive Fb where
  | tup (x : Str) (ws : List Str)
  | insf (C : Str)
  | exc (C : Str)
  | xf (C f : Str)
  | kit (a b : CT) (r : Bool)
  | exm (C : Str) (c : CT) (r : Bool)
def eqV (a b : Option Value) : Bool := decide (a = b)
def Fb.ok (K : PySem.W.Frag) : Fb → Bool
  | .tup x ws => tupSB K x ws
  | .insf C => He.Fa.ok K (.cls C) && (He.eqO (PySem.W.findIn K (.ref (He.ga K C)) "__class__") (some (some (.builtin "object.__class__"))) && (He.eqO (PySem.W.specialIn K (.builtin "object.__class__") "__get__") (some (some (.builtin "getset_descriptor.__get__"))) && (decide (PySem.W.takesIn K (.builtin "object.__class__") = some true) && decide (PySem.W.mroIn K (He.ga K C) (.type "object") = some true))))
  | .exc C => xfB K (He.ga K C) && (He.eqO (PySem.W.findIn K (.ref (He.ga K C)) "__class__") (some (some (.builtin "object.__class__"))) && (He.eqO (PySem.W.specialIn K (.builtin "object.__class__") "__get__") (some (some (.builtin "getset_descriptor.__get__"))) && (decide (PySem.W.takesIn K (.builtin "object.__class__") = some true) && decide (PySem.W.mroIn K (He.ga K C) (.type "object") = some true))))
  | .xf C f => xfB K (He.ga K C) && He.eqO (PySem.W.findIn K (.ref (He.ga K C)) f) (some none)
  | .kit a b r => decide (PySem.W.kitOne K (cv K a) (cv K b) = some r)
  | .exm C c r => decide (PySem.W.exmOne K (.ref (He.ga K C)) (cv K c) = some r)
theorem insf_ok {K : PySem.W.Frag} {C : Str} (h : (Fb.insf C).ok K = true) : InsF K (He.ga K C) := by
  unfold Fb.ok at h
  obtain ⟨a1, h⟩ := He.ba h
  obtain ⟨a2, h⟩ := He.ba h
  obtain ⟨a3, h⟩ := He.ba h
  obtain ⟨a4, a5⟩ := He.ba h
  exact ⟨He.cls_ok a1, He.eqO_ok a2, He.eqO_ok a3, of_decide_eq_true a4, of_decide_eq_true a5⟩
theorem excb_ok {K : PySem.W.Frag} {C : Str} (h : (Fb.exc C).ok K = true) : ExcC K (He.ga K C) := by
  unfold Fb.ok at h
  obtain ⟨a1, h⟩ := He.ba h
  obtain ⟨a2, h⟩ := He.ba h
  obtain ⟨a3, h⟩ := He.ba h
  obtain ⟨a4, a5⟩ := He.ba h
  have x := xfB_ok a1
  exact ⟨x.ga, x.gg, x.exC, x.hdC, He.eqO_ok a2, He.eqO_ok a3, of_decide_eq_true a4, of_decide_eq_true a5⟩
theorem xf_ok {K : PySem.W.Frag} {C f : Str} (h : (Fb.xf C f).ok K = true) : XfC K (He.ga K C) ∧ PySem.W.findIn K (.ref (He.ga K C)) f = some none := by
  unfold Fb.ok at h
  obtain ⟨a1, a2⟩ := He.ba h
  exact ⟨xfB_ok a1, He.eqO_ok a2⟩
/-! ### the class table by lists -/
structure Tab where
  ic : List Str
  nf : List (Str × Str)
  ec : List Str
  xf : List (Str × Str)
  kt : List (CT × CT × Bool)
  em : List (Str × CT × Bool)
def Tab.facts (t : Tab) : List Fb := t.ic.map Fb.insf ++ (t.ec.map Fb.exc ++ (t.xf.map (fun p => Fb.xf p.1 p.2) ++ (t.kt.map (fun p => Fb.kit p.1 p.2.1 p.2.2) ++ t.em.map (fun p => Fb.exm p.1 p.2.1 p.2.2))))
def Tab.ok (K : PySem.W.Frag) (t : Tab) : Bool := t.facts.all (Fb.ok K) && t.nf.all fun p => He.Fa.ok K (.noat p.1 p.2)
def Tab.look {α : Type} (p : α → Bool) (l : List (α × Bool)) : Option Bool := (l.find? fun q => p q.1).map (·.2)
def Tab.ktF (t : Tab) (a b : CT) : Option Bool := match kt0 a b with
  | some r => some r
  | none => (t.kt.find? fun p => decide (p.1 = a) && decide (p.2.1 = b)).map (·.2.2)
def Tab.emF (t : Tab) (c : CT) (C : Str) : Option Bool := (t.em.find? fun p => decide (p.1 = C) && decide (p.2.1 = c)).map (·.2.2)
section
variable {K : PySem.W.Frag} {t : Tab}
theorem Tab.fb (h : t.ok K = true) {f : Fb} (m : f ∈ t.facts) : f.ok K = true := List.all_eq_true.mp (He.ba h).1 f m
theorem Tab.em_ok (h : t.ok K = true) {c : CT} : ∀ C b, t.emF c C = some b → PySem.W.exmOne K (.ref (He.ga K C)) (cv K c) = some b := by
  intro C b e
  unfold Tab.emF at e
  cases q : t.em.find? (fun p => decide (p.1 = C) && decide (p.2.1 = c)) with
  | none => rw [q] at e; cases e
  | some p =>
    rw [q] at e
    cases e
    have hm := List.mem_of_find?_eq_some q
    have hp := List.find?_some q
    simp only [Bool.and_eq_true, decide_eq_true_eq] at hp
    obtain ⟨rfl, rfl⟩ := hp
    have := Tab.fb h (f := .exm p.1 p.2.1 p.2.2) (by unfold Tab.facts; simp only [List.mem_append, List.mem_map]; exact .inr (.inr (.inr (.inr ⟨p, hm, rfl⟩))))
    exact of_decide_eq_true this
def Tab.tf (t : Tab) : TF := ⟨t.ktF, fun C => t.ic.contains C, fun C f => t.nf.contains (C, f), fun C => t.ec.contains C, fun C f => t.xf.contains (C, f)⟩
def Tab.cf (h : t.ok K = true) : CF K where
  T := t.tf
  hkt := fun a b r e => by
    replace e : t.ktF a b = some r := e
    unfold Tab.ktF at e
    cases q0 : kt0 a b with
    | some r' => rw [q0] at e; cases e; exact kt0_ok _ _ _ q0
    | none =>
      rw [q0] at e
      simp only at e
      cases q : t.kt.find? (fun p => decide (p.1 = a) && decide (p.2.1 = b)) with
      | none => rw [q] at e; cases e
      | some p =>
        rw [q] at e
        cases e
        have hm := List.mem_of_find?_eq_some q
        have hp := List.find?_some q
        simp only [Bool.and_eq_true, decide_eq_true_eq] at hp
        obtain ⟨rfl, rfl⟩ := hp
        have := Tab.fb h (f := .kit p.1 p.2.1 p.2.2) (by unfold Tab.facts; simp only [List.mem_append, List.mem_map]; exact .inr (.inr (.inr (.inl ⟨p, hm, rfl⟩))))
        exact of_decide_eq_true this
  hic := fun C e => insf_ok (Tab.fb h (f := .insf C) (by unfold Tab.facts; simp only [List.mem_append, List.mem_map]; exact .inl ⟨C, by simpa [Tab.tf] using e, rfl⟩))
  hnf := fun C f e => He.noat_ok (List.all_eq_true.mp (He.ba h).2 (C, f) (by simpa [Tab.tf] using e))
  hec := fun C e => excb_ok (Tab.fb h (f := .exc C) (by unfold Tab.facts; simp only [List.mem_append, List.mem_map]; exact .inr (.inl ⟨C, by simpa [Tab.tf] using e, rfl⟩)))
  hxf := fun C f e => xf_ok (Tab.fb h (f := .xf C f) (by unfold Tab.facts; simp only [List.mem_append, List.mem_map]; exact .inr (.inr (.inl ⟨(C, f), by simpa [Tab.tf] using e, rfl⟩))))
end

/-! ### the Hook -/
structure Hd where
  P : Program
  n : Nat
  fa : List He.Fa
  tb : List (Str × List Str)
  t : Tab
  fn : List He.DefD
  sn : List SupD
abbrev AlE : Type := Bool × List He.FnW × List FnS
def Hd.okB (h : Hd) (K : PySem.W.Frag) : Bool := (h.fa.all fun f => f.ok K) && ((h.tb.all fun p => tupSB K p.1 p.2) && (h.t.ok K && ((h.fn.all fun d => d.ok K) && h.sn.all fun d => d.ok h.P K)))
def Hd.obs (h : Hd) (K : PySem.W.Frag) : AlE := (h.okB K, h.fn.map (fun d => He.fnW K d.at_), h.sn.map fun d => fnS K (d.fI K))
def Hd.val (h : Hd) : AlE := (true, h.fn.map He.DefD.val, h.sn.map SupD.val)
def Hd.says (h : Hd) (K : PySem.W.Frag) : Prop := h.obs K = h.val
def Hd.hook (h : Hd) : PySem.W.Hook where
  α := AlE
  obs := fun s => h.obs (He.frG s.heap.get? (asE s.heap.get? h.n))
  val := fun _ => h.val
  says := fun _ hp => ∃ K : PySem.W.Frag, K.In hp ∧ h.says K
  of := fun _ _ e => ⟨_, He.frG_in, e⟩
  keeps := fun _ _ _ ⟨K, hK, c⟩ k => ⟨K, PySem.W.Frag.In.keeps hK k, c⟩
def Hd.ob (h : Hd) (s : PySem.W.SharedT) : AlE := h.obs (He.frG (HandSHeadRun.getT s) (asE (HandSHeadRun.getT s) h.n))
theorem Hd.ob_eq (h : Hd) (s : PySem.W.SharedT) : h.ob s = h.hook.obs s.abs := by
  have e : HandSHeadRun.getT s = s.abs.heap.get? := funext (HandSHeadRun.getT_eq s)
  unfold Hd.ob
  rw [e]
  rfl
section
variable {h : Hd} {K : PySem.W.Frag}
theorem Hd.b (c : h.says K) : h.okB K = true := congrArg (fun z : AlE => z.1) c
theorem Hd.fact (c : h.says K) (i : Nat) {f : He.Fa} (e : h.fa[i]? = some f := by rfl) : f.ok K = true := List.all_eq_true.mp (He.ba (Hd.b c)).1 f (List.mem_of_getElem? e)
theorem Hd.tab (c : h.says K) (i : Nat) {x : Str} {ws : List Str} (e : h.tb[i]? = some (x, ws) := by rfl) : tupSB K x ws = true := List.all_eq_true.mp (He.ba (He.ba (Hd.b c)).2).1 (x, ws) (List.mem_of_getElem? e)
theorem Hd.tok (c : h.says K) : h.t.ok K = true := (He.ba (He.ba (He.ba (Hd.b c)).2).2).1
theorem Hd.def_ (c : h.says K) (i : Nat) {d : He.DefD} (e : h.fn[i]? = some d := by rfl) : ∃ fd, FunD K d.name d.qual d.params d.body d.scope (d.dvs K) (d.kws K) (He.fAd K d.at_) fd := by
  have c2 := (He.ba (He.ba (He.ba (He.ba (Hd.b c)).2).2).2).1
  have e1 : h.fn.map (fun d => He.fnW K d.at_) = h.fn.map He.DefD.val := congrArg (fun z : AlE => z.2.1) c
  have e2 : (h.fn.map fun d => He.fnW K d.at_)[i]? = (h.fn.map He.DefD.val)[i]? := by rw [e1]
  rw [List.getElem?_map, List.getElem?_map, e] at e2
  exact He.DefD.funD (Option.some.inj e2) (List.all_eq_true.mp c2 d (List.mem_of_getElem? e))
theorem Hd.sup {mg : Str → Option Value} (c : h.says K) (i : Nat) {d : SupD} (S : SupShape d) (noS : mg "super" = none) (top : (h.P.main.scope.names.lookup ("super" : Str)).isSome = false) (e : h.sn[i]? = some d := by rfl) : PySem.SupX.SupTxt h.P K mg (He.ga K d.C) (d.fI K) d.fld := by
  have c2 := (He.ba (He.ba (He.ba (He.ba (Hd.b c)).2).2).2).2
  have e1 : h.sn.map (fun d => fnS K (d.fI K)) = h.sn.map SupD.val := congrArg (fun z : AlE => z.2.2) c
  have e2 : (h.sn.map fun d => fnS K (d.fI K))[i]? = (h.sn.map SupD.val)[i]? := by rw [e1]
  rw [List.getElem?_map, List.getElem?_map, e] at e2
  exact supTxt (List.all_eq_true.mp c2 d (List.mem_of_getElem? e)) (Option.some.inj e2) S noS top
end
end M3
end L2

set_option Elab.async false
set_option linter.all false
set_option maxRecDepth 100000
set_option maxHeartbeats 2000000
/-! M3m: defs by name, what the printed proofs take. -/
namespace L2
namespace M3
open PySem PySem.Spec PyProof.Rows

/-- a def keeps its mirror -/
structure OkF (P : Program) (w : World) (K : PySem.W.Frag) (mg : Str → Option Value) (base : Heap) (k : Nat) (a : Addr) (ps : List Str) (fm : FM) : Prop where
  ex : ∃ fd, FnOk P w K mg base (L2.CX P w) k a fd ps (spM K ps.length fm) ∧ Binds K fd ps [] ∧ (∀ (s : Shared) (us : List Value), us.length = ps.length → BindsTo s fd ⟨us, []⟩ (ps.zip us)) ∧ ∃ oc od sl, K.lookup a = some ⟨oc, od, .func fd, sl⟩
  kp : PySem.W.keepIn K (.ref a) = true
section
variable {P : Program} {w : World} {K : PySem.W.Frag} {mg : Str → Option Value} {base : Heap} {x qual : Str} {params : Arguments} {body : List Stmt} {scope : Scope} {f : Addr}
theorem OkF.trim {k : Nat} {ps : List Str} {fm : FM} (j : Nat) (o : OkF P w K mg base k f ps fm) : OkF P w K mg base k f ps (trim j fm) := by
  obtain ⟨⟨fd, h1, h2⟩, kp⟩ := o
  exact ⟨⟨fd, trim_ok h1, h2⟩, kp⟩
theorem okF_of {N ps : List Str} {k : Nat} {b : MS} (F : ∃ fd, FunD K x qual params body scope [] [] f fd) (S : FnScope N ps scope)
    (hb : ∀ fd, FunD K x qual params body scope [] [] f fd → ∀ (s : Shared) (us : List Value), us.length = ps.length → BindsTo s fd ⟨us, []⟩ (ps.zip us))
    (hbody : ∀ (cdv : Value) (A : Around) (outer : List Env) (s : Shared) (H : Hp) (E : XK), Room k (A.deeper (envOfC qual scope s.heap.objs.size f cdv)) → MSs (cxOf (L2.CX P w) P w K mg base N qual scope f cdv A outer s H E) (WD E) body b) :
    OkF P w K mg base (k + 1) f ps (runF N.length b) := by
  obtain ⟨fd, F⟩ := F
  obtain ⟨oc, od, dV, kV, doc, pm, an, cdv, ct, osl, e, lk, _⟩ := F.ex
  exact ⟨⟨fd, fn_okX F S hbody, fun s us _ hl => by
    rw [List.append_nil] at hl ⊢
    exact hb fd F s us hl, hb fd F, oc, od, osl, lk⟩, F.kp⟩
end
/-! calls by name -/
section
variable {X : Cx} {W : Wq} {e : Expr} {es : List Expr} {pos p : Pos} {m : M (List D)} {x : Str} {k k' : Nat} {ps : List Str} {fm : FM}
theorem mcl (O : OkF X.prog X.w X.K X.mg X.base k (He.ga X.K x) ps fm) (hr : Room k' X.A) (hg : Gl X x) (hm : X.mg x = some (.ref (He.ga X.K x))) (tk : Takes X W.w) (ha : MA X W (e :: es) m) (hk : k ≤ k' := by decide)
    (hdb : (x == ("__debug__" : Str)) = false := by decide) (he : starEach (e :: es) X.env = (false, eval e X.env) :: starEach es X.env := by rfl) (hpl : (backTo pos (starEach es X.env)).any (·.1) = false := by rfl) : ME X W (.Call (.Name x p) (e :: es) [] pos) (bnd m (callM ps.length fm)) := by
  obtain ⟨⟨fd, F, hb, _⟩, kp⟩ := O
  exact me_call F (hr.mono hk) hg hm kp hb tk ha hdb he hpl
theorem mcl0 (O : OkF X.prog X.w X.K X.mg X.base k (He.ga X.K x) ps fm) (hr : Room k' X.A) (hg : Gl X x) (hm : X.mg x = some (.ref (He.ga X.K x))) (tk : Takes X W.w) (hk : k ≤ k' := by decide)
    (hdb : (x == ("__debug__" : Str)) = false := by decide) : ME X W (.Call (.Name x p) [] [] pos) (callM ps.length fm []) := by
  obtain ⟨⟨fd, F, hb, _⟩, kp⟩ := O
  exact me_call0 F (hr.mono hk) hg hm kp hb tk hdb
theorem mmk (M : Mk X.K (He.ga X.K x) (He.ma X.K (He.ga X.K x) "__init__")) (O : OkF X.prog X.w X.K X.mg X.base k (He.ma X.K (He.ga X.K x) "__init__") ps fm) (hr : Room k' X.A) (hg : Gl X x) (hm : X.mg x = some (.ref (He.ga X.K x))) (tk : Takes X W.w) (ha : MA X W (e :: es) m) (hk : k + 1 ≤ k' := by decide)
    (hdb : (x == ("__debug__" : Str)) = false := by decide) (he : starEach (e :: es) X.env = (false, eval e X.env) :: starEach es X.env := by rfl) (hpl : (backTo pos (starEach es X.env)).any (·.1) = false := by rfl) : ME X W (.Call (.Name x p) (e :: es) [] pos) (bnd m (mkI x ps.length fm)) := by
  obtain ⟨⟨fd, F, hb, _⟩, kp⟩ := O
  exact me_make M F (hr.mono hk) hg hm hb tk ha hdb he hpl
theorem mmk0 (M : Mk X.K (He.ga X.K x) (He.ma X.K (He.ga X.K x) "__init__")) (O : OkF X.prog X.w X.K X.mg X.base k (He.ma X.K (He.ga X.K x) "__init__") ps fm) (hr : Room k' X.A) (hg : Gl X x) (hm : X.mg x = some (.ref (He.ga X.K x))) (tk : Takes X W.w) (hk : k + 1 ≤ k' := by decide)
    (hdb : (x == ("__debug__" : Str)) = false := by decide) : ME X W (.Call (.Name x p) [] [] pos) (bnd (ret []) (mkI x ps.length fm)) := by
  obtain ⟨⟨fd, F, hb, _⟩, kp⟩ := O
  exact me_make0 M F (hr.mono hk) hg hm hb tk hdb
theorem alt_of {C mm : Str} (c : Cls X.K (He.ga X.K C)) (M : Meth X.K (He.ga X.K C) mm (He.ma X.K (He.ga X.K C) mm)) (O : OkF X.prog X.w X.K X.mg X.base k (He.ma X.K (He.ga X.K C) mm) ps fm) : AltOk X k mm C ps.length fm := by
  obtain ⟨⟨fd, F, hb, _⟩, kp⟩ := O
  exact ⟨c, _, fd, ps, M, F, hb⟩
/-- a call of what lets nothing out -/
theorem tk0 : Takes X W0.w := fun u s' ⟨a, B, sI, pins, σ, H, cls, d, e, I, nb, up, sky, na, os, ag, w⟩ => w.elim
end
section
variable {X : Cx}
theorem pgs_nm {is : List Nat} {es : List Expr} (h : PGs X es (gNs is)) : PGs X es (gNs is) := h
theorem pg_nm {i : Nat} {x : Str} {pos : Pos} (hN : X.N.Nodup) (hi : X.N[i]? = some x) (hx : Loc X.env.scope x) (hf : X.fn x = true ∨ X.env.scope.names.lookup x = some .local := by first | exact .inl rfl | exact .inr rfl | assumption) : PG X (.Name x pos) (gTg X.K (.nm i)) := pg_name hN hi hx hf
theorem pgs_c {i : Nat} {x : Str} {pos : Pos} {is : List Nat} {es : List Expr} (hN : X.N.Nodup) (hi : X.N[i]? = some x) (hx : Loc X.env.scope x) (h : PGs X es (gNs is)) (hf : X.fn x = true ∨ X.env.scope.names.lookup x = some .local := by first | exact .inl rfl | exact .inr rfl | assumption)
    (hs : (assignEach (.Name x pos :: es) X.env).map (·.2) = assign (.Name x pos) X.env :: (assignEach es X.env).map (·.2) := by rfl) : PGs X (.Name x pos :: es) (gNs (i :: is)) := pgs_cons (pg_name hN hi hx hf) h hs
theorem pgs_0 : PGs X [] (gNs []) := pgs_nil
theorem pg_tp {is : List Nat} {es : List Expr} {k : Nat} {pos : Pos} (hc : X.calm = true) (h : PGs X es (gNs is)) (hn : (assignEach es X.env).length = is.length := by rfl) (hst : (assignEach es X.env).findIdx? (·.1) = none := by rfl) : PG X (.Tuple es k pos) (gTg X.K (.tp is)) := pg_tup hc h hn hst
end
def stkS : MS := fun _ _ => .stuck
theorem mss_stk {X : Cx} {W : Wq} {sts : List Stmt} : MSs X W sts stkS := ⟨fun pins s σ H Q I ⟨ρ, G, ds, rl, sr, hl, p⟩ => p.elim⟩
/-- {} that is never changed -/
def mkD0 : M D := fun _ G => .ok (.td [] []) G
theorem me_d0 {X : Cx} {W : Wq} {pos : Pos} : ME X W (.Dict [] [] pos) mkD0 := pe_dnewK.conv fun σ H Q ⟨ρ, G, ds, rl, sr, hl, p⟩ => by
  intro a ha
  exact p ρ _ (.ref a) (step_upd rl ha) (rl.updN ha) ⟨a, [], rfl, rl.new ha, .inl ⟨[], upd_same, rfl, rfl⟩, rfl⟩
section
variable {P : Program} {w : World} {K : PySem.W.Frag} {mg : Str → Option Value} {base : Heap} {N : List Str} {qual : Str} {scope : Scope} {f : Addr} {cdv : Value} {A : Around} {outer : List Env} {s : Shared} {H : Hp} {E : XK}
theorem tkD : Takes (cxOf (L2.CX P w) P w K mg base N qual scope f cdv A outer s H E) (WD E).w := takes_of rfl rfl rfl rfl
theorem poD : PassesOwn (model (cxOf (L2.CX P w) P w K mg base N qual scope f cdv A outer s H E).prog (cxOf (L2.CX P w) P w K mg base N qual scope f cdv A outer s H E).w) (cxOf (L2.CX P w) P w K mg base N qual scope f cdv A outer s H E).A (cxOf (L2.CX P w) P w K mg base N qual scope f cdv A outer s H E).env (cxOf (L2.CX P w) P w K mg base N qual scope f cdv A outer s H E).xe := passes_of rfl
end
def blkB (N : List Str) (sc scope : Scope) (own : List (Str × Nat)) : Bool :=
  (match scope.kind with | .function => true | _ => false) && (scope.names.all (fun y => decide (scope.names.lookup y.1 = some y.2)) && (own.all (fun p => decide (N[p.2]? = some p.1)) &&
    (scope.names.all (fun y => !(decide (y.2 = .free)) || (decide (sc.names.lookup y.1 = some .cell) || decide (sc.names.lookup y.1 = some .free))) &&
      scope.names.all (fun y => !(decide (y.2 = .local) || decide (y.2 = .cell)) || ((own.map (·.1)).contains y.1 || !N.contains y.1)))))
theorem blk_of {N : List Str} {sc scope : Scope} {own : List (Str × Nat)} (h : blkB N sc scope own = true) : BlkOk N sc scope own := by
  unfold blkB at h
  simp only [Bool.and_eq_true, List.all_eq_true, decide_eq_true_eq, Bool.or_eq_true, Bool.not_eq_true', decide_eq_false_iff_not, List.contains_eq_mem] at h
  obtain ⟨h1, h2, h3, h4, h5⟩ := h
  refine ⟨?_, h2, h3, fun y hy e => ?_, fun y hy e => ?_⟩
  · revert h1
    cases scope.kind <;> intro h1 <;> first | rfl | cases h1
  · rcases h4 y hy with h | h
    · exact absurd e h
    · exact h
  · rcases h5 y hy with h | h
    · simp only [Bool.or_eq_false_iff, decide_eq_false_iff_not] at h
      rcases e with e | e
      · exact absurd e h.1
      · exact absurd e h.2
    · rcases h with h | h
      · exact .inl h
      · exact .inr h
theorem bIsiT {X : Cx} {T : TF} (h : ∃ F : PF X.K, F.T = T) : CallR X (.builtin "isinstance") (rF X.K (isiF T)) := by
  obtain ⟨F, rfl⟩ := h
  exact bIsi F
end M3
end L2

set_option Elab.async false
set_option linter.all false
set_option maxRecDepth 100000
set_option maxHeartbeats 2000000
/-! M3n: the end: a law by its mirror. -/
namespace L2
namespace M3
open PySem PySem.Spec PyProof.Rows
theorem walk_ofEW {l : PySem.W.OpenLaw} {n k : Nat} {q : Program} {loose : List Str} {XP : (Str → Option Value) → Heap → Prop} {YP : World → Heap → Prop} {d : DefRec} {CX : World → CXT} {x : Str}
    (hn : l.most = some n) (hn2 : n ≤ sizeLine) (hdf : d.params.defaults = []) (hr : Room k callerA)
    (F : ∀ (w : World) (mg : Str → Option Value) (fa : Addr) (h : Heap), YP w h → h.Ns mainGlobals mg → mg d.name = some (.ref fa) →
      ∃ (K : PySem.W.Frag) (fd : FuncData) (sp : Sp), K.In h ∧ (∀ (s : Shared) (u : Value), BindsTo s fd ⟨[u], []⟩ [(x, u)]) ∧
        (∀ (H : Hp) (a : Addr) (ns : List Int), ns.length ≤ n → Only H → SqL K H a (ns.map V.int) → sp [.ref a] H (fun v _ => v = .bl true) fun _ _ _ => False) ∧
        ∀ base : Heap, K.In base → base.Ns mainGlobals mg → FnOk l.prog w K mg base (CX w) k fa fd [x] sp)
    (hCX : ∀ (w : World) (H : Hp) (s : Shared) (e : Value) (s' : Shared), CX w [] H s (fun _ _ _ => False) e s' → False) :
    PySem.W.WalkO q loose XP YP l.row.toRowW d [] (fun f vs => PySem.call f vs) := by
  refine Att.attach_call hn hdf fun w s₀ s₁ mg mb fa o pm cd doc a vs ns G Y ho hd hcd hmg hobj hints hlen hg => ?_
  obtain ⟨K, fd, sp, KX, hb, hsp, hF⟩ := F w mg fa _ Y G.T.g hmg
  exact law_call KX G.T.g G.T.b G.T.builtins G.T.nolimit hg hobj hints (Nat.le_trans hlen hn2) hr hF hb (fun H hO hS => hsp H a ns hlen hO hS) fun H e s' => hCX w H s₁ e s'
theorem drels_ints {K : PySem.W.Frag} {ρ : Rho} {H : Hp} : ∀ ns : List Int, DRels K ρ H (ns.map D.int) (ns.map V.int)
  | [] => rfl
  | n :: ns => drels_cons rfl (drels_ints ns)
theorem sp_law {K : PySem.W.Frag} {f : FM} {H : Hp} {a : Addr} {ns : List Int} (hS : SqL K H a (ns.map V.int)) (h : ∃ G, f [.fz (ns.map D.int)] [] = .ok (.bl true) G) : spM K 1 f [.ref a] H (fun v _ => v = .bl true) fun _ _ _ => False := by
  obtain ⟨G, e⟩ := h
  have no : (Rho.mk [] []).no a := ⟨by simp, by simp⟩
  refine ⟨rfl, ⟨[], []⟩, [], [.fz (ns.map D.int)], ⟨List.nodup_nil, rfl, fun _ h => (by cases h), fun _ h => (by cases h), fun i o b h1 h2 => (by simp at h1)⟩, drels_cons ⟨a, ns.map V.int, rfl, hS.imp (fun x => ⟨no, x⟩) id, drels_ints ns⟩ rfl, ?_⟩
  rw [e]
  exact fun ρ' H' v s r d => d
theorem noexc {P : Program} {w : World} : ∀ (H : Hp) (s : Shared) (e : Value) (s' : Shared), L2.CX P w [] H s (fun _ _ _ => False) e s' → False := fun H s e s' ⟨a, B, H', cls, d, _, _, _, _, _, _, _, z⟩ => z
/-- the law's def, called -/
theorem walk_end {l : PySem.W.OpenLaw} {h : Hd} {k : Nat} {q : Program} {loose : List Str} {XP : (Str → Option Value) → Heap → Prop} {d : DefRec} {x : Str} {fm : FM}
    (hn : l.most = some 63) (hdf : d.params.defaults = []) (hr : Room k callerA) (hd : d.name = ("law" : Str))
    (F : ∀ (w : World) (mg : Str → Option Value) (hp base : Heap) (K : PySem.W.Frag), h.says K → K.In hp → hp.Ns mainGlobals mg → OkF l.prog w K mg base k (He.ga K "law") [x] fm)
    (g : ∀ (mg : Str → Option Value) (hp : Heap) (K : PySem.W.Frag), h.says K → K.In hp → hp.Ns mainGlobals mg → mg "law" = some (.ref (He.ga K "law")))
    (pure : ∀ ns : List Int, ns.length ≤ 63 → ∃ G, fm [.fz (ns.map D.int)] [] = .ok (.bl true) G) :
    PySem.W.WalkO q loose XP h.hook.says l.row.toRowW d [] (fun f vs => PySem.call f vs) := by
  refine walk_ofEW (n := 63) (k := k) (x := x) (CX := fun w => L2.CX l.prog w) hn (by rw [sizeLine_eq]; omega) hdf hr ?_ (fun w => noexc)
  intro w mg fa hp Y G hmg
  obtain ⟨K, KX, c⟩ := Y
  rw [hd] at hmg
  have e := hmg.symm.trans (g mg hp K c KX G)
  cases e
  obtain ⟨⟨fd, F1, _, hb, oc, od, sl, lk⟩, kp⟩ := F w mg hp hp K c KX G
  refine ⟨K, fd, spM K 1 fm, KX, fun s u => hb s [u] rfl, fun H a ns hl _ hS => sp_law hS (pure ns hl), fun base _ _ => ?_⟩
  obtain ⟨⟨fd2, F2, _, _, oc2, od2, sl2, lk2⟩, _⟩ := F w mg hp base K c KX G
  rw [lk] at lk2
  cases lk2
  exact F2
end M3
end L2

set_option Elab.async false
set_option linter.all false
set_option maxRecDepth 100000
set_option maxHeartbeats 2000000
/-! M3p: mirrors by what they must give: rewriting rules. -/
namespace L2
namespace M3
open PySem PySem.Spec PyProof.Rows

def wR {α : Type} (r : R α) (X : Exc → Gs → Prop) (Q : α → Gs → Prop) : Prop := match r with
  | .ok a G => Q a G
  | .exc e G => X e G
  | .stuck => False
structure Kt where
  nx : Sl → Gs → Prop
  rt : D → Gs → Prop
  bk : Sl → Gs → Prop
  ct : Sl → Gs → Prop
  ex : Exc → Sl → Gs → Prop
def wS (r : RS) (E : Kt) : Prop := match r with
  | .nx ds G => E.nx ds G
  | .rt d G => E.rt d G
  | .bk ds G => E.bk ds G
  | .ct ds G => E.ct ds G
  | .exc e ds G => E.ex e ds G
  | .stuck => False
section
variable {α β : Type} {ds : Sl} {G : Gs} {X : Exc → Gs → Prop} {Q : α → Gs → Prop} {E : Kt}
theorem wR_imp {r : R α} {X' : Exc → Gs → Prop} {Q' : α → Gs → Prop} (h : wR r X Q) (hx : ∀ e G, X e G → X' e G) (hq : ∀ a G, Q a G → Q' a G) : wR r X' Q' := by
  cases r <;> first | exact hq _ _ h | exact hx _ _ h | exact h
theorem wR_bnd {m : M β} {k : β → M α} : wR (bnd m k ds G) X Q = wR (m ds G) X (fun a G1 => wR (k a ds G1) X Q) := by
  unfold bnd wR
  cases m ds G <;> rfl
theorem wR_ret {a : α} : wR (ret a ds G) X Q = Q a G := rfl
theorem wR_rd {i : Nat} {Q : D → Gs → Prop} : wR (rd i ds G) X Q = ∃ d, ds[i]? = some (some d) ∧ Q d G := by
  unfold rd wR
  apply propext
  cases h : ds[i]? with
  | none => simp
  | some o => cases o <;> simp
theorem wR_lo {f : Gs → Option α} : wR (lo f ds G) X Q = ∃ d, f G = some d ∧ Q d G := by
  unfold lo wR
  apply propext
  cases h : f G <;> simp
theorem wR_lof {f : Gs → Option (D × Gs)} {Q : D → Gs → Prop} : wR (lof f ds G) X Q = ∃ p, f G = some p ∧ Q p.1 p.2 := by
  unfold lof wR
  apply propext
  cases h : f G <;> simp
theorem wR_chk {c : Gs → Bool} {m : M α} : wR (chk c m ds G) X Q = (c G = true ∧ wR (m ds G) X Q) := by
  unfold chk
  apply propext
  by_cases h : c G = true
  · simp [h]
  · simp [h, wR]
theorem wR_ite {c : Prop} [Decidable c] {a b : M α} : wR ((if c then a else b) ds G) X Q = (if c then wR (a ds G) X Q else wR (b ds G) X Q) := by
  by_cases h : c <;> simp [h]
theorem wR_call {n : Nat} {f : FM} {as : List D} {Q : D → Gs → Prop} : wR (callM n f as ds G) X Q = (as.length = n ∧ wR (f as G) X Q) := by
  unfold callM
  apply propext
  by_cases h : as.length = n
  · simp [h]
  · simp [h, wR]
theorem wR_runF {N : Nat} {b : MS} {as : List D} {Q : D → Gs → Prop} : wR (runF N b as G) X Q = wS (b (startD N as) G) ⟨fun _ G1 => Q .non G1, Q, fun _ _ => False, fun _ _ => False, fun e _ G1 => X e G1⟩ := by
  unfold runF wS wR
  cases b (startD N as) G <;> rfl
theorem wR_newL {xs : List D} {Q : D → Gs → Prop} : wR (newL xs ds G) X Q = (xs.length ≤ sizeLine ∧ Q (.obj G.length) (G ++ [.lst xs])) := by
  unfold newL wR
  apply propext
  by_cases h : xs.length ≤ sizeLine <;> simp [h]
theorem wR_chn {f g : D → D → Gs → Option D} {x y : D} {mc : M D} {Q : D → Gs → Prop} : wR (chn f g x y mc ds G) X Q = wR (bnd (lo (f x y)) (fun r => bnd (lo (tb r)) fun k => if k = true then bnd mc fun z => lo (g y z) else ret (.bl false)) ds G) X Q := rfl
theorem wS_seq {m k : MS} : wS (seqS m k ds G) E = wS (m ds G) { E with nx := fun ds1 G1 => wS (k ds1 G1) E } := by
  unfold seqS wS
  cases m ds G <;> rfl
theorem wS_bnd {m : M α} {k : α → MS} : wS (bndS m k ds G) E = wR (m ds G) (fun e G1 => E.ex e ds G1) (fun a G1 => wS (k a ds G1) E) := by
  unfold bndS wS wR
  cases m ds G <;> rfl
theorem wS_nxt : wS (nxtS ds G) E = E.nx ds G := rfl
theorem wS_ret {d : D} : wS (retS d ds G) E = E.rt d G := rfl
theorem wS_set {i : Nat} {d : D} : wS (setS i d ds G) E = E.nx (ds.set i (some d)) G := rfl
theorem wS_brk : wS (brkS ds G) E = E.bk ds G := rfl
theorem wS_cnt : wS (cntS ds G) E = E.ct ds G := rfl
theorem wS_rz0 {c : Str} : wS (rzS0 c ds G) E = E.ex ⟨c, none⟩ ds G := rfl
theorem wS_rz {c f : Str} {m : M (List D)} : wS (rzS c f m ds G) E = wR (m ds G) (fun e G1 => E.ex e ds G1) (fun xs G1 => ∃ d, xs = [d] ∧ E.ex ⟨c, some (f, d)⟩ ds G1) := by
  unfold rzS wS wR
  cases m ds G with
  | ok xs G1 =>
    apply propext
    cases xs with
    | nil => simp
    | cons d r => cases r <;> simp
  | exc e G1 => rfl
  | stuck => rfl
theorem wS_ite {c : Prop} [Decidable c] {a b : MS} : wS ((if c then a else b) ds G) E = (if c then wS (a ds G) E else wS (b ds G) E) := by
  by_cases h : c <;> simp [h]
theorem wS_setIx {o i v : D} : wS (setIx o i v ds G) E = ∃ j es k n, objL G o = some (j, es) ∧ i = .int k ∧ ixN es.length k = some n ∧ E.nx ds (G.set j (.lst (es.set n v))) := by
  apply propext
  constructor
  · intro h
    unfold setIx at h
    split at h
    · rename_i j es k e1
      split at h
      · rename_i n e2
        exact ⟨j, es, k, n, e1, rfl, e2, h⟩
      · exact h.elim
    · exact h.elim
  · rintro ⟨j, es, k, n, e1, rfl, e2, h⟩
    unfold setIx
    simp only [e1, e2]
    exact h
theorem wS_try {kx : Str → Option Bool} {i : Nat} {B : MS} {S : Exc → MS} : wS (tryS kx i B S ds G) E = wS (B ds G) { E with ex := fun e ds1 G1 => (kx e.c = some true ∧ i < ds1.length ∧ wS (endT i (S e (ds1.set i none) G1)) E) ∨ (kx e.c = some false ∧ E.ex e ds1 G1) } := by
  unfold tryS wS
  apply propext
  cases B ds G with
  | exc e ds1 G1 =>
    simp only
    cases h : kx e.c with
    | none => simp
    | some b =>
      cases b with
      | true => by_cases hi : i < ds1.length <;> simp [hi]
      | false => simp
  | _ => exact Iff.rfl
theorem wS_end {i : Nat} {r : RS} : wS (endT i r) E = wS r ⟨fun ds G => E.nx (ds.set i none) G, E.rt, fun ds G => E.bk (ds.set i none) G, fun ds G => E.ct (ds.set i none) G, fun _ _ _ => False⟩ := by
  cases r <;> rfl
theorem wS_imp {r : RS} {E' : Kt} (h : wS r E) (h1 : ∀ ds G, E.nx ds G → E'.nx ds G) (h2 : ∀ d G, E.rt d G → E'.rt d G) (h3 : ∀ ds G, E.bk ds G → E'.bk ds G) (h4 : ∀ ds G, E.ct ds G → E'.ct ds G) (h5 : ∀ e ds G, E.ex e ds G → E'.ex e ds G) : wS r E' := by
  cases r <;> first | exact h1 _ _ h | exact h2 _ _ h | exact h3 _ _ h | exact h4 _ _ h | exact h5 _ _ _ h | exact h
/-- a for by an invariant of what is left -/
theorem wS_for {s : Src} {t : Tg} {b : MS} {its : List D} (I : List D → Sl → Gs → Prop) (h0 : items G s = some its) (hi : I its ds G) (hit : ∀ r ds G, I r ds G → items G s = some its)
    (hs : ∀ x r ds G, I (x :: r) ds G → wS (tgS t x ds G) ⟨fun ds1 G1 => wS (b ds1 G1) ⟨I r, E.rt, E.nx, I r, E.ex⟩, fun _ _ => False, fun _ _ => False, fun _ _ => False, fun _ _ _ => False⟩)
    (he : ∀ ds G, I [] ds G → E.nx ds G) : wS (forS t b s ds G) E := by
  unfold forS
  rw [h0]
  show wS (loopS s t b its its ds G) E
  suffices h : ∀ r ds G, I r ds G → wS (loopS s t b its r ds G) E from h its ds G hi
  intro r
  induction r with
  | nil =>
    intro ds G h
    simp only [loopS, hit _ _ _ h, decDs_self, if_true]
    exact he _ _ h
  | cons x r ih =>
    intro ds G h
    simp only [loopS, hit _ _ _ h, decDs_self, if_true]
    have h1 := hs x r ds G h
    cases q : tgS t x ds G with
    | nx ds1 G1 =>
      rw [q] at h1
      simp only
      have h2 : wS (b ds1 G1) ⟨I r, E.rt, E.nx, I r, E.ex⟩ := h1
      cases q2 : b ds1 G1 with
      | nx ds2 G2 => rw [q2] at h2; exact ih _ _ h2
      | ct ds2 G2 => rw [q2] at h2; exact ih _ _ h2
      | bk ds2 G2 => rw [q2] at h2; exact h2
      | rt d G2 => rw [q2] at h2; exact h2
      | exc e ds2 G2 => rw [q2] at h2; exact h2
      | stuck => rw [q2] at h2; exact h2
    | rt d G1 => rw [q] at h1; exact h1.elim
    | bk ds1 G1 => rw [q] at h1; exact h1.elim
    | ct ds1 G1 => rw [q] at h1; exact h1.elim
    | exc e ds1 G1 => rw [q] at h1; exact h1.elim
    | stuck => rw [q] at h1; exact h1.elim
/-- a comprehension by an invariant: what came, what is left -/
theorem wR_comp {ob : Bool} {t : Tg} {c : M Bool} {e : M D} {vs : List Nat} {s : Src} {its : List D} {Q : D → Gs → Prop} (I : List D → List D → Gs → Prop) (h0 : items G s = some its) (hi : I [] its G) (hit : ∀ a r G, I a r G → items G s = some its)
    (hs : ∀ a x r G, I a (x :: r) G → wS (tgS t x (wipeD ds vs) G) ⟨fun ds1 G1 => wR (c ds1 G1) (fun _ _ => False) (fun k G2 => if k = true then wR (e ds1 G2) (fun _ _ => False) (fun y G3 => I (a ++ [y]) r G3) else I a r G2), fun _ _ => False, fun _ _ => False, fun _ _ => False, fun _ _ _ => False⟩)
    (he : ∀ a G, I a [] G → a.length ≤ sizeLine ∧ (if ob = true then Q (.obj G.length) (G ++ [.lst a]) else Q (.tl a) G)) : wR (compD ob t c e vs s ds G) X Q := by
  unfold compD
  rw [h0]
  have key : ∀ r a G, I a r G → ∃ ys G1, compL s t c e its r (wipeD ds vs) G = .ok ys G1 ∧ I (a ++ ys) [] G1 := by
    intro r
    induction r with
    | nil =>
      intro a G h
      exact ⟨[], G, by simp only [compL, hit _ _ _ h, decDs_self, if_true], by simpa using h⟩
    | cons x r ih =>
      intro a G h
      have h1 := hs a x r G h
      simp only [compL, hit _ _ _ h, decDs_self, if_true]
      cases q : tgS t x (wipeD ds vs) G with
      | nx ds1 G1 =>
        rw [q] at h1
        simp only
        replace h1 : wR (c ds1 G1) (fun _ _ => False) (fun k G2 => if k = true then wR (e ds1 G2) (fun _ _ => False) (fun y G3 => I (a ++ [y]) r G3) else I a r G2) := h1
        cases q2 : c ds1 G1 with
        | ok k G2 =>
          rw [q2] at h1
          cases k with
          | true =>
            replace h1 : wR (e ds1 G2) (fun _ _ => False) (fun y G3 => I (a ++ [y]) r G3) := h1
            simp only
            cases q3 : e ds1 G2 with
            | ok y G3 =>
              rw [q3] at h1
              obtain ⟨ys, G4, e1, e2⟩ := ih (a ++ [y]) G3 h1
              simp only [e1]
              exact ⟨y :: ys, G4, rfl, by simpa using e2⟩
            | exc e3 G3 => rw [q3] at h1; exact h1.elim
            | stuck => rw [q3] at h1; exact h1.elim
          | false => exact ih a G2 h1
        | exc e3 G3 => rw [q2] at h1; exact h1.elim
        | stuck => rw [q2] at h1; exact h1.elim
      | rt d G1 => rw [q] at h1; exact h1.elim
      | bk ds1 G1 => rw [q] at h1; exact h1.elim
      | ct ds1 G1 => rw [q] at h1; exact h1.elim
      | exc e ds1 G1 => rw [q] at h1; exact h1.elim
      | stuck => rw [q] at h1; exact h1.elim
  obtain ⟨ys, G1, e1, e2⟩ := key its [] G hi
  simp only [e1]
  obtain ⟨h1, h2⟩ := he ys G1 (by simpa using e2)
  rw [if_pos h1]
  cases ob with
  | true => rw [if_pos rfl] at h2 ⊢; exact h2
  | false => rw [if_neg Bool.false_ne_true] at h2 ⊢; exact h2
end
/-! ### operators at known data -/
section
variable {G : Gs}
def lstO (G : Gs) (j : Nat) : Option (List D) := match G[j]? with
  | some (.lst ds) => some ds
  | _ => none
theorem addD_i {a b : Int} : addD (.int a) (.int b) G = some (.int (a + b)) := rfl
theorem subD_i {a b : Int} : subD (.int a) (.int b) G = some (.int (a - b)) := rfl
theorem mulD_i {a b : Int} : mulD (.int a) (.int b) G = if a.natAbs < 2 ^ 64 ∨ b.natAbs < 2 ^ 64 ∨ a.natAbs.log2 + b.natAbs.log2 < 1000000 then some (.int (a * b)) else none := rfl
theorem fdivD_i {a b : Int} : fdivD (.int a) (.int b) G = if 0 < b ∧ b.natAbs.log2 < 9000 then some (.int (a / b)) else none := rfl
theorem modD_i {a b : Int} : modD (.int a) (.int b) G = if 0 < b then some (.int (a % b)) else none := rfl
theorem ltD_i {a b : Int} : ltD (.int a) (.int b) G = some (.bl (decide (a < b))) := rfl
theorem leD_i {a b : Int} : leD (.int a) (.int b) G = some (.bl (decide (a ≤ b))) := rfl
theorem gtD_i {a b : Int} : gtD (.int a) (.int b) G = some (.bl (decide (b < a))) := rfl
theorem geD_i {a b : Int} : geD (.int a) (.int b) G = some (.bl (decide (b ≤ a))) := rfl
theorem tb_b {b : Bool} : tb (.bl b) G = some b := rfl
theorem toI_i {i : Int} : toI (.int i) G = some (some i) := rfl
theorem intF_i {i : Int} : intF [.int i] G = some (.int i) := rfl
theorem absF_i {i : Int} : absF [.int i] G = some (.int (if i < 0 then -i else i)) := rfl
theorem seqD_o {j : Nat} : seqD G (.obj j) = lstO G j := rfl
theorem lenF_o {j : Nat} : lenF [.obj j] G = (lstO G j).map fun ds => .int ds.length := by
  unfold lenF lenD
  simp only [seqD_o]
  cases lstO G j <;> rfl
theorem lenF_tl {ds : List D} : lenF [.tl ds] G = some (.int ds.length) := rfl
theorem lenF_tup {ds : List D} : lenF [.tup ds] G = some (.int ds.length) := rfl
theorem lenF_fz {ds : List D} : lenF [.fz ds] G = some (.int ds.length) := rfl
theorem ixD_o {j : Nat} {i : Int} : ixD (.obj j) (.int i) G = (lstO G j).bind fun ds => atI ds i := by
  show (match seqD G (.obj j), D.int i with
    | some ds, .int i => atI ds i
    | _, _ => none) = _
  rw [seqD_o]
  cases lstO G j <;> rfl
theorem ixD_tl {ds : List D} {i : Int} : ixD (.tl ds) (.int i) G = atI ds i := rfl
theorem ixD_tup {ds : List D} {i : Int} : ixD (.tup ds) (.int i) G = atI ds i := rfl
theorem objL_o {j : Nat} : objL G (.obj j) = (lstO G j).map fun ds => (j, ds) := by
  unfold objL lstO
  simp only
  cases G[j]? with
  | none => rfl
  | some o => cases o <;> rfl
theorem lstO_at {j : Nat} {ds : List D} (h : G[j]? = some (.lst ds)) : lstO G j = some ds := by unfold lstO; rw [h]
theorem tyOk_o {j : Nat} : tyOk "list" (.obj j) G = (lstO G j).isSome := by
  unfold tyOk lstO
  simp only [lstD]
  cases G[j]? with
  | none => rfl
  | some o => cases o <;> simp
theorem atI_of {α : Type} {xs : List α} {i : Int} {n : Nat} {x : α} (h1 : ixN xs.length i = some n) (h2 : xs[n]? = some x) : atI xs i = some x := by
  unfold atI
  rw [h1]
  exact h2
theorem ixN_pos {n : Nat} {i : Int} (h0 : 0 ≤ i) (h1 : i < n) : ixN n i = some i.toNat := by
  unfold ixN
  rw [if_pos h0, if_pos h1]
end
/-! ### what changes nothing -/
theorem wR_ok {α : Type} {a : α} {G : Gs} {X : Exc → Gs → Prop} {Q : α → Gs → Prop} : wR (.ok a G) X Q = Q a G := rfl
theorem wR_exc {α : Type} {e : Exc} {G : Gs} {X : Exc → Gs → Prop} {Q : α → Gs → Prop} : wR (.exc e G) X Q = X e G := rfl
theorem eq_of_wR {α : Type} {r : R α} {v : α} {G : Gs} (h : wR r (fun _ _ => False) (fun a G' => a = v ∧ G' = G)) : r = .ok v G := by
  cases r with
  | ok a G' => obtain ⟨rfl, rfl⟩ := h; rfl
  | exc e G' => exact h.elim
  | stuck => exact h.elim
theorem comp_pure {i : Nat} {e : M D} {vs : List Nat} {s : Src} {its : List D} {ds : Sl} {G : Gs} {g : D → D} (h0 : items G s = some its) (hz : its.length ≤ sizeLine) (hs : ∀ x ∈ its, e ((wipeD ds vs).set i (some x)) G = .ok (g x) G) :
    compD false (.nm i) yes e vs s ds G = .ok (.tl (its.map g)) G := by
  refine eq_of_wR (wR_comp (fun a r G' => G' = G ∧ ∃ p, its = p ++ r ∧ a = p.map g) h0 ⟨rfl, [], rfl, rfl⟩ (fun a r G' h => by rw [h.1]; exact h0) ?_ ?_)
  · rintro a x r G' ⟨rfl, p, e1, rfl⟩
    simp only [tgS, wS_set, yes, wR_ret, if_true]
    rw [hs x (by rw [e1]; simp)]
    exact ⟨rfl, p ++ [x], by rw [e1]; simp, by simp⟩
  · rintro a G' ⟨rfl, p, e1, rfl⟩
    rw [List.append_nil] at e1
    subst e1
    exact ⟨by simpa using hz, by rw [if_neg Bool.false_ne_true]; exact ⟨rfl, rfl⟩⟩
theorem allOf_bl {α : Type} (p : α → Bool) : ∀ l : List α, allOf blD (l.map fun x => D.bl (p x)) = some (l.map p)
  | [] => rfl
  | x :: l => by simp [allOf, blD, allOf_bl p l]
theorem allF_map {p : D → Bool} {l : List D} {G : Gs} : allF [.tl (l.map fun x => .bl (p x))] G = some (.bl (l.all p)) := by
  show ((lsOf blD G (.tl (l.map fun x => .bl (p x)))).map fun ns => D.bl (ns.all id)) = _
  show ((allOf blD (l.map fun x => D.bl (p x))).map fun ns => D.bl (ns.all id)) = _
  rw [allOf_bl]
  simp [List.all_map]
theorem wR_compP {i : Nat} {e : M D} {vs : List Nat} {s : Src} {its : List D} {ds : Sl} {G : Gs} {g : D → Bool} {X : Exc → Gs → Prop} {Q : D → Gs → Prop} (h0 : items G s = some its) (hz : its.length ≤ sizeLine) (hs : ∀ x ∈ its, e ((wipeD ds vs).set i (some x)) G = .ok (.bl (g x)) G) :
    wR (compD false (.nm i) yes e vs s ds G) X Q = Q (.tl (its.map fun x => .bl (g x))) G := by
  rw [comp_pure (g := fun x => .bl (g x)) h0 hz hs]
  rfl
theorem wS_tp {is : List Nat} {es : List D} {l : Sl} {G : Gs} {E : Kt} (h : es.length = is.length) : wS (tgS (.tp is) (.tup es) l G) E = E.nx (setAll is es l) G := by
  simp only [tgS]
  rw [if_pos h]
  rfl
theorem wS_nm {i : Nat} {d : D} {l : Sl} {G : Gs} {E : Kt} : wS (tgS (.nm i) d l G) E = E.nx (l.set i (some d)) G := rfl
theorem wR_mkI {C : Str} {n : Nat} {fm : FM} {as : List D} {ds : Sl} {G : Gs} {X : Exc → Gs → Prop} {Q : D → Gs → Prop} : wR (mkI C n fm as ds G) X Q = (as.length + 1 = n ∧ wR (fm (.obj G.length :: as) (G ++ [.ins C []])) X (fun r G1 => r = .non ∧ Q (.obj G.length) G1)) := by
  unfold mkI
  apply propext
  by_cases h : as.length + 1 = n
  case neg => simp [h, wR]
  rw [if_pos h]
  cases fm (.obj G.length :: as) (G ++ [.ins C []]) with
  | ok r G1 => cases r <;> simp [wR, h]
  | exc e G1 => simp [wR, h]
  | stuck => simp [wR]
mutual
theorem eqv_same : ∀ (d : D) (x : PyData), toPy d = some x → PyData.eqv x x = true
  | .non, x, h => by cases h; rfl
  | .bl b, x, h => by cases h; simp [PyData.eqv]
  | .int i, x, h => by cases h; simp [PyData.eqv]
  | .str s, x, h => by cases h; simp [PyData.eqv]
  | .tup ds, x, h => by
    simp only [toPy] at h
    split at h
    · rename_i xs e
      cases h
      simp only [PyData.eqv]
      exact eqvs_same ds xs e
    · cases h
  | .tl ds, x, h => by
    simp only [toPy] at h
    split at h
    · rename_i xs e
      cases h
      simp only [PyData.eqv]
      exact eqvs_same ds xs e
    · cases h
  | .fz ds, x, h => by
    simp only [toPy] at h
    split at h
    · rename_i xs e
      cases h
      simp only [PyData.eqv]
      exact eqvs_same ds xs e
    · cases h
  | .ty _, _, h => by simp [toPy] at h
  | .glo _, _, h => by simp [toPy] at h
  | .ti .., _, h => by simp [toPy] at h
  | .td .., _, h => by simp [toPy] at h
  | .obj _, _, h => by simp [toPy] at h
theorem eqvs_same : ∀ (ds : List D) (xs : List PyData), toPys ds = some xs → PyData.eqvAll xs xs = true
  | [], xs, h => by cases h; rfl
  | d :: ds, xs, h => by
    simp only [toPys] at h
    split at h
    · rename_i x ys e1 e2
      cases h
      simp only [PyData.eqvAll, Bool.and_eq_true]
      exact ⟨eqv_same d x e1, eqvs_same ds ys e2⟩
    · cases h
end
end M3
end L2

set_option Elab.async false
set_option linter.all false
set_option maxRecDepth 100000
set_option maxHeartbeats 0
namespace L2
namespace M3
namespace K12
open PySem PySem.Spec PyProof.Rows
def top (i : Nat) : Stmt := PySem.Challenge.pw_threecopies_k12_books_judged.main.body.getD i (.Pass ⟨0, 0, 0, 0⟩)
def inCls (s : Stmt) (i : Nat) : Stmt := match s with
  | .ClassDef _ _ _ b _ _ _ _ _ _ _ => b.getD i (.Pass ⟨0, 0, 0, 0⟩)
  | _ => s
def d__law_draw : He.DefD := ⟨("_law_draw", none), "_law_draw", "_law_draw", defArgs (top 22), defBody (top 22), defScope (top 22), [], []⟩
def d__law_any : He.DefD := ⟨("_law_any", none), "_law_any", "_law_any", defArgs (top 23), defBody (top 23), defScope (top 23), [], []⟩
def d__law_bent : He.DefD := ⟨("_law_bent", none), "_law_bent", "_law_bent", defArgs (top 29), defBody (top 29), defScope (top 29), [], []⟩
def d__law_deep : He.DefD := ⟨("_law_deep", none), "_law_deep", "_law_deep", defArgs (top 24), defBody (top 24), defScope (top 24), [], []⟩
def d__law_are : He.DefD := ⟨("_law_are", none), "_law_are", "_law_are", defArgs (top 26), defBody (top 26), defScope (top 26), [], []⟩
def d__law_due : He.DefD := ⟨("_law_due", none), "_law_due", "_law_due", defArgs (top 27), defBody (top 27), defScope (top 27), [], []⟩
def d__law_great : He.DefD := ⟨("_law_great", none), "_law_great", "_law_great", defArgs (top 30), defBody (top 30), defScope (top 30), [], []⟩
def d__law_pot : He.DefD := ⟨("_law_pot", none), "_law_pot", "_law_pot", defArgs (top 21), defBody (top 21), defScope (top 21), [], []⟩
def d__law_rows : He.DefD := ⟨("_law_rows", none), "_law_rows", "_law_rows", defArgs (top 25), defBody (top 25), defScope (top 25), [], []⟩
def d_is_integer : He.DefD := ⟨("is_integer", none), "is_integer", "is_integer", defArgs (top 5), defBody (top 5), defScope (top 5), [], []⟩
def d_is_between : He.DefD := ⟨("is_between", none), "is_between", "is_between", defArgs (top 6), defBody (top 6), defScope (top 6), [], []⟩
def d_is_index : He.DefD := ⟨("is_index", none), "is_index", "is_index", defArgs (top 7), defBody (top 7), defScope (top 7), [], []⟩
def d_is_tuple_of : He.DefD := ⟨("is_tuple_of", none), "is_tuple_of", "is_tuple_of", defArgs (top 8), defBody (top 8), defScope (top 8), [], []⟩
def d_are_stamps : He.DefD := ⟨("are_stamps", none), "are_stamps", "are_stamps", defArgs (top 16), defBody (top 16), defScope (top 16), [], []⟩
def d_are_words : He.DefD := ⟨("are_words", none), "are_words", "are_words", defArgs (top 17), defBody (top 17), defScope (top 17), [], []⟩
def d_wrong_part : He.DefD := ⟨("wrong_part", none), "wrong_part", "wrong_part", defArgs (top 18), defBody (top 18), defScope (top 18), [], []⟩
def d_Book____init__ : He.DefD := ⟨("Book", some "__init__"), "__init__", "Book.__init__", defArgs (inCls (top 19) 0), defBody (inCls (top 19) 0), defScope (inCls (top 19) 0), [], []⟩
def d__law_told : He.DefD := ⟨("_law_told", none), "_law_told", "_law_told", defArgs (top 28), defBody (top 28), defScope (top 28), [], []⟩
def d_law : He.DefD := ⟨("law", none), "law", "law", defArgs (top 31), defBody (top 31), defScope (top 31), [], []⟩
def s_BadBook : SupD := ⟨"BadBook", "part", "BadBook.__init__", "bad book", defArgs (inCls (top 3) 0), defBody (inCls (top 3) 0), defScope (inCls (top 3) 0)⟩
theorem sh_BadBook : SupShape s_BadBook := ⟨⟨_, _, _, _, _, _, _, _, _, _, _, _, rfl, rfl, rfl, rfl⟩, by decide, by decide, by decide, by decide, PySem.SupX.bd_part⟩
def fa : List He.Fa := (([.glo "_law_draw", .glo "_law_any", .glo "_law_bent", .glo "_law_deep", .glo "_law_are", .glo "_law_due", .glo "_law_great", .glo "_law_pot", .glo "_law_rows", .glo "is_integer", .glo "is_between", .glo "is_index", .glo "is_tuple_of", .glo "are_stamps", .glo "are_words", .glo "wrong_part", .glo "_law_told", .glo "law", .glo "CopyError", .glo "BadBook", .glo "Book", .free "isinstance", .free "len", .free "abs", .free "sum"] : List He.Fa) ++ ([.free "all", .free "int", .free "str", .free "bool", .free "tuple", .free "list", .free "range", .free "ValueError", .free "super", .glo "WORDS", .int "MOST_STAMPS" 400, .mkr "Book"] : List He.Fa))
def fn : List He.DefD := (([d__law_draw, d__law_any, d__law_bent, d__law_deep, d__law_are, d__law_due, d__law_great, d__law_pot, d__law_rows, d_is_integer, d_is_between, d_is_index, d_is_tuple_of, d_are_stamps, d_are_words, d_wrong_part, d_Book____init__, d__law_told, d_law] : List He.DefD))
def TT : Tab := ⟨((["Book"] : List Str)), (([("Book", "changes"), ("Book", "first"), ("Book", "forks"), ("Book", "joins"), ("Book", "looks")] : List (Str × Str))), ((["BadBook"] : List Str)), (([("BadBook", "part")] : List (Str × Str))), (([(.inr "BadBook", .inr "CopyError", true), (.inr "BadBook", .inl "ValueError", true), (.inr "Book", .inl "bool", false), (.inr "Book", .inl "int", false), (.inr "Book", .inl "str", false), (.inr "Book", .inl "tuple", false)] : List (CT × CT × Bool))), (([("BadBook", .inr "BadBook", true)] : List (Str × CT × Bool)))⟩
def hd : Hd := ⟨(PySem.Challenge.rw_threecopies_k12_books_judged).prog, 7, fa, (([("WORDS", ["same", "newer", "elder", "apart"])] : List (Str × List Str))), TT, fn, (([s_BadBook] : List SupD))⟩
def nms : List Str := ((["_wall", "CopyError", "BadBook", "is_integer", "is_between", "is_index", "is_tuple_of", "SAME", "NEWER", "ELDER", "APART", "WORDS", "MOST_STAMPS", "are_stamps", "are_words", "wrong_part", "Book", "_law_pot", "_law_draw", "_law_any", "_law_deep", "_law_rows", "_law_are", "_law_due", "_law_told"] : List Str) ++ (["_law_bent", "_law_great"] : List Str))
abbrev R : PySem.W.OpenRow := PySem.W.OpenLaw.row PySem.Challenge.rw_threecopies_k12_books_judged
theorem run (w : World) : HandSHeadRun.RunEq R (PySem.W.view R.prog [31]) hd.hook hd.ob 4000 nms w := by
  intro os
  kernel_rfl

end K12
end M3
end L2

set_option Elab.async false
set_option linter.all false
set_option maxRecDepth 100000
set_option maxHeartbeats 0
namespace L2
namespace M3
namespace K12
open PySem PySem.Spec PyProof.Rows

section
variable {K : PySem.W.Frag} {mg : Str → Option Value} {h : Heap} {w : World} {base : Heap} {P : Program}

abbrev FX (hC : hd.says K) : CF K := Tab.cf (t := TT) (Hd.tok hC)
theorem g__law_draw (hP : P = hd.P) (hC : hd.says K) (hX : K.In h) (hG : h.Ns mainGlobals mg) : mg "_law_draw" = some (.ref (He.ga K "_law_draw")) := He.glo_ok hX hG (Hd.fact hC 0 (f := .glo "_law_draw") rfl)
theorem g__law_any (hP : P = hd.P) (hC : hd.says K) (hX : K.In h) (hG : h.Ns mainGlobals mg) : mg "_law_any" = some (.ref (He.ga K "_law_any")) := He.glo_ok hX hG (Hd.fact hC 1 (f := .glo "_law_any") rfl)
theorem g__law_bent (hP : P = hd.P) (hC : hd.says K) (hX : K.In h) (hG : h.Ns mainGlobals mg) : mg "_law_bent" = some (.ref (He.ga K "_law_bent")) := He.glo_ok hX hG (Hd.fact hC 2 (f := .glo "_law_bent") rfl)
theorem g__law_deep (hP : P = hd.P) (hC : hd.says K) (hX : K.In h) (hG : h.Ns mainGlobals mg) : mg "_law_deep" = some (.ref (He.ga K "_law_deep")) := He.glo_ok hX hG (Hd.fact hC 3 (f := .glo "_law_deep") rfl)
theorem g__law_are (hP : P = hd.P) (hC : hd.says K) (hX : K.In h) (hG : h.Ns mainGlobals mg) : mg "_law_are" = some (.ref (He.ga K "_law_are")) := He.glo_ok hX hG (Hd.fact hC 4 (f := .glo "_law_are") rfl)
theorem g__law_due (hP : P = hd.P) (hC : hd.says K) (hX : K.In h) (hG : h.Ns mainGlobals mg) : mg "_law_due" = some (.ref (He.ga K "_law_due")) := He.glo_ok hX hG (Hd.fact hC 5 (f := .glo "_law_due") rfl)
theorem g__law_great (hP : P = hd.P) (hC : hd.says K) (hX : K.In h) (hG : h.Ns mainGlobals mg) : mg "_law_great" = some (.ref (He.ga K "_law_great")) := He.glo_ok hX hG (Hd.fact hC 6 (f := .glo "_law_great") rfl)
theorem g__law_pot (hP : P = hd.P) (hC : hd.says K) (hX : K.In h) (hG : h.Ns mainGlobals mg) : mg "_law_pot" = some (.ref (He.ga K "_law_pot")) := He.glo_ok hX hG (Hd.fact hC 7 (f := .glo "_law_pot") rfl)
theorem g__law_rows (hP : P = hd.P) (hC : hd.says K) (hX : K.In h) (hG : h.Ns mainGlobals mg) : mg "_law_rows" = some (.ref (He.ga K "_law_rows")) := He.glo_ok hX hG (Hd.fact hC 8 (f := .glo "_law_rows") rfl)
theorem g_is_integer (hP : P = hd.P) (hC : hd.says K) (hX : K.In h) (hG : h.Ns mainGlobals mg) : mg "is_integer" = some (.ref (He.ga K "is_integer")) := He.glo_ok hX hG (Hd.fact hC 9 (f := .glo "is_integer") rfl)
theorem g_is_between (hP : P = hd.P) (hC : hd.says K) (hX : K.In h) (hG : h.Ns mainGlobals mg) : mg "is_between" = some (.ref (He.ga K "is_between")) := He.glo_ok hX hG (Hd.fact hC 10 (f := .glo "is_between") rfl)
theorem g_is_index (hP : P = hd.P) (hC : hd.says K) (hX : K.In h) (hG : h.Ns mainGlobals mg) : mg "is_index" = some (.ref (He.ga K "is_index")) := He.glo_ok hX hG (Hd.fact hC 11 (f := .glo "is_index") rfl)
theorem g_is_tuple_of (hP : P = hd.P) (hC : hd.says K) (hX : K.In h) (hG : h.Ns mainGlobals mg) : mg "is_tuple_of" = some (.ref (He.ga K "is_tuple_of")) := He.glo_ok hX hG (Hd.fact hC 12 (f := .glo "is_tuple_of") rfl)
theorem g_are_stamps (hP : P = hd.P) (hC : hd.says K) (hX : K.In h) (hG : h.Ns mainGlobals mg) : mg "are_stamps" = some (.ref (He.ga K "are_stamps")) := He.glo_ok hX hG (Hd.fact hC 13 (f := .glo "are_stamps") rfl)
theorem g_are_words (hP : P = hd.P) (hC : hd.says K) (hX : K.In h) (hG : h.Ns mainGlobals mg) : mg "are_words" = some (.ref (He.ga K "are_words")) := He.glo_ok hX hG (Hd.fact hC 14 (f := .glo "are_words") rfl)
theorem g_wrong_part (hP : P = hd.P) (hC : hd.says K) (hX : K.In h) (hG : h.Ns mainGlobals mg) : mg "wrong_part" = some (.ref (He.ga K "wrong_part")) := He.glo_ok hX hG (Hd.fact hC 15 (f := .glo "wrong_part") rfl)
theorem g__law_told (hP : P = hd.P) (hC : hd.says K) (hX : K.In h) (hG : h.Ns mainGlobals mg) : mg "_law_told" = some (.ref (He.ga K "_law_told")) := He.glo_ok hX hG (Hd.fact hC 16 (f := .glo "_law_told") rfl)
theorem g_law (hP : P = hd.P) (hC : hd.says K) (hX : K.In h) (hG : h.Ns mainGlobals mg) : mg "law" = some (.ref (He.ga K "law")) := He.glo_ok hX hG (Hd.fact hC 17 (f := .glo "law") rfl)
theorem g_CopyError (hP : P = hd.P) (hC : hd.says K) (hX : K.In h) (hG : h.Ns mainGlobals mg) : mg "CopyError" = some (.ref (He.ga K "CopyError")) := He.glo_ok hX hG (Hd.fact hC 18 (f := .glo "CopyError") rfl)
theorem g_BadBook (hP : P = hd.P) (hC : hd.says K) (hX : K.In h) (hG : h.Ns mainGlobals mg) : mg "BadBook" = some (.ref (He.ga K "BadBook")) := He.glo_ok hX hG (Hd.fact hC 19 (f := .glo "BadBook") rfl)
theorem g_Book (hP : P = hd.P) (hC : hd.says K) (hX : K.In h) (hG : h.Ns mainGlobals mg) : mg "Book" = some (.ref (He.ga K "Book")) := He.glo_ok hX hG (Hd.fact hC 20 (f := .glo "Book") rfl)
theorem fr_isinstance (hP : P = hd.P) (hC : hd.says K) (hX : K.In h) (hG : h.Ns mainGlobals mg) : mg "isinstance" = none := He.free_ok hX hG (Hd.fact hC 21 (f := .free "isinstance") rfl)
theorem fr_len (hP : P = hd.P) (hC : hd.says K) (hX : K.In h) (hG : h.Ns mainGlobals mg) : mg "len" = none := He.free_ok hX hG (Hd.fact hC 22 (f := .free "len") rfl)
theorem fr_abs (hP : P = hd.P) (hC : hd.says K) (hX : K.In h) (hG : h.Ns mainGlobals mg) : mg "abs" = none := He.free_ok hX hG (Hd.fact hC 23 (f := .free "abs") rfl)
theorem fr_sum (hP : P = hd.P) (hC : hd.says K) (hX : K.In h) (hG : h.Ns mainGlobals mg) : mg "sum" = none := He.free_ok hX hG (Hd.fact hC 24 (f := .free "sum") rfl)
theorem fr_all (hP : P = hd.P) (hC : hd.says K) (hX : K.In h) (hG : h.Ns mainGlobals mg) : mg "all" = none := He.free_ok hX hG (Hd.fact hC 25 (f := .free "all") rfl)
theorem fr_int (hP : P = hd.P) (hC : hd.says K) (hX : K.In h) (hG : h.Ns mainGlobals mg) : mg "int" = none := He.free_ok hX hG (Hd.fact hC 26 (f := .free "int") rfl)
theorem fr_str (hP : P = hd.P) (hC : hd.says K) (hX : K.In h) (hG : h.Ns mainGlobals mg) : mg "str" = none := He.free_ok hX hG (Hd.fact hC 27 (f := .free "str") rfl)
theorem fr_bool (hP : P = hd.P) (hC : hd.says K) (hX : K.In h) (hG : h.Ns mainGlobals mg) : mg "bool" = none := He.free_ok hX hG (Hd.fact hC 28 (f := .free "bool") rfl)
theorem fr_tuple (hP : P = hd.P) (hC : hd.says K) (hX : K.In h) (hG : h.Ns mainGlobals mg) : mg "tuple" = none := He.free_ok hX hG (Hd.fact hC 29 (f := .free "tuple") rfl)
theorem fr_list (hP : P = hd.P) (hC : hd.says K) (hX : K.In h) (hG : h.Ns mainGlobals mg) : mg "list" = none := He.free_ok hX hG (Hd.fact hC 30 (f := .free "list") rfl)
theorem fr_range (hP : P = hd.P) (hC : hd.says K) (hX : K.In h) (hG : h.Ns mainGlobals mg) : mg "range" = none := He.free_ok hX hG (Hd.fact hC 31 (f := .free "range") rfl)
theorem fr_ValueError (hP : P = hd.P) (hC : hd.says K) (hX : K.In h) (hG : h.Ns mainGlobals mg) : mg "ValueError" = none := He.free_ok hX hG (Hd.fact hC 32 (f := .free "ValueError") rfl)
theorem fr_super (hP : P = hd.P) (hC : hd.says K) (hX : K.In h) (hG : h.Ns mainGlobals mg) : mg "super" = none := He.free_ok hX hG (Hd.fact hC 33 (f := .free "super") rfl)
theorem g_WORDS (hP : P = hd.P) (hC : hd.says K) (hX : K.In h) (hG : h.Ns mainGlobals mg) : mg "WORDS" = some (.ref (He.ga K "WORDS")) := He.glo_ok hX hG (Hd.fact hC 34 (f := .glo "WORDS") rfl)
theorem t_WORDS (hC : hd.says K) : tupSB K "WORDS" ["same", "newer", "elder", "apart"] = true := Hd.tab hC 0 (x := "WORDS") (ws := ["same", "newer", "elder", "apart"]) rfl
theorem g_MOST_STAMPS (hP : P = hd.P) (hC : hd.says K) (hX : K.In h) (hG : h.Ns mainGlobals mg) : ∃ t, mg "MOST_STAMPS" = some (.int 400 t) := He.int_ok hX hG (Hd.fact hC 35 (f := .int "MOST_STAMPS" 400) rfl)
theorem mk_Book (hC : hd.says K) : Mk K (He.ga K "Book") (He.ma K (He.ga K "Book") "__init__") := He.mkr_ok (Hd.fact hC 36 (f := .mkr "Book") rfl)
theorem sup_BadBook (hP : P = hd.P) (hC : hd.says K) (hX : K.In h) (hG : h.Ns mainGlobals mg) : PySem.SupX.SupTxt P K mg (He.ga K "BadBook") (s_BadBook.fI K) "part" := hP ▸ Hd.sup hC 0 (d := s_BadBook) sh_BadBook (fr_super hP hC hX hG) (by decide +kernel) rfl
theorem hk_BadBook (hC : hd.says K) : ∀ C, TT.emF (.inr "BadBook") C = some true → (FX hC).T.ec C = true := by
  intro C e
  have key : ∀ q ∈ TT.em, decide (q.2.1 = .inr "BadBook") = true → TT.ec.contains q.1 = true := by decide +kernel
  unfold Tab.emF at e
  cases q : TT.em.find? (fun p => decide (p.1 = C) && decide (p.2.1 = .inr "BadBook")) with
  | none => rw [q] at e; cases e
  | some p =>
    have hm := List.mem_of_find?_eq_some q
    have hp := List.find?_some q
    simp only [Bool.and_eq_true, decide_eq_true_eq] at hp
    obtain ⟨rfl, h2⟩ := hp
    exact key p hm (decide_eq_true h2)
theorem sc__law_draw : FnScope ["pot", "many", "number", "seed", "turn"] ["pot", "many"] (defScope (top 22)) := ⟨rfl, rfl, rfl, by decide +kernel, rfl, by decide +kernel, by decide +kernel⟩
def b__law_draw : MS := (seqS (bndS (bnd (rd 0) fun x => bnd (ret (.int 2)) fun y => lo (ixD x y)) (setS 4))
  (seqS (bndS (bnd (rd 4) fun x => bnd (ret (.int 1)) fun y => lo (addD x y)) fun v => bndS (rd 0) fun x => bndS (ret (.int 2)) fun y => setIx x y v)
  (seqS (bndS (bnd (bnd (bnd (bnd (rd 0) fun x => bnd (ret (.int 0)) fun y => lo (ixD x y)) fun d => bnd (ret []) fun ds => ret (d :: ds)) fun ds => lo (lenF ds)) fun x => bnd (ret (.int 0)) fun y => bnd (lo (gtD x y)) fun d => lo (tb d)) fun x => if x = true then (seqS (bndS (bnd (bnd (rd 0) fun x => bnd (ret (.int 0)) fun y => lo (ixD x y)) fun x => bnd (ret (.int 0)) fun y => lo (ixD x y)) (setS 2))
  (seqS (bndS (bnd (rd 2) fun x => bnd (rd 1) fun y => lo (fdivD x y)) fun v => bndS (bnd (rd 0) fun x => bnd (ret (.int 0)) fun y => lo (ixD x y)) fun x => bndS (ret (.int 0)) fun y => setIx x y v)
  (seqS (bndS (bnd (rd 2) fun x => bnd (rd 1) fun y => bnd (lo (ltD x y)) fun d => lo (tb d)) fun x => if x = true then (bndS (bnd (bnd (rd 0) fun x => bnd (ret (.int 0)) fun y => lo (ixD x y)) fun x => chk (tyOk "list" x) (bnd (bnd (ret (.int 0)) fun d => bnd (ret []) fun ds => ret (d :: ds)) fun ds => lof (popF x ds))) fun _ => nxtS) else nxtS)
  (bndS (bnd (bnd (bnd (rd 2) fun d => bnd (ret []) fun ds => ret (d :: ds)) fun ds => lo (intF ds)) fun x => bnd (rd 1) fun y => lo (modD x y)) retS)))) else nxtS)
  (seqS (bndS (bnd (bnd (bnd (bnd (bnd (rd 0) fun x => bnd (ret (.int 1)) fun y => lo (ixD x y)) fun x => bnd (bnd (bnd (bnd (rd 4) fun d => bnd (ret []) fun ds => ret (d :: ds)) fun ds => lo (intF ds)) fun x => bnd (bnd (bnd (bnd (rd 0) fun x => bnd (ret (.int 1)) fun y => lo (ixD x y)) fun d => bnd (ret []) fun ds => ret (d :: ds)) fun ds => lo (lenF ds)) fun y => lo (modD x y)) fun y => lo (ixD x y)) fun x => bnd (ret (.int 7919)) fun y => lo (mulD x y)) fun x => bnd (bnd (ret (.int 104729)) fun x => bnd (rd 4) fun y => lo (mulD x y)) fun y => lo (addD x y)) fun x => bnd (bnd (bnd (rd 0) fun x => bnd (ret (.int 3)) fun y => lo (ixD x y)) fun x => bnd (ret (.int 31)) fun y => lo (mulD x y)) fun y => lo (addD x y)) (setS 3))
  (seqS (bndS (bnd (bnd (bnd (bnd (bnd (rd 3) fun x => bnd (ret (.int 48271)) fun y => lo (mulD x y)) fun x => bnd (ret (.int 11)) fun y => lo (addD x y)) fun d => bnd (ret []) fun ds => ret (d :: ds)) fun ds => lo (intF ds)) fun x => bnd (ret (.int 2147483647)) fun y => lo (modD x y)) (setS 2))
  (seqS (bndS (bnd (bnd (bnd (bnd (rd 2) fun x => bnd (bnd (bnd (rd 2) fun x => bnd (ret (.int 1009)) fun y => lo (fdivD x y)) fun x => bnd (ret (.int 69621)) fun y => lo (addD x y)) fun y => lo (mulD x y)) fun d => bnd (ret []) fun ds => ret (d :: ds)) fun ds => lo (intF ds)) fun x => bnd (ret (.int 2147483629)) fun y => lo (modD x y)) (setS 2))
  (seqS (bndS (bnd (bnd (bnd (bnd (bnd (rd 2) fun x => bnd (bnd (bnd (rd 2) fun x => bnd (ret (.int 2003)) fun y => lo (fdivD x y)) fun x => bnd (ret (.int 40692)) fun y => lo (addD x y)) fun y => lo (mulD x y)) fun x => bnd (rd 4) fun y => lo (addD x y)) fun d => bnd (ret []) fun ds => ret (d :: ds)) fun ds => lo (intF ds)) fun x => bnd (ret (.int 2147483399)) fun y => lo (modD x y)) (setS 2))
  (bndS (bnd (bnd (bnd (bnd (rd 2) fun x => bnd (ret (.int 64)) fun y => lo (fdivD x y)) fun d => bnd (ret []) fun ds => ret (d :: ds)) fun ds => lo (intF ds)) fun x => bnd (rd 1) fun y => lo (modD x y)) retS))))))))
def f__law_draw : FM := (runF 5 b__law_draw)
theorem ok__law_draw (hP : P = hd.P) (hC : hd.says K) (hX : K.In h) (hG : h.Ns mainGlobals mg) : OkF P w K mg base 1 (He.ga K "_law_draw") ["pot", "many"] f__law_draw := okF_of (N := ["pot", "many", "number", "seed", "turn"]) (ps := ["pot", "many"]) (k := 0) (b := b__law_draw) (Hd.def_ hC 0 (d := d__law_draw) rfl) sc__law_draw (fun fd F => FunD.bindsA F fun _ _ _ _ _ _ us hl => match us, hl with | [_, _], _ => rfl) fun cdv A outer s H E hr =>
  (mss_cons (by exact (ms_set (i := 4) (by exact sc__law_draw.nd) (by rfl) (by first | exact .inl rfl | exact .inr rfl) (by exact (me_ix ixOk (by exact (me_rd (pv 0))) me_int (by intro _ _; rfl)))))
  (mss_cons (by exact (ms_setix (by exact (me_bin opAdd (by exact (me_rd (pv 4))) me_int)) (by exact (me_rd (pv 0))) me_int))
  (mss_cons (by exact (ms_if (by exact (mt_cmp opGt (by exact (me_callB bLen (by rfl) (fr_len hP hC hX hG) (by decide +kernel) (by exact ma_cons (by exact (me_ix ixOk (by exact (me_rd (pv 0))) me_int (by intro _ _; rfl))) ma_nil))) me_int (nomark _))) (mss_cons (by exact (ms_set (i := 2) (by exact sc__law_draw.nd) (by rfl) (by first | exact .inl rfl | exact .inr rfl) (by exact (me_ix ixOk (by exact (me_ix ixOk (by exact (me_rd (pv 0))) me_int (by intro _ _; rfl))) me_int (by intro _ _; rfl)))))
  (mss_cons (by exact (ms_setix (by exact (me_bin opFdiv (by exact (me_rd (pv 2))) (by exact (me_rd (pv 1))))) (by exact (me_ix ixOk (by exact (me_rd (pv 0))) me_int (by intro _ _; rfl))) me_int))
  (mss_cons (by exact (ms_if (by exact (mt_cmp opLt (by exact (me_rd (pv 2))) (by exact (me_rd (pv 1))) (nomark _))) (mss_one (by exact (ms_expr (by exact (me_bm PySem.F.plainAttrs_list PySem.F.slot_list_pop PySem.F.type_list_pop mPop (by exact (me_ix ixOk (by exact (me_rd (pv 0))) me_int (by intro _ _; rfl))) (by exact ma_cons me_int ma_nil)))))) mss_nil))
  (mss_one (by exact (ms_ret (by exact (me_bin opMod (by exact (me_callTy bInt (by rfl) (fr_int hP hC hX hG) (by decide +kernel) (by exact ma_cons (by exact (me_rd (pv 2))) ma_nil))) (by exact (me_rd (pv 1))))))))))) mss_nil))
  (mss_cons (by exact (ms_set (i := 3) (by exact sc__law_draw.nd) (by rfl) (by first | exact .inl rfl | exact .inr rfl) (by exact (me_bin opAdd (by exact (me_bin opAdd (by exact (me_bin opMul (by exact (me_ix ixOk (by exact (me_ix ixOk (by exact (me_rd (pv 0))) me_int (by intro _ _; rfl))) (by exact (me_bin opMod (by exact (me_callTy bInt (by rfl) (fr_int hP hC hX hG) (by decide +kernel) (by exact ma_cons (by exact (me_rd (pv 4))) ma_nil))) (by exact (me_callB bLen (by rfl) (fr_len hP hC hX hG) (by decide +kernel) (by exact ma_cons (by exact (me_ix ixOk (by exact (me_rd (pv 0))) me_int (by intro _ _; rfl))) ma_nil))))) (by intro _ _; rfl))) me_int)) (by exact (me_bin opMul me_int (by exact (me_rd (pv 4))))))) (by exact (me_bin opMul (by exact (me_ix ixOk (by exact (me_rd (pv 0))) me_int (by intro _ _; rfl))) me_int))))))
  (mss_cons (by exact (ms_set (i := 2) (by exact sc__law_draw.nd) (by rfl) (by first | exact .inl rfl | exact .inr rfl) (by exact (me_bin opMod (by exact (me_callTy bInt (by rfl) (fr_int hP hC hX hG) (by decide +kernel) (by exact ma_cons (by exact (me_bin opAdd (by exact (me_bin opMul (by exact (me_rd (pv 3))) me_int)) me_int)) ma_nil))) me_int))))
  (mss_cons (by exact (ms_set (i := 2) (by exact sc__law_draw.nd) (by rfl) (by first | exact .inl rfl | exact .inr rfl) (by exact (me_bin opMod (by exact (me_callTy bInt (by rfl) (fr_int hP hC hX hG) (by decide +kernel) (by exact ma_cons (by exact (me_bin opMul (by exact (me_rd (pv 2))) (by exact (me_bin opAdd (by exact (me_bin opFdiv (by exact (me_rd (pv 2))) me_int)) me_int)))) ma_nil))) me_int))))
  (mss_cons (by exact (ms_set (i := 2) (by exact sc__law_draw.nd) (by rfl) (by first | exact .inl rfl | exact .inr rfl) (by exact (me_bin opMod (by exact (me_callTy bInt (by rfl) (fr_int hP hC hX hG) (by decide +kernel) (by exact ma_cons (by exact (me_bin opAdd (by exact (me_bin opMul (by exact (me_rd (pv 2))) (by exact (me_bin opAdd (by exact (me_bin opFdiv (by exact (me_rd (pv 2))) me_int)) me_int)))) (by exact (me_rd (pv 4))))) ma_nil))) me_int))))
  (mss_one (by exact (ms_ret (by exact (me_bin opMod (by exact (me_callTy bInt (by rfl) (fr_int hP hC hX hG) (by decide +kernel) (by exact ma_cons (by exact (me_bin opFdiv (by exact (me_rd (pv 2))) me_int)) ma_nil))) (by exact (me_rd (pv 1)))))))))))))))
theorem sc__law_any : FnScope ["pot", "items"] ["pot", "items"] (defScope (top 23)) := ⟨rfl, rfl, rfl, by decide +kernel, rfl, by decide +kernel, by decide +kernel⟩
def b__law_any : MS := (bndS (bnd (rd 1) fun x => bnd (bnd (bnd (rd 0) fun d => bnd (bnd (bnd (bnd (rd 1) fun d => bnd (ret []) fun ds => ret (d :: ds)) fun ds => lo (lenF ds)) fun d => bnd (ret []) fun ds => ret (d :: ds)) fun ds => ret (d :: ds)) (callM 2 f__law_draw)) fun y => lo (ixD x y)) retS)
def f__law_any : FM := (runF 2 b__law_any)
theorem ok__law_any (hP : P = hd.P) (hC : hd.says K) (hX : K.In h) (hG : h.Ns mainGlobals mg) : OkF P w K mg base 2 (He.ga K "_law_any") ["pot", "items"] f__law_any := okF_of (N := ["pot", "items"]) (ps := ["pot", "items"]) (k := 1) (b := b__law_any) (Hd.def_ hC 1 (d := d__law_any) rfl) sc__law_any (fun fd F => FunD.bindsA F fun _ _ _ _ _ _ us hl => match us, hl with | [_, _], _ => rfl) fun cdv A outer s H E hr =>
  (mss_one (by exact (ms_ret (by exact (me_ix ixOk (by exact (me_rd (pv 1))) (by exact (mcl  (ok__law_draw hP hC hX hG) hr (by rfl) (g__law_draw hP hC hX hG) (by exact tkD) (by exact ma_cons (by exact (me_rd (pv 0))) (by exact ma_cons (by exact (me_callB bLen (by rfl) (fr_len hP hC hX hG) (by decide +kernel) (by exact ma_cons (by exact (me_rd (pv 1))) ma_nil))) ma_nil)))) (by intro _ _; rfl))))))
theorem sc__law_bent : FnScope ["hand", "thing", "odd", "at", "kind"] ["hand", "thing", "odd"] (defScope (top 29)) := ⟨rfl, rfl, rfl, by decide +kernel, rfl, by decide +kernel, by decide +kernel⟩
def b__law_bent (rec : FM) : MS := (seqS (bndS (bnd (bnd (bnd (bnd (bnd (rd 1) fun d => bnd (bnd (ret (.ty "tuple")) fun d => bnd (ret []) fun ds => ret (d :: ds)) fun ds => ret (d :: ds)) fun ds => lo ((isiF TT.tf) ds)) fun d => lo (tb d)) fun k => ret (!k)) fun k => if k = true then ret true else (bnd (bnd (bnd (bnd (rd 1) fun d => bnd (ret []) fun ds => ret (d :: ds)) fun ds => lo (lenF ds)) fun x => bnd (ret (.int 0)) fun y => bnd (lo (eqD x y)) fun d => lo (tb d)) fun k => if k = true then ret true else (bnd (bnd (bnd (rd 0) fun d => bnd (bnd (ret (.int 6)) fun d => bnd (ret []) fun ds => ret (d :: ds)) fun ds => ret (d :: ds)) (callM 2 f__law_draw)) fun x => bnd (ret (.int 0)) fun y => bnd (lo (eqD x y)) fun d => lo (tb d)))) fun x => if x = true then (bndS (bnd (bnd (rd 0) fun d => bnd (bnd (rd 2) fun d => bnd (ret []) fun ds => ret (d :: ds)) fun ds => ret (d :: ds)) (callM 2 f__law_any)) retS) else nxtS)
  (seqS (bndS (bnd (bnd (rd 0) fun d => bnd (bnd (bnd (bnd (rd 1) fun d => bnd (ret []) fun ds => ret (d :: ds)) fun ds => lo (lenF ds)) fun d => bnd (ret []) fun ds => ret (d :: ds)) fun ds => ret (d :: ds)) (callM 2 f__law_draw)) (setS 3))
  (seqS (bndS (bnd (bnd (rd 0) fun d => bnd (bnd (ret (.int 8)) fun d => bnd (ret []) fun ds => ret (d :: ds)) fun ds => ret (d :: ds)) (callM 2 f__law_draw)) (setS 4))
  (seqS (bndS (bnd (rd 4) fun x => bnd (ret (.int 0)) fun y => bnd (lo (eqD x y)) fun d => lo (tb d)) fun x => if x = true then (bndS (bnd (bnd (rd 1) fun x => bnd (ret none) fun l => bnd (bnd (rd 3) fun d => lo (toI d)) fun u => lo (slD x l u)) fun x => bnd (bnd (rd 1) fun x => bnd (bnd (bnd (rd 3) fun x => bnd (ret (.int 1)) fun y => lo (addD x y)) fun d => lo (toI d)) fun l => bnd (ret none) fun u => lo (slD x l u)) fun y => lo (addD x y)) retS) else nxtS)
  (seqS (bndS (bnd (rd 4) fun x => bnd (ret (.int 1)) fun y => bnd (lo (eqD x y)) fun d => lo (tb d)) fun x => if x = true then (bndS (bnd (rd 1) fun x => bnd (bnd (rd 1) fun x => bnd (ret none) fun l => bnd (bnd (ret (.int 1)) fun d => lo (toI d)) fun u => lo (slD x l u)) fun y => lo (addD x y)) retS) else nxtS)
  (seqS (bndS (bnd (rd 4) fun x => bnd (ret (.int 2)) fun y => bnd (lo (eqD x y)) fun d => lo (tb d)) fun x => if x = true then (bndS (bnd (bnd (rd 1) fun d => bnd (ret []) fun ds => ret (d :: ds)) fun ds => lo (listF ds)) retS) else nxtS)
  (bndS (bnd (bnd (bnd (rd 1) fun x => bnd (ret none) fun l => bnd (bnd (rd 3) fun d => lo (toI d)) fun u => lo (slD x l u)) fun x => bnd (bnd (bnd (bnd (bnd (rd 0) fun d => bnd (bnd (bnd (rd 1) fun x => bnd (rd 3) fun y => lo (ixD x y)) fun d => bnd (bnd (rd 2) fun d => bnd (ret []) fun ds => ret (d :: ds)) fun ds => ret (d :: ds)) fun ds => ret (d :: ds)) (callM 3 rec)) fun d => bnd (ret []) fun ds => ret (d :: ds)) fun ds => lo (mkT ds)) fun y => lo (addD x y)) fun x => bnd (bnd (rd 1) fun x => bnd (bnd (bnd (rd 3) fun x => bnd (ret (.int 1)) fun y => lo (addD x y)) fun d => lo (toI d)) fun l => bnd (ret none) fun u => lo (slD x l u)) fun y => lo (addD x y)) retS)))))))
def f__law_bentr : Nat → FM
  | 0 => runF 5 stkS
  | n + 1 => (runF 5 (b__law_bent (f__law_bentr n)))
def f__law_bent : FM := f__law_bentr 16
theorem okr__law_bent (hP : P = hd.P) (hC : hd.says K) (hX : K.In h) (hG : h.Ns mainGlobals mg) : ∀ n, OkF P w K mg base (2 + n + 1) (He.ga K "_law_bent") ["hand", "thing", "odd"] (f__law_bentr n)
  | 0 => okF_of (N := ["hand", "thing", "odd", "at", "kind"]) (ps := ["hand", "thing", "odd"]) (k := 2) (b := stkS) (Hd.def_ hC 2 (d := d__law_bent) rfl) sc__law_bent (fun fd F => FunD.bindsA F fun _ _ _ _ _ _ us hl => match us, hl with | [_, _, _], _ => rfl) fun cdv A outer s H E hr => mss_stk
  | n + 1 => okF_of (N := ["hand", "thing", "odd", "at", "kind"]) (ps := ["hand", "thing", "odd"]) (k := 2 + (n + 1)) (b := b__law_bent (f__law_bentr n)) (Hd.def_ hC 2 (d := d__law_bent) rfl) sc__law_bent (fun fd F => FunD.bindsA F fun _ _ _ _ _ _ us hl => match us, hl with | [_, _, _], _ => rfl) fun cdv A outer s H E hr =>
    have hrec := okr__law_bent hP hC hX hG n
    (mss_cons (by exact (ms_if (by exact (mt_w (mw_or (by exact (mt_not (by exact (mt_val (by exact (me_callB (bIsiT (T := TT.tf) (by exact ⟨(FX hC).toPF, rfl⟩)) (by rfl) (fr_isinstance hP hC hX hG) (by decide +kernel) (by exact ma_cons (by exact (me_rd (pv 1))) (by exact ma_cons (by exact (me_bty (by rfl) (fr_tuple hP hC hX hG) (by decide +kernel))) ma_nil)))))))) (mw_or (by exact (mt_cmp (opEq (by exact hr.units)) (by exact (me_callB bLen (by rfl) (fr_len hP hC hX hG) (by decide +kernel) (by exact ma_cons (by exact (me_rd (pv 1))) ma_nil))) me_int (nomark _))) (mw_or1 (by exact (mt_cmp (opEq (by exact hr.units)) (by exact (mcl (hk := by omega) (ok__law_draw hP hC hX hG) hr (by rfl) (g__law_draw hP hC hX hG) (by exact tkD) (by exact ma_cons (by exact (me_rd (pv 0))) (by exact ma_cons me_int ma_nil)))) me_int (nomark _)))))))) (mss_one (by exact (ms_ret (by exact (mcl (hk := by omega) (ok__law_any hP hC hX hG) hr (by rfl) (g__law_any hP hC hX hG) (by exact tkD) (by exact ma_cons (by exact (me_rd (pv 0))) (by exact ma_cons (by exact (me_rd (pv 2))) ma_nil))))))) mss_nil))
  (mss_cons (by exact (ms_set (i := 3) (by exact sc__law_bent.nd) (by rfl) (by first | exact .inl rfl | exact .inr rfl) (by exact (mcl (hk := by omega) (ok__law_draw hP hC hX hG) hr (by rfl) (g__law_draw hP hC hX hG) (by exact tkD) (by exact ma_cons (by exact (me_rd (pv 0))) (by exact ma_cons (by exact (me_callB bLen (by rfl) (fr_len hP hC hX hG) (by decide +kernel) (by exact ma_cons (by exact (me_rd (pv 1))) ma_nil))) ma_nil))))))
  (mss_cons (by exact (ms_set (i := 4) (by exact sc__law_bent.nd) (by rfl) (by first | exact .inl rfl | exact .inr rfl) (by exact (mcl (hk := by omega) (ok__law_draw hP hC hX hG) hr (by rfl) (g__law_draw hP hC hX hG) (by exact tkD) (by exact ma_cons (by exact (me_rd (pv 0))) (by exact ma_cons me_int ma_nil))))))
  (mss_cons (by exact (ms_if (by exact (mt_cmp (opEq (by exact hr.units)) (by exact (me_rd (pv 4))) me_int (nomark _))) (mss_one (by exact (ms_ret (by exact (me_bin opAdd (by exact (me_slice (by exact (me_rd (pv 1))) mo_none (mo_some (by exact (me_rd (pv 3)))))) (by exact (me_slice (by exact (me_rd (pv 1))) (mo_some (by exact (me_bin opAdd (by exact (me_rd (pv 3))) me_int))) mo_none))))))) mss_nil))
  (mss_cons (by exact (ms_if (by exact (mt_cmp (opEq (by exact hr.units)) (by exact (me_rd (pv 4))) me_int (nomark _))) (mss_one (by exact (ms_ret (by exact (me_bin opAdd (by exact (me_rd (pv 1))) (by exact (me_slice (by exact (me_rd (pv 1))) mo_none (mo_some me_int)))))))) mss_nil))
  (mss_cons (by exact (ms_if (by exact (mt_cmp (opEq (by exact hr.units)) (by exact (me_rd (pv 4))) me_int (nomark _))) (mss_one (by exact (ms_ret (by exact (me_callTy bList (by rfl) (fr_list hP hC hX hG) (by decide +kernel) (by exact ma_cons (by exact (me_rd (pv 1))) ma_nil)))))) mss_nil))
  (mss_one (by exact (ms_ret (by exact (me_bin opAdd (by exact (me_bin opAdd (by exact (me_slice (by exact (me_rd (pv 1))) mo_none (mo_some (by exact (me_rd (pv 3)))))) (by exact (me_tup (by exact ma_cons (by exact (mcl (k := 2 + n + 1) (k' := 2 + (n + 1)) (x := "_law_bent") (ps := ["hand", "thing", "odd"]) (fm := f__law_bentr n) (hk := by omega) hrec hr (by rfl) (g__law_bent hP hC hX hG) (by exact tkD) (by exact ma_cons (by exact (me_rd (pv 0))) (by exact ma_cons (by exact (me_ix ixOk (by exact (me_rd (pv 1))) (by exact (me_rd (pv 3))) (by intro _ _; rfl))) (by exact ma_cons (by exact (me_rd (pv 2))) ma_nil))))) ma_nil))))) (by exact (me_slice (by exact (me_rd (pv 1))) (mo_some (by exact (me_bin opAdd (by exact (me_rd (pv 3))) me_int))) mo_none)))))))))))))
theorem ok__law_bent (hP : P = hd.P) (hC : hd.says K) (hX : K.In h) (hG : h.Ns mainGlobals mg) : OkF P w K mg base 19 (He.ga K "_law_bent") ["hand", "thing", "odd"] f__law_bent := okr__law_bent hP hC hX hG 16
theorem sc__law_deep : FnScope ["thing", "turn"] [] (defScope (top 24)) := ⟨rfl, rfl, rfl, by decide +kernel, rfl, by decide +kernel, by decide +kernel⟩
def b__law_deep : MS := (seqS (bndS (bnd (ret []) fun ds => lo (mkT ds)) (setS 0))
  (seqS (bndS (bnd (bnd (ret (.int 12)) fun d => bnd (ret []) fun ds => ret (d :: ds)) fun ds => lo (toRng1 ds)) (forS (.nm 1) (bndS (bnd (bnd (rd 0) fun d => bnd (ret []) fun ds => ret (d :: ds)) fun ds => lo (mkT ds)) (setS 0))))
  (bndS (rd 0) retS)))
def f__law_deep : FM := (runF 2 b__law_deep)
theorem ok__law_deep (hP : P = hd.P) (hC : hd.says K) (hX : K.In h) (hG : h.Ns mainGlobals mg) : OkF P w K mg base 1 (He.ga K "_law_deep") [] f__law_deep := okF_of (N := ["thing", "turn"]) (ps := []) (k := 0) (b := b__law_deep) (Hd.def_ hC 3 (d := d__law_deep) rfl) sc__law_deep (fun fd F => FunD.bindsA F fun _ _ _ _ _ _ us hl => match us, hl with | [], _ => rfl) fun cdv A outer s H E hr =>
  (mss_cons (by exact (ms_set (i := 0) (by exact sc__law_deep.nd) (by rfl) (by first | exact .inl rfl | exact .inr rfl) (by exact (me_tup ma_nil))))
  (mss_cons (by exact (ms_for (t := (.nm 1)) (by exact poD) (by rfl) (mi_rng1 (by rfl) (fr_range hP hC hX hG) (by exact ma_cons me_int ma_nil)) (pg_nm (by exact sc__law_deep.nd) (i := 1) (by rfl) (by first | exact .inl rfl | exact .inr rfl)) (mss_one (by exact (ms_set (i := 0) (by exact sc__law_deep.nd) (by rfl) (by first | exact .inl rfl | exact .inr rfl) (by exact (me_tup (by exact ma_cons (by exact (me_rd (pv 0))) ma_nil))))))))
  (mss_one (by exact (ms_ret (by exact (me_rd (pv 0))))))))
theorem sc__law_are : FnScope ["thing", "many", "stock", "one"] ["thing", "many", "stock"] (defScope (top 26)) := ⟨rfl, rfl, rfl, by decide +kernel, rfl, by decide +kernel, by decide +kernel⟩
def b__law_are : MS := (seqS (bndS (bnd (bnd (bnd (bnd (bnd (rd 0) fun d => bnd (bnd (ret (.ty "tuple")) fun d => bnd (ret []) fun ds => ret (d :: ds)) fun ds => ret (d :: ds)) fun ds => lo ((isiF TT.tf) ds)) fun d => lo (tb d)) fun k => ret (!k)) fun k => if k = true then ret true else (bnd (bnd (bnd (rd 0) fun d => bnd (ret []) fun ds => ret (d :: ds)) fun ds => lo (lenF ds)) fun x => bnd (rd 1) fun y => bnd (lo (neD x y)) fun d => lo (tb d))) fun x => if x = true then (bndS (ret (.bl false)) retS) else nxtS)
  (bndS (bnd (bnd (bnd (bnd (rd 0) fun d => lo (toSrc d)) (compD false (.nm 3) yes (bnd (bnd (bnd (rd 3) fun d => bnd (bnd (ret (.ty "int")) fun d => bnd (ret []) fun ds => ret (d :: ds)) fun ds => ret (d :: ds)) fun ds => lo ((isiF TT.tf) ds)) fun x => bnd (lo (tb x)) fun k => if k = true then (bnd (bnd (bnd (bnd (rd 3) fun d => bnd (bnd (ret (.ty "bool")) fun d => bnd (ret []) fun ds => ret (d :: ds)) fun ds => ret (d :: ds)) fun ds => lo ((isiF TT.tf) ds)) fun x => bnd (lo (tb x)) fun k => ret (.bl (!k))) fun x => bnd (lo (tb x)) fun k => if k = true then (bnd (ret (.int 0)) fun x => bnd (rd 3) fun y => chn leD ltD x y (rd 2)) else ret (.bl false)) else ret (.bl false)) [3])) fun d => bnd (ret []) fun ds => ret (d :: ds)) fun ds => lo (allF ds)) retS))
def f__law_are : FM := (runF 4 b__law_are)
theorem ok__law_are (hP : P = hd.P) (hC : hd.says K) (hX : K.In h) (hG : h.Ns mainGlobals mg) : OkF P w K mg base 1 (He.ga K "_law_are") ["thing", "many", "stock"] f__law_are := okF_of (N := ["thing", "many", "stock", "one"]) (ps := ["thing", "many", "stock"]) (k := 0) (b := b__law_are) (Hd.def_ hC 4 (d := d__law_are) rfl) sc__law_are (fun fd F => FunD.bindsA F fun _ _ _ _ _ _ us hl => match us, hl with | [_, _, _], _ => rfl) fun cdv A outer s H E hr =>
  (mss_cons (by exact (ms_if (by exact (mt_w (mw_or (by exact (mt_not (by exact (mt_val (by exact (me_callB (bIsiT (T := TT.tf) (by exact ⟨(FX hC).toPF, rfl⟩)) (by rfl) (fr_isinstance hP hC hX hG) (by decide +kernel) (by exact ma_cons (by exact (me_rd (pv 0))) (by exact ma_cons (by exact (me_bty (by rfl) (fr_tuple hP hC hX hG) (by decide +kernel))) ma_nil)))))))) (mw_or1 (by exact (mt_cmp (opNe (by exact hr.units)) (by exact (me_callB bLen (by rfl) (fr_len hP hC hX hG) (by decide +kernel) (by exact ma_cons (by exact (me_rd (pv 0))) ma_nil))) (by exact (me_rd (pv 1))) (nomark _))))))) (mss_one (by exact (ms_ret me_bl))) mss_nil))
  (mss_one (by exact (ms_ret (by exact (me_callB (bAll (by rfl)) (by rfl) (fr_all hP hC hX hG) (by decide +kernel) (by exact ma_cons (by exact (me_comp (ob := false) (own := [("one", 3)]) (by rfl) (by exact sc__law_are.nd) (mi_seq (by exact (me_rd (pv 0)))) (by exact blk_of (by rfl)) (fun _ _ _ _ _ => (pg_nm (by exact sc__law_are.nd) (i := 3) (by rfl) (by first | exact .inl rfl | exact .inr rfl))) (fun _ _ _ _ _ => mts_nil) (fun _ _ _ _ _ => (by exact (me_and (by exact (me_callB (bIsiT (T := TT.tf) (by exact ⟨(FX hC).toPF, rfl⟩)) (by rfl) (fr_isinstance hP hC hX hG) (by decide +kernel) (by exact ma_cons (by exact (me_rd (pv 3))) (by exact ma_cons (by exact (me_bty (by rfl) (fr_int hP hC hX hG) (by decide +kernel))) ma_nil)))) (me_and (by exact (me_not (by exact (me_callB (bIsiT (T := TT.tf) (by exact ⟨(FX hC).toPF, rfl⟩)) (by rfl) (fr_isinstance hP hC hX hG) (by decide +kernel) (by exact ma_cons (by exact (me_rd (pv 3))) (by exact ma_cons (by exact (me_bty (by rfl) (fr_bool hP hC hX hG) (by decide +kernel))) ma_nil)))))) (me_one (by exact (me_chain opLe opLt me_int (by exact (me_rd (pv 3))) (by exact (me_rd (pv 2)))))))))))) ma_nil)))))))
theorem sc__law_due : FnScope ["rows", "changes", "first", "forks", "joins", "looks", "many", "row", "pair", "word"] ["rows"] (defScope (top 27)) := ⟨rfl, rfl, rfl, by decide +kernel, rfl, by decide +kernel, by decide +kernel⟩
def b__law_due : MS := (seqS (bndS (rd 0) (tgS (.tp [2, 1, 3, 4, 5])))
  (seqS (bndS (bnd (bnd (bnd (bnd (rd 1) fun d => bnd (bnd (ret (.ty "tuple")) fun d => bnd (ret []) fun ds => ret (d :: ds)) fun ds => ret (d :: ds)) fun ds => lo ((isiF TT.tf) ds)) fun d => lo (tb d)) fun k => if k = true then (bnd (bnd (rd 1) fun d => bnd (ret []) fun ds => ret (d :: ds)) fun ds => lo (lenF ds)) else (ret (.int 0))) (setS 6))
  (seqS (bndS (bnd (bnd (bnd (bnd (ret (.int 1)) fun x => bnd (rd 6) fun y => chn leD leD x y (ret (.int 400))) fun d => lo (tb d)) fun k => ret (!k)) fun k => if k = true then ret true else (bnd (bnd (bnd (bnd (rd 1) fun d => bnd (bnd (rd 6) fun d => bnd (bnd (rd 6) fun d => bnd (ret []) fun ds => ret (d :: ds)) fun ds => ret (d :: ds)) fun ds => ret (d :: ds)) (callM 3 f__law_are)) fun d => lo (tb d)) fun k => ret (!k))) fun x => if x = true then (bndS (ret (.str "changes")) retS) else nxtS)
  (seqS (bndS (bnd (bnd (bnd (bnd (bnd (bnd (rd 2) fun d => bnd (ret []) fun ds => ret (d :: ds)) fun ds => lo (mkT ds)) fun d => bnd (bnd (ret (.int 1)) fun d => bnd (bnd (rd 6) fun d => bnd (ret []) fun ds => ret (d :: ds)) fun ds => ret (d :: ds)) fun ds => ret (d :: ds)) (callM 3 f__law_are)) fun d => lo (tb d)) fun k => ret (!k)) fun x => if x = true then (bndS (ret (.str "first")) retS) else nxtS)
  (seqS (bndS (bnd (bnd (bnd (bnd (bnd (rd 3) fun d => bnd (bnd (ret (.ty "tuple")) fun d => bnd (ret []) fun ds => ret (d :: ds)) fun ds => ret (d :: ds)) fun ds => lo ((isiF TT.tf) ds)) fun d => lo (tb d)) fun k => ret (!k)) fun k => if k = true then ret true else (bnd (bnd (bnd (bnd (rd 3) fun d => bnd (ret []) fun ds => ret (d :: ds)) fun ds => lo (lenF ds)) fun x => bnd (rd 6) fun y => bnd (lo (neD x y)) fun d => lo (tb d)) fun k => if k = true then ret true else (bnd (bnd (bnd (bnd (bnd (bnd (rd 3) fun d => lo (toSrc d)) (compD false (.nm 8) yes (bnd (bnd (rd 8) fun d => bnd (bnd (ret (.int 2)) fun d => bnd (bnd (rd 6) fun d => bnd (ret []) fun ds => ret (d :: ds)) fun ds => ret (d :: ds)) fun ds => ret (d :: ds)) (callM 3 f__law_are)) [8])) fun d => bnd (ret []) fun ds => ret (d :: ds)) fun ds => lo (allF ds)) fun d => lo (tb d)) fun k => ret (!k)))) fun x => if x = true then (bndS (ret (.str "forks")) retS) else nxtS)
  (seqS (bndS (bnd (bnd (bnd (bnd (bnd (rd 4) fun d => bnd (bnd (ret (.ty "tuple")) fun d => bnd (ret []) fun ds => ret (d :: ds)) fun ds => ret (d :: ds)) fun ds => lo ((isiF TT.tf) ds)) fun d => lo (tb d)) fun k => ret (!k)) fun k => if k = true then ret true else (bnd (bnd (bnd (bnd (rd 4) fun d => bnd (ret []) fun ds => ret (d :: ds)) fun ds => lo (lenF ds)) fun x => bnd (rd 6) fun y => bnd (lo (neD x y)) fun d => lo (tb d)) fun k => if k = true then ret true else (bnd (bnd (bnd (bnd (bnd (bnd (rd 4) fun d => lo (toSrc d)) (compD false (.nm 7) yes (bnd (bnd (rd 7) fun d => bnd (bnd (rd 6) fun d => bnd (bnd (rd 6) fun d => bnd (ret []) fun ds => ret (d :: ds)) fun ds => ret (d :: ds)) fun ds => ret (d :: ds)) (callM 3 f__law_are)) [7])) fun d => bnd (ret []) fun ds => ret (d :: ds)) fun ds => lo (allF ds)) fun d => lo (tb d)) fun k => ret (!k)))) fun x => if x = true then (bndS (ret (.str "joins")) retS) else nxtS)
  (seqS (bndS (bnd (rd 5) fun x => bnd (ret .non) fun y => bnd (lo (isD x y)) fun d => lo (tb d)) fun x => if x = true then (bndS (ret (.str "let")) retS) else nxtS)
  (seqS (bndS (bnd (bnd (bnd (bnd (bnd (rd 5) fun d => bnd (bnd (ret (.ty "tuple")) fun d => bnd (ret []) fun ds => ret (d :: ds)) fun ds => ret (d :: ds)) fun ds => lo ((isiF TT.tf) ds)) fun d => lo (tb d)) fun k => ret (!k)) fun k => if k = true then ret true else (bnd (bnd (bnd (rd 5) fun d => bnd (ret []) fun ds => ret (d :: ds)) fun ds => lo (lenF ds)) fun x => bnd (rd 6) fun y => bnd (lo (neD x y)) fun d => lo (tb d))) fun x => if x = true then (bndS (ret (.str "looks")) retS) else nxtS)
  (seqS (bndS (bnd (rd 5) fun d => lo (toSrc d)) (forS (.nm 7) (seqS (bndS (bnd (bnd (bnd (bnd (bnd (rd 7) fun d => bnd (bnd (ret (.ty "tuple")) fun d => bnd (ret []) fun ds => ret (d :: ds)) fun ds => ret (d :: ds)) fun ds => lo ((isiF TT.tf) ds)) fun d => lo (tb d)) fun k => ret (!k)) fun k => if k = true then ret true else (bnd (bnd (bnd (rd 7) fun d => bnd (ret []) fun ds => ret (d :: ds)) fun ds => lo (lenF ds)) fun x => bnd (rd 6) fun y => bnd (lo (neD x y)) fun d => lo (tb d))) fun x => if x = true then (bndS (ret (.str "looks")) retS) else nxtS)
  (bndS (bnd (bnd (bnd (bnd (bnd (bnd (rd 7) fun d => lo (toSrc d)) (compD false (.nm 9) yes (bnd (bnd (bnd (rd 9) fun d => bnd (bnd (ret (.ty "str")) fun d => bnd (ret []) fun ds => ret (d :: ds)) fun ds => ret (d :: ds)) fun ds => lo ((isiF TT.tf) ds)) fun x => bnd (lo (tb x)) fun k => if k = true then (bnd (rd 9) fun x => bnd (bnd (bnd (ret (.str "same")) fun d => bnd (bnd (ret (.str "newer")) fun d => bnd (bnd (ret (.str "elder")) fun d => bnd (bnd (ret (.str "apart")) fun d => bnd (ret []) fun ds => ret (d :: ds)) fun ds => ret (d :: ds)) fun ds => ret (d :: ds)) fun ds => ret (d :: ds)) fun ds => lo (mkL ds)) fun y => lo ((inD false) x y)) else ret (.bl false)) [9])) fun d => bnd (ret []) fun ds => ret (d :: ds)) fun ds => lo (allF ds)) fun d => lo (tb d)) fun k => ret (!k)) fun x => if x = true then (bndS (ret (.str "looks")) retS) else nxtS))))
  (bndS (ret (.str "let")) retS))))))))))
def f__law_due : FM := (runF 10 b__law_due)
theorem ok__law_due (hP : P = hd.P) (hC : hd.says K) (hX : K.In h) (hG : h.Ns mainGlobals mg) : OkF P w K mg base 2 (He.ga K "_law_due") ["rows"] f__law_due := okF_of (N := ["rows", "changes", "first", "forks", "joins", "looks", "many", "row", "pair", "word"]) (ps := ["rows"]) (k := 1) (b := b__law_due) (Hd.def_ hC 5 (d := d__law_due) rfl) sc__law_due (fun fd F => FunD.bindsA F fun _ _ _ _ _ _ us hl => match us, hl with | [_], _ => rfl) fun cdv A outer s H E hr =>
  (mss_cons (by exact (ms_asg (t := (.tp [2, 1, 3, 4, 5])) (by exact (me_rd (pv 0))) (pg_tp (by rfl) (pgs_c (by exact sc__law_due.nd) (i := 2) (by rfl) (by first | exact .inl rfl | exact .inr rfl) (pgs_c (by exact sc__law_due.nd) (i := 1) (by rfl) (by first | exact .inl rfl | exact .inr rfl) (pgs_c (by exact sc__law_due.nd) (i := 3) (by rfl) (by first | exact .inl rfl | exact .inr rfl) (pgs_c (by exact sc__law_due.nd) (i := 4) (by rfl) (by first | exact .inl rfl | exact .inr rfl) (pgs_c (by exact sc__law_due.nd) (i := 5) (by rfl) (by first | exact .inl rfl | exact .inr rfl) pgs_0))))))))
  (mss_cons (by exact (ms_set (i := 6) (by exact sc__law_due.nd) (by rfl) (by first | exact .inl rfl | exact .inr rfl) (by exact (me_if (by exact (mt_val (by exact (me_callB (bIsiT (T := TT.tf) (by exact ⟨(FX hC).toPF, rfl⟩)) (by rfl) (fr_isinstance hP hC hX hG) (by decide +kernel) (by exact ma_cons (by exact (me_rd (pv 1))) (by exact ma_cons (by exact (me_bty (by rfl) (fr_tuple hP hC hX hG) (by decide +kernel))) ma_nil)))))) (by exact (me_callB bLen (by rfl) (fr_len hP hC hX hG) (by decide +kernel) (by exact ma_cons (by exact (me_rd (pv 1))) ma_nil))) me_int))))
  (mss_cons (by exact (ms_if (by exact (mt_w (mw_or (by exact (mt_not (by exact (mt_chain opLe opLe me_int (by exact (me_rd (pv 6))) me_int)))) (mw_or1 (by exact (mt_not (by exact (mt_val (by exact (mcl  (ok__law_are hP hC hX hG) hr (by rfl) (g__law_are hP hC hX hG) (by exact tkD) (by exact ma_cons (by exact (me_rd (pv 1))) (by exact ma_cons (by exact (me_rd (pv 6))) (by exact ma_cons (by exact (me_rd (pv 6))) ma_nil))))))))))))) (mss_one (by exact (ms_ret me_str))) mss_nil))
  (mss_cons (by exact (ms_if (by exact (mt_not (by exact (mt_val (by exact (mcl  (ok__law_are hP hC hX hG) hr (by rfl) (g__law_are hP hC hX hG) (by exact tkD) (by exact ma_cons (by exact (me_tup (by exact ma_cons (by exact (me_rd (pv 2))) ma_nil))) (by exact ma_cons me_int (by exact ma_cons (by exact (me_rd (pv 6))) ma_nil))))))))) (mss_one (by exact (ms_ret me_str))) mss_nil))
  (mss_cons (by exact (ms_if (by exact (mt_w (mw_or (by exact (mt_not (by exact (mt_val (by exact (me_callB (bIsiT (T := TT.tf) (by exact ⟨(FX hC).toPF, rfl⟩)) (by rfl) (fr_isinstance hP hC hX hG) (by decide +kernel) (by exact ma_cons (by exact (me_rd (pv 3))) (by exact ma_cons (by exact (me_bty (by rfl) (fr_tuple hP hC hX hG) (by decide +kernel))) ma_nil)))))))) (mw_or (by exact (mt_cmp (opNe (by exact hr.units)) (by exact (me_callB bLen (by rfl) (fr_len hP hC hX hG) (by decide +kernel) (by exact ma_cons (by exact (me_rd (pv 3))) ma_nil))) (by exact (me_rd (pv 6))) (nomark _))) (mw_or1 (by exact (mt_not (by exact (mt_val (by exact (me_callB (bAll (by rfl)) (by rfl) (fr_all hP hC hX hG) (by decide +kernel) (by exact ma_cons (by exact (me_comp (ob := false) (own := [("pair", 8)]) (by rfl) (by exact sc__law_due.nd) (mi_seq (by exact (me_rd (pv 3)))) (by exact blk_of (by rfl)) (fun _ _ _ _ _ => (pg_nm (by exact sc__law_due.nd) (i := 8) (by rfl) (by first | exact .inl rfl | exact .inr rfl))) (fun _ _ _ _ _ => mts_nil) (fun _ _ _ _ _ => (by exact (mcl  (ok__law_are hP hC hX hG) hr (by rfl) (g__law_are hP hC hX hG) (by exact tk0) (by exact ma_cons (by exact (me_rd (pv 8))) (by exact ma_cons me_int (by exact ma_cons (by exact (me_rd (pv 6))) ma_nil)))))))) ma_nil)))))))))))) (mss_one (by exact (ms_ret me_str))) mss_nil))
  (mss_cons (by exact (ms_if (by exact (mt_w (mw_or (by exact (mt_not (by exact (mt_val (by exact (me_callB (bIsiT (T := TT.tf) (by exact ⟨(FX hC).toPF, rfl⟩)) (by rfl) (fr_isinstance hP hC hX hG) (by decide +kernel) (by exact ma_cons (by exact (me_rd (pv 4))) (by exact ma_cons (by exact (me_bty (by rfl) (fr_tuple hP hC hX hG) (by decide +kernel))) ma_nil)))))))) (mw_or (by exact (mt_cmp (opNe (by exact hr.units)) (by exact (me_callB bLen (by rfl) (fr_len hP hC hX hG) (by decide +kernel) (by exact ma_cons (by exact (me_rd (pv 4))) ma_nil))) (by exact (me_rd (pv 6))) (nomark _))) (mw_or1 (by exact (mt_not (by exact (mt_val (by exact (me_callB (bAll (by rfl)) (by rfl) (fr_all hP hC hX hG) (by decide +kernel) (by exact ma_cons (by exact (me_comp (ob := false) (own := [("row", 7)]) (by rfl) (by exact sc__law_due.nd) (mi_seq (by exact (me_rd (pv 4)))) (by exact blk_of (by rfl)) (fun _ _ _ _ _ => (pg_nm (by exact sc__law_due.nd) (i := 7) (by rfl) (by first | exact .inl rfl | exact .inr rfl))) (fun _ _ _ _ _ => mts_nil) (fun _ _ _ _ _ => (by exact (mcl  (ok__law_are hP hC hX hG) hr (by rfl) (g__law_are hP hC hX hG) (by exact tk0) (by exact ma_cons (by exact (me_rd (pv 7))) (by exact ma_cons (by exact (me_rd (pv 6))) (by exact ma_cons (by exact (me_rd (pv 6))) ma_nil)))))))) ma_nil)))))))))))) (mss_one (by exact (ms_ret me_str))) mss_nil))
  (mss_cons (by exact (ms_if (by exact (mt_cmp opIs (by exact (me_rd (pv 5))) me_non (nomark _))) (mss_one (by exact (ms_ret me_str))) mss_nil))
  (mss_cons (by exact (ms_if (by exact (mt_w (mw_or (by exact (mt_not (by exact (mt_val (by exact (me_callB (bIsiT (T := TT.tf) (by exact ⟨(FX hC).toPF, rfl⟩)) (by rfl) (fr_isinstance hP hC hX hG) (by decide +kernel) (by exact ma_cons (by exact (me_rd (pv 5))) (by exact ma_cons (by exact (me_bty (by rfl) (fr_tuple hP hC hX hG) (by decide +kernel))) ma_nil)))))))) (mw_or1 (by exact (mt_cmp (opNe (by exact hr.units)) (by exact (me_callB bLen (by rfl) (fr_len hP hC hX hG) (by decide +kernel) (by exact ma_cons (by exact (me_rd (pv 5))) ma_nil))) (by exact (me_rd (pv 6))) (nomark _))))))) (mss_one (by exact (ms_ret me_str))) mss_nil))
  (mss_cons (by exact (ms_for (t := (.nm 7)) (by exact poD) (by rfl) (mi_seq (by exact (me_rd (pv 5)))) (pg_nm (by exact sc__law_due.nd) (i := 7) (by rfl) (by first | exact .inl rfl | exact .inr rfl)) (mss_cons (by exact (ms_if (by exact (mt_w (mw_or (by exact (mt_not (by exact (mt_val (by exact (me_callB (bIsiT (T := TT.tf) (by exact ⟨(FX hC).toPF, rfl⟩)) (by rfl) (fr_isinstance hP hC hX hG) (by decide +kernel) (by exact ma_cons (by exact (me_rd (pv 7))) (by exact ma_cons (by exact (me_bty (by rfl) (fr_tuple hP hC hX hG) (by decide +kernel))) ma_nil)))))))) (mw_or1 (by exact (mt_cmp (opNe (by exact hr.units)) (by exact (me_callB bLen (by rfl) (fr_len hP hC hX hG) (by decide +kernel) (by exact ma_cons (by exact (me_rd (pv 7))) ma_nil))) (by exact (me_rd (pv 6))) (nomark _))))))) (mss_one (by exact (ms_ret me_str))) mss_nil))
  (mss_one (by exact (ms_if (by exact (mt_not (by exact (mt_val (by exact (me_callB (bAll (by rfl)) (by rfl) (fr_all hP hC hX hG) (by decide +kernel) (by exact ma_cons (by exact (me_comp (ob := false) (own := [("word", 9)]) (by rfl) (by exact sc__law_due.nd) (mi_seq (by exact (me_rd (pv 7)))) (by exact blk_of (by rfl)) (fun _ _ _ _ _ => (pg_nm (by exact sc__law_due.nd) (i := 9) (by rfl) (by first | exact .inl rfl | exact .inr rfl))) (fun _ _ _ _ _ => mts_nil) (fun _ _ _ _ _ => (by exact (me_and (by exact (me_callB (bIsiT (T := TT.tf) (by exact ⟨(FX hC).toPF, rfl⟩)) (by rfl) (fr_isinstance hP hC hX hG) (by decide +kernel) (by exact ma_cons (by exact (me_rd (pv 9))) (by exact ma_cons (by exact (me_bty (by rfl) (fr_str hP hC hX hG) (by decide +kernel))) ma_nil)))) (me_one (by exact (me_cmp opIn (by exact (me_rd (pv 9))) (by exact (me_tl (by exact ma_cons me_str (by exact ma_cons me_str (by exact ma_cons me_str (by exact ma_cons me_str ma_nil)))))) (by rfl))))))))) ma_nil))))))) (mss_one (by exact (ms_ret me_str))) mss_nil))))))
  (mss_one (by exact (ms_ret me_str))))))))))))
theorem sc__law_great : FnScope ["many", "nothing"] ["many"] (defScope (top 30)) := ⟨rfl, rfl, rfl, by decide +kernel, rfl, by decide +kernel, by decide +kernel⟩
def b__law_great : MS := (seqS (bndS (bnd (bnd (bnd (ret (.int 0)) fun d => bnd (ret []) fun ds => ret (d :: ds)) fun ds => lo (mkT ds)) fun x => bnd (rd 0) fun y => lo (mulD x y)) (setS 1))
  (bndS (bnd (bnd (ret (.int 0)) fun d => bnd (bnd (rd 1) fun d => bnd (bnd (bnd (bnd (bnd (bnd (bnd (ret (.int 0)) fun d => bnd (bnd (ret (.int 0)) fun d => bnd (ret []) fun ds => ret (d :: ds)) fun ds => ret (d :: ds)) fun ds => lo (mkT ds)) fun d => bnd (ret []) fun ds => ret (d :: ds)) fun ds => lo (mkT ds)) fun x => bnd (rd 0) fun y => lo (mulD x y)) fun d => bnd (bnd (bnd (bnd (bnd (rd 1) fun d => bnd (ret []) fun ds => ret (d :: ds)) fun ds => lo (mkT ds)) fun x => bnd (rd 0) fun y => lo (mulD x y)) fun d => bnd (bnd (ret .non) fun d => bnd (ret []) fun ds => ret (d :: ds)) fun ds => ret (d :: ds)) fun ds => ret (d :: ds)) fun ds => ret (d :: ds)) fun ds => ret (d :: ds)) fun ds => lo (mkT ds)) retS))
def f__law_great : FM := (runF 2 b__law_great)
theorem ok__law_great (hP : P = hd.P) (hC : hd.says K) (hX : K.In h) (hG : h.Ns mainGlobals mg) : OkF P w K mg base 1 (He.ga K "_law_great") ["many"] f__law_great := okF_of (N := ["many", "nothing"]) (ps := ["many"]) (k := 0) (b := b__law_great) (Hd.def_ hC 6 (d := d__law_great) rfl) sc__law_great (fun fd F => FunD.bindsA F fun _ _ _ _ _ _ us hl => match us, hl with | [_], _ => rfl) fun cdv A outer s H E hr =>
  (mss_cons (by exact (ms_set (i := 1) (by exact sc__law_great.nd) (by rfl) (by first | exact .inl rfl | exact .inr rfl) (by exact (me_bin opMul (by exact (me_tup (by exact ma_cons me_int ma_nil))) (by exact (me_rd (pv 0)))))))
  (mss_one (by exact (ms_ret (by exact (me_tup (by exact ma_cons me_int (by exact ma_cons (by exact (me_rd (pv 1))) (by exact ma_cons (by exact (me_bin opMul (by exact (me_tup (by exact ma_cons (by exact (me_tup (by exact ma_cons me_int (by exact ma_cons me_int ma_nil)))) ma_nil))) (by exact (me_rd (pv 0))))) (by exact ma_cons (by exact (me_bin opMul (by exact (me_tup (by exact ma_cons (by exact (me_rd (pv 1))) ma_nil))) (by exact (me_rd (pv 0))))) (by exact ma_cons me_non ma_nil)))))))))))
theorem sc__law_pot : FnScope ["script", "cells", "greats", "smalls", "item"] ["script"] (defScope (top 21)) := ⟨rfl, rfl, rfl, by decide +kernel, rfl, by decide +kernel, by decide +kernel⟩
def b__law_pot : MS := (seqS (bndS (bnd (bnd (bnd (rd 0) fun x => bnd (ret none) fun l => bnd (bnd (ret (.int 63)) fun d => lo (toI d)) fun u => lo (slD x l u)) fun d => lo (toSrc d)) (compD false (.nm 4) yes (bnd (bnd (rd 4) fun d => bnd (ret []) fun ds => ret (d :: ds)) fun ds => lo (intF ds)) [4])) (setS 1))
  (seqS (bndS (bnd (bnd (rd 1) fun d => lo (toSrc d)) (compD true (.nm 4) (bnd (bnd (bnd (rd 4) fun d => bnd (ret []) fun ds => ret (d :: ds)) fun ds => lo (absF ds)) fun x => bnd (bnd (ret (.int 10)) fun x => bnd (ret (.int 18)) fun y => lo (powD x y)) fun y => bnd (lo (geD x y)) fun d => lo (tb d)) (bnd (bnd (rd 4) fun d => bnd (ret []) fun ds => ret (d :: ds)) fun ds => lo (absF ds)) [4])) (setS 2))
  (seqS (bndS (bnd (bnd (bnd (rd 1) fun d => lo (toSrc d)) (compD false (.nm 4) (bnd (bnd (bnd (rd 4) fun d => bnd (ret []) fun ds => ret (d :: ds)) fun ds => lo (absF ds)) fun x => bnd (bnd (ret (.int 10)) fun x => bnd (ret (.int 18)) fun y => lo (powD x y)) fun y => bnd (lo (ltD x y)) fun d => lo (tb d)) (bnd (bnd (bnd (rd 4) fun d => bnd (ret []) fun ds => ret (d :: ds)) fun ds => lo (intF ds)) fun x => bnd (ret (.int 1000000007)) fun y => lo (modD x y)) [4])) fun x => bnd (bnd (bnd (bnd (bnd (bnd (rd 1) fun d => bnd (ret []) fun ds => ret (d :: ds)) fun ds => lo (lenF ds)) fun x => bnd (ret (.int 1)) fun y => lo (addD x y)) fun d => bnd (ret []) fun ds => ret (d :: ds)) fun ds => lo (mkL ds)) fun y => lo (addD x y)) (setS 3))
  (bndS (bnd (bnd (rd 2) fun d => bnd (bnd (rd 3) fun d => bnd (bnd (ret (.int 0)) fun d => bnd (bnd (bnd (bnd (bnd (bnd (bnd (rd 3) fun d => bnd (ret []) fun ds => ret (d :: ds)) fun ds => lo (sumF ds)) fun d => bnd (ret []) fun ds => ret (d :: ds)) fun ds => lo (intF ds)) fun x => bnd (ret (.int 999983)) fun y => lo (modD x y)) fun d => bnd (ret []) fun ds => ret (d :: ds)) fun ds => ret (d :: ds)) fun ds => ret (d :: ds)) fun ds => ret (d :: ds)) fun ds => newL ds) retS))))
def f__law_pot : FM := (runF 5 b__law_pot)
theorem ok__law_pot (hP : P = hd.P) (hC : hd.says K) (hX : K.In h) (hG : h.Ns mainGlobals mg) : OkF P w K mg base 1 (He.ga K "_law_pot") ["script"] f__law_pot := okF_of (N := ["script", "cells", "greats", "smalls", "item"]) (ps := ["script"]) (k := 0) (b := b__law_pot) (Hd.def_ hC 7 (d := d__law_pot) rfl) sc__law_pot (fun fd F => FunD.bindsA F fun _ _ _ _ _ _ us hl => match us, hl with | [_], _ => rfl) fun cdv A outer s H E hr =>
  (mss_cons (by exact (ms_setcomp (i := 1) (ob := false) (own := [("item", 4)]) (by rfl) (by exact sc__law_pot.nd) (by rfl) (by rfl) (sw_true (by rfl) (by rfl) (by rfl) (by rfl)) (mi_seq (by exact (me_slice (by exact (me_rd (pv 0))) mo_none (mo_some me_int)))) (by exact blk_of (by rfl)) (fun _ _ _ _ _ => (pg_nm (by exact sc__law_pot.nd) (i := 4) (by rfl) (by first | exact .inl rfl | exact .inr rfl))) (fun _ _ _ _ _ => mts_nil) (fun _ _ _ _ _ => (by exact (me_callTy bInt (by rfl) (fr_int hP hC hX hG) (by decide +kernel) (by exact ma_cons (by exact (me_rd (pv 4))) ma_nil))))))
  (mss_cons (by exact (ms_setcomp (i := 2) (ob := true) (own := [("item", 4)]) (by rfl) (by exact sc__law_pot.nd) (by rfl) (by rfl) (sw_true (by rfl) (by rfl) (by rfl) (by rfl)) (mi_seq (by exact (me_rd (pv 1)))) (by exact blk_of (by rfl)) (fun _ _ _ _ _ => (pg_nm (by exact sc__law_pot.nd) (i := 4) (by rfl) (by first | exact .inl rfl | exact .inr rfl))) (fun _ _ _ _ _ => (mts_one (by exact (mt_cmp opGe (by exact (me_callB bAbs (by rfl) (fr_abs hP hC hX hG) (by decide +kernel) (by exact ma_cons (by exact (me_rd (pv 4))) ma_nil))) (by exact (me_bin opPow me_int me_int)) (nomark _))))) (fun _ _ _ _ _ => (by exact (me_callB bAbs (by rfl) (fr_abs hP hC hX hG) (by decide +kernel) (by exact ma_cons (by exact (me_rd (pv 4))) ma_nil))))))
  (mss_cons (by exact (ms_set (i := 3) (by exact sc__law_pot.nd) (by rfl) (by first | exact .inl rfl | exact .inr rfl) (by exact (me_bin opAdd (by exact (me_comp (ob := false) (own := [("item", 4)]) (by rfl) (by exact sc__law_pot.nd) (mi_seq (by exact (me_rd (pv 1)))) (by exact blk_of (by rfl)) (fun _ _ _ _ _ => (pg_nm (by exact sc__law_pot.nd) (i := 4) (by rfl) (by first | exact .inl rfl | exact .inr rfl))) (fun _ _ _ _ _ => (mts_one (by exact (mt_cmp opLt (by exact (me_callB bAbs (by rfl) (fr_abs hP hC hX hG) (by decide +kernel) (by exact ma_cons (by exact (me_rd (pv 4))) ma_nil))) (by exact (me_bin opPow me_int me_int)) (nomark _))))) (fun _ _ _ _ _ => (by exact (me_bin opMod (by exact (me_callTy bInt (by rfl) (fr_int hP hC hX hG) (by decide +kernel) (by exact ma_cons (by exact (me_rd (pv 4))) ma_nil))) me_int))))) (by exact (me_tl (by exact ma_cons (by exact (me_bin opAdd (by exact (me_callB bLen (by rfl) (fr_len hP hC hX hG) (by decide +kernel) (by exact ma_cons (by exact (me_rd (pv 1))) ma_nil))) me_int)) ma_nil)))))))
  (mss_one (by exact (ms_ret (by exact (me_lst (by exact ma_cons (by exact (me_rd (pv 2))) (by exact ma_cons (by exact (me_rd (pv 3))) (by exact ma_cons me_int (by exact ma_cons (by exact (me_bin opMod (by exact (me_callTy bInt (by rfl) (fr_int hP hC hX hG) (by decide +kernel) (by exact ma_cons (by exact (me_callB (bSum (by rfl)) (by rfl) (fr_sum hP hC hX hG) (by decide +kernel) (by exact ma_cons (by exact (me_rd (pv 3))) ma_nil))) ma_nil))) me_int)) ma_nil))))))))))))
theorem sc__law_rows : FnScope ["hand", "many", "looks", "changes", "forks", "joins", "table", "words", "s", "t"] ["hand", "many", "looks"] (defScope (top 25)) := ⟨rfl, rfl, rfl, by decide +kernel, rfl, by decide +kernel, by decide +kernel⟩
def b__law_rows : MS := (seqS (bndS (bnd (bnd (bnd (bnd (bnd (rd 1) fun d => bnd (ret []) fun ds => ret (d :: ds)) fun ds => lo (toRng1 ds)) (compD false (.nm 8) yes (bnd (bnd (rd 0) fun d => bnd (bnd (rd 1) fun d => bnd (ret []) fun ds => ret (d :: ds)) fun ds => ret (d :: ds)) (callM 2 f__law_draw)) [8])) fun d => bnd (ret []) fun ds => ret (d :: ds)) fun ds => lo (tupF ds)) (setS 3))
  (seqS (bndS (bnd (bnd (bnd (bnd (bnd (rd 1) fun d => bnd (ret []) fun ds => ret (d :: ds)) fun ds => lo (toRng1 ds)) (compD false (.nm 8) yes (bnd (bnd (bnd (bnd (rd 0) fun d => bnd (bnd (rd 1) fun d => bnd (ret []) fun ds => ret (d :: ds)) fun ds => ret (d :: ds)) (callM 2 f__law_draw)) fun d => bnd (bnd (bnd (bnd (rd 0) fun d => bnd (bnd (rd 1) fun d => bnd (ret []) fun ds => ret (d :: ds)) fun ds => ret (d :: ds)) (callM 2 f__law_draw)) fun d => bnd (ret []) fun ds => ret (d :: ds)) fun ds => ret (d :: ds)) fun ds => lo (mkT ds)) [8])) fun d => bnd (ret []) fun ds => ret (d :: ds)) fun ds => lo (tupF ds)) (setS 4))
  (seqS (bndS (bnd (bnd (bnd (bnd (bnd (rd 1) fun d => bnd (ret []) fun ds => ret (d :: ds)) fun ds => lo (toRng1 ds)) (compD false (.nm 8) yes (bnd (bnd (bnd (bnd (bnd (rd 1) fun d => bnd (ret []) fun ds => ret (d :: ds)) fun ds => lo (toRng1 ds)) (compD false (.nm 9) yes (bnd (bnd (rd 0) fun d => bnd (bnd (rd 1) fun d => bnd (ret []) fun ds => ret (d :: ds)) fun ds => ret (d :: ds)) (callM 2 f__law_draw)) [9])) fun d => bnd (ret []) fun ds => ret (d :: ds)) fun ds => lo (tupF ds)) [8])) fun d => bnd (ret []) fun ds => ret (d :: ds)) fun ds => lo (tupF ds)) (setS 5))
  (seqS (bndS (bnd (bnd (ret (.str "same")) fun d => bnd (bnd (ret (.str "newer")) fun d => bnd (bnd (ret (.str "elder")) fun d => bnd (bnd (ret (.str "apart")) fun d => bnd (ret []) fun ds => ret (d :: ds)) fun ds => ret (d :: ds)) fun ds => ret (d :: ds)) fun ds => ret (d :: ds)) fun ds => lo (mkL ds)) (setS 7))
  (seqS (bndS (bnd (bnd (bnd (bnd (bnd (rd 1) fun d => bnd (ret []) fun ds => ret (d :: ds)) fun ds => lo (toRng1 ds)) (compD false (.nm 8) yes (bnd (bnd (bnd (bnd (bnd (rd 1) fun d => bnd (ret []) fun ds => ret (d :: ds)) fun ds => lo (toRng1 ds)) (compD false (.nm 9) yes (bnd (rd 7) fun x => bnd (bnd (bnd (rd 0) fun d => bnd (bnd (ret (.int 4)) fun d => bnd (ret []) fun ds => ret (d :: ds)) fun ds => ret (d :: ds)) (callM 2 f__law_draw)) fun y => lo (ixD x y)) [9])) fun d => bnd (ret []) fun ds => ret (d :: ds)) fun ds => lo (tupF ds)) [8])) fun d => bnd (ret []) fun ds => ret (d :: ds)) fun ds => lo (tupF ds)) (setS 6))
  (bndS (bnd (bnd (bnd (bnd (rd 0) fun d => bnd (bnd (rd 1) fun d => bnd (ret []) fun ds => ret (d :: ds)) fun ds => ret (d :: ds)) (callM 2 f__law_draw)) fun d => bnd (bnd (rd 3) fun d => bnd (bnd (rd 4) fun d => bnd (bnd (rd 5) fun d => bnd (bnd (bnd (bnd (rd 2) fun d => lo (tb d)) fun k => if k = true then (rd 6) else (ret .non)) fun d => bnd (ret []) fun ds => ret (d :: ds)) fun ds => ret (d :: ds)) fun ds => ret (d :: ds)) fun ds => ret (d :: ds)) fun ds => ret (d :: ds)) fun ds => lo (mkT ds)) retS))))))
def f__law_rows : FM := (runF 10 b__law_rows)
theorem ok__law_rows (hP : P = hd.P) (hC : hd.says K) (hX : K.In h) (hG : h.Ns mainGlobals mg) : OkF P w K mg base 2 (He.ga K "_law_rows") ["hand", "many", "looks"] f__law_rows := okF_of (N := ["hand", "many", "looks", "changes", "forks", "joins", "table", "words", "s", "t"]) (ps := ["hand", "many", "looks"]) (k := 1) (b := b__law_rows) (Hd.def_ hC 8 (d := d__law_rows) rfl) sc__law_rows (fun fd F => FunD.bindsA F fun _ _ _ _ _ _ us hl => match us, hl with | [_, _, _], _ => rfl) fun cdv A outer s H E hr =>
  (mss_cons (by exact (ms_set (i := 3) (by exact sc__law_rows.nd) (by rfl) (by first | exact .inl rfl | exact .inr rfl) (by exact (me_callTy bTup (by rfl) (fr_tuple hP hC hX hG) (by decide +kernel) (by exact ma_cons (by exact (me_comp (ob := false) (own := [("s", 8)]) (by rfl) (by exact sc__law_rows.nd) (mi_rng1 (by rfl) (fr_range hP hC hX hG) (by exact ma_cons (by exact (me_rd (pv 1))) ma_nil)) (by exact blk_of (by rfl)) (fun _ _ _ _ _ => (pg_nm (by exact sc__law_rows.nd) (i := 8) (by rfl) (by first | exact .inl rfl | exact .inr rfl))) (fun _ _ _ _ _ => mts_nil) (fun _ _ _ _ _ => (by exact (mcl  (ok__law_draw hP hC hX hG) hr (by rfl) (g__law_draw hP hC hX hG) (by exact tk0) (by exact ma_cons (by exact (me_rd (pv 0))) (by exact ma_cons (by exact (me_rd (pv 1))) ma_nil))))))) ma_nil)))))
  (mss_cons (by exact (ms_set (i := 4) (by exact sc__law_rows.nd) (by rfl) (by first | exact .inl rfl | exact .inr rfl) (by exact (me_callTy bTup (by rfl) (fr_tuple hP hC hX hG) (by decide +kernel) (by exact ma_cons (by exact (me_comp (ob := false) (own := [("s", 8)]) (by rfl) (by exact sc__law_rows.nd) (mi_rng1 (by rfl) (fr_range hP hC hX hG) (by exact ma_cons (by exact (me_rd (pv 1))) ma_nil)) (by exact blk_of (by rfl)) (fun _ _ _ _ _ => (pg_nm (by exact sc__law_rows.nd) (i := 8) (by rfl) (by first | exact .inl rfl | exact .inr rfl))) (fun _ _ _ _ _ => mts_nil) (fun _ _ _ _ _ => (by exact (me_tup (by exact ma_cons (by exact (mcl  (ok__law_draw hP hC hX hG) hr (by rfl) (g__law_draw hP hC hX hG) (by exact tk0) (by exact ma_cons (by exact (me_rd (pv 0))) (by exact ma_cons (by exact (me_rd (pv 1))) ma_nil)))) (by exact ma_cons (by exact (mcl  (ok__law_draw hP hC hX hG) hr (by rfl) (g__law_draw hP hC hX hG) (by exact tk0) (by exact ma_cons (by exact (me_rd (pv 0))) (by exact ma_cons (by exact (me_rd (pv 1))) ma_nil)))) ma_nil))))))) ma_nil)))))
  (mss_cons (by exact (ms_set (i := 5) (by exact sc__law_rows.nd) (by rfl) (by first | exact .inl rfl | exact .inr rfl) (by exact (me_callTy bTup (by rfl) (fr_tuple hP hC hX hG) (by decide +kernel) (by exact ma_cons (by exact (me_comp (ob := false) (own := [("s", 8)]) (by rfl) (by exact sc__law_rows.nd) (mi_rng1 (by rfl) (fr_range hP hC hX hG) (by exact ma_cons (by exact (me_rd (pv 1))) ma_nil)) (by exact blk_of (by rfl)) (fun _ _ _ _ _ => (pg_nm (by exact sc__law_rows.nd) (i := 8) (by rfl) (by first | exact .inl rfl | exact .inr rfl))) (fun _ _ _ _ _ => mts_nil) (fun _ _ _ _ _ => (by exact (me_callTy bTup (by rfl) (fr_tuple hP hC hX hG) (by decide +kernel) (by exact ma_cons (by exact (me_comp (ob := false) (own := [("t", 9)]) (by rfl) (by exact sc__law_rows.nd) (mi_rng1 (by rfl) (fr_range hP hC hX hG) (by exact ma_cons (by exact (me_rd (pv 1))) ma_nil)) (by exact blk_of (by rfl)) (fun _ _ _ _ _ => (pg_nm (by exact sc__law_rows.nd) (i := 9) (by rfl) (by first | exact .inl rfl | exact .inr rfl))) (fun _ _ _ _ _ => mts_nil) (fun _ _ _ _ _ => (by exact (mcl  (ok__law_draw hP hC hX hG) hr (by rfl) (g__law_draw hP hC hX hG) (by exact tk0) (by exact ma_cons (by exact (me_rd (pv 0))) (by exact ma_cons (by exact (me_rd (pv 1))) ma_nil))))))) ma_nil)))))) ma_nil)))))
  (mss_cons (by exact (ms_set (i := 7) (by exact sc__law_rows.nd) (by rfl) (by first | exact .inl rfl | exact .inr rfl) (by exact (me_tl (by exact ma_cons me_str (by exact ma_cons me_str (by exact ma_cons me_str (by exact ma_cons me_str ma_nil))))))))
  (mss_cons (by exact (ms_set (i := 6) (by exact sc__law_rows.nd) (by rfl) (by first | exact .inl rfl | exact .inr rfl) (by exact (me_callTy bTup (by rfl) (fr_tuple hP hC hX hG) (by decide +kernel) (by exact ma_cons (by exact (me_comp (ob := false) (own := [("s", 8)]) (by rfl) (by exact sc__law_rows.nd) (mi_rng1 (by rfl) (fr_range hP hC hX hG) (by exact ma_cons (by exact (me_rd (pv 1))) ma_nil)) (by exact blk_of (by rfl)) (fun _ _ _ _ _ => (pg_nm (by exact sc__law_rows.nd) (i := 8) (by rfl) (by first | exact .inl rfl | exact .inr rfl))) (fun _ _ _ _ _ => mts_nil) (fun _ _ _ _ _ => (by exact (me_callTy bTup (by rfl) (fr_tuple hP hC hX hG) (by decide +kernel) (by exact ma_cons (by exact (me_comp (ob := false) (own := [("t", 9)]) (by rfl) (by exact sc__law_rows.nd) (mi_rng1 (by rfl) (fr_range hP hC hX hG) (by exact ma_cons (by exact (me_rd (pv 1))) ma_nil)) (by exact blk_of (by rfl)) (fun _ _ _ _ _ => (pg_nm (by exact sc__law_rows.nd) (i := 9) (by rfl) (by first | exact .inl rfl | exact .inr rfl))) (fun _ _ _ _ _ => mts_nil) (fun _ _ _ _ _ => (by exact (me_ix ixOk (by exact (me_rd (pv 7))) (by exact (mcl  (ok__law_draw hP hC hX hG) hr (by rfl) (g__law_draw hP hC hX hG) (by exact tk0) (by exact ma_cons (by exact (me_rd (pv 0))) (by exact ma_cons me_int ma_nil)))) (by intro _ _; rfl)))))) ma_nil)))))) ma_nil)))))
  (mss_one (by exact (ms_ret (by exact (me_tup (by exact ma_cons (by exact (mcl  (ok__law_draw hP hC hX hG) hr (by rfl) (g__law_draw hP hC hX hG) (by exact tkD) (by exact ma_cons (by exact (me_rd (pv 0))) (by exact ma_cons (by exact (me_rd (pv 1))) ma_nil)))) (by exact ma_cons (by exact (me_rd (pv 3))) (by exact ma_cons (by exact (me_rd (pv 4))) (by exact ma_cons (by exact (me_rd (pv 5))) (by exact ma_cons (by exact (me_if (by exact (mt_val (by exact (me_rd (pv 2))))) (by exact (me_rd (pv 6))) me_non)) ma_nil)))))))))))))))
theorem sc_is_integer : FnScope ["thing"] ["thing"] (defScope (top 5)) := ⟨rfl, rfl, rfl, by decide +kernel, rfl, by decide +kernel, by decide +kernel⟩
def b_is_integer : MS := (bndS (bnd (bnd (bnd (rd 0) fun d => bnd (bnd (ret (.ty "int")) fun d => bnd (ret []) fun ds => ret (d :: ds)) fun ds => ret (d :: ds)) fun ds => lo ((isiF TT.tf) ds)) fun x => bnd (lo (tb x)) fun k => if k = true then (bnd (bnd (bnd (rd 0) fun d => bnd (bnd (ret (.ty "bool")) fun d => bnd (ret []) fun ds => ret (d :: ds)) fun ds => ret (d :: ds)) fun ds => lo ((isiF TT.tf) ds)) fun x => bnd (lo (tb x)) fun k => ret (.bl (!k))) else ret (.bl false)) retS)
def f_is_integer : FM := (runF 1 b_is_integer)
theorem ok_is_integer (hP : P = hd.P) (hC : hd.says K) (hX : K.In h) (hG : h.Ns mainGlobals mg) : OkF P w K mg base 1 (He.ga K "is_integer") ["thing"] f_is_integer := okF_of (N := ["thing"]) (ps := ["thing"]) (k := 0) (b := b_is_integer) (Hd.def_ hC 9 (d := d_is_integer) rfl) sc_is_integer (fun fd F => FunD.bindsA F fun _ _ _ _ _ _ us hl => match us, hl with | [_], _ => rfl) fun cdv A outer s H E hr =>
  (mss_one (by exact (ms_ret (by exact (me_and (by exact (me_callB (bIsiT (T := TT.tf) (by exact ⟨(FX hC).toPF, rfl⟩)) (by rfl) (fr_isinstance hP hC hX hG) (by decide +kernel) (by exact ma_cons (by exact (me_rd (pv 0))) (by exact ma_cons (by exact (me_bty (by rfl) (fr_int hP hC hX hG) (by decide +kernel))) ma_nil)))) (me_one (by exact (me_not (by exact (me_callB (bIsiT (T := TT.tf) (by exact ⟨(FX hC).toPF, rfl⟩)) (by rfl) (fr_isinstance hP hC hX hG) (by decide +kernel) (by exact ma_cons (by exact (me_rd (pv 0))) (by exact ma_cons (by exact (me_bty (by rfl) (fr_bool hP hC hX hG) (by decide +kernel))) ma_nil))))))))))))
theorem sc_is_between : FnScope ["thing", "least", "most"] ["thing", "least", "most"] (defScope (top 6)) := ⟨rfl, rfl, rfl, by decide +kernel, rfl, by decide +kernel, by decide +kernel⟩
def b_is_between : MS := (bndS (bnd (bnd (bnd (rd 0) fun d => bnd (ret []) fun ds => ret (d :: ds)) (callM 1 f_is_integer)) fun x => bnd (lo (tb x)) fun k => if k = true then (bnd (rd 1) fun x => bnd (rd 0) fun y => chn leD leD x y (rd 2)) else ret (.bl false)) retS)
def f_is_between : FM := (runF 3 b_is_between)
theorem ok_is_between (hP : P = hd.P) (hC : hd.says K) (hX : K.In h) (hG : h.Ns mainGlobals mg) : OkF P w K mg base 2 (He.ga K "is_between") ["thing", "least", "most"] f_is_between := okF_of (N := ["thing", "least", "most"]) (ps := ["thing", "least", "most"]) (k := 1) (b := b_is_between) (Hd.def_ hC 10 (d := d_is_between) rfl) sc_is_between (fun fd F => FunD.bindsA F fun _ _ _ _ _ _ us hl => match us, hl with | [_, _, _], _ => rfl) fun cdv A outer s H E hr =>
  (mss_one (by exact (ms_ret (by exact (me_and (by exact (mcl  (ok_is_integer hP hC hX hG) hr (by rfl) (g_is_integer hP hC hX hG) (by exact tkD) (by exact ma_cons (by exact (me_rd (pv 0))) ma_nil))) (me_one (by exact (me_chain opLe opLe (by exact (me_rd (pv 1))) (by exact (me_rd (pv 0))) (by exact (me_rd (pv 2)))))))))))
theorem sc_is_index : FnScope ["thing", "many"] ["thing", "many"] (defScope (top 7)) := ⟨rfl, rfl, rfl, by decide +kernel, rfl, by decide +kernel, by decide +kernel⟩
def b_is_index : MS := (bndS (bnd (bnd (rd 0) fun d => bnd (bnd (ret (.int 0)) fun d => bnd (bnd (bnd (rd 1) fun x => bnd (ret (.int 1)) fun y => lo (subD x y)) fun d => bnd (ret []) fun ds => ret (d :: ds)) fun ds => ret (d :: ds)) fun ds => ret (d :: ds)) (callM 3 f_is_between)) retS)
def f_is_index : FM := (runF 2 b_is_index)
theorem ok_is_index (hP : P = hd.P) (hC : hd.says K) (hX : K.In h) (hG : h.Ns mainGlobals mg) : OkF P w K mg base 3 (He.ga K "is_index") ["thing", "many"] f_is_index := okF_of (N := ["thing", "many"]) (ps := ["thing", "many"]) (k := 2) (b := b_is_index) (Hd.def_ hC 11 (d := d_is_index) rfl) sc_is_index (fun fd F => FunD.bindsA F fun _ _ _ _ _ _ us hl => match us, hl with | [_, _], _ => rfl) fun cdv A outer s H E hr =>
  (mss_one (by exact (ms_ret (by exact (mcl  (ok_is_between hP hC hX hG) hr (by rfl) (g_is_between hP hC hX hG) (by exact tkD) (by exact ma_cons (by exact (me_rd (pv 0))) (by exact ma_cons me_int (by exact ma_cons (by exact (me_bin opSub (by exact (me_rd (pv 1))) me_int)) ma_nil))))))))
theorem sc_is_tuple_of : FnScope ["thing", "many"] ["thing", "many"] (defScope (top 8)) := ⟨rfl, rfl, rfl, by decide +kernel, rfl, by decide +kernel, by decide +kernel⟩
def b_is_tuple_of : MS := (bndS (bnd (bnd (bnd (rd 0) fun d => bnd (bnd (ret (.ty "tuple")) fun d => bnd (ret []) fun ds => ret (d :: ds)) fun ds => ret (d :: ds)) fun ds => lo ((isiF TT.tf) ds)) fun x => bnd (lo (tb x)) fun k => if k = true then (bnd (bnd (bnd (rd 0) fun d => bnd (ret []) fun ds => ret (d :: ds)) fun ds => lo (lenF ds)) fun x => bnd (rd 1) fun y => lo (eqD x y)) else ret (.bl false)) retS)
def f_is_tuple_of : FM := (runF 2 b_is_tuple_of)
theorem ok_is_tuple_of (hP : P = hd.P) (hC : hd.says K) (hX : K.In h) (hG : h.Ns mainGlobals mg) : OkF P w K mg base 1 (He.ga K "is_tuple_of") ["thing", "many"] f_is_tuple_of := okF_of (N := ["thing", "many"]) (ps := ["thing", "many"]) (k := 0) (b := b_is_tuple_of) (Hd.def_ hC 12 (d := d_is_tuple_of) rfl) sc_is_tuple_of (fun fd F => FunD.bindsA F fun _ _ _ _ _ _ us hl => match us, hl with | [_, _], _ => rfl) fun cdv A outer s H E hr =>
  (mss_one (by exact (ms_ret (by exact (me_and (by exact (me_callB (bIsiT (T := TT.tf) (by exact ⟨(FX hC).toPF, rfl⟩)) (by rfl) (fr_isinstance hP hC hX hG) (by decide +kernel) (by exact ma_cons (by exact (me_rd (pv 0))) (by exact ma_cons (by exact (me_bty (by rfl) (fr_tuple hP hC hX hG) (by decide +kernel))) ma_nil)))) (me_one (by exact (me_cmp (opEq (by exact hr.units)) (by exact (me_callB bLen (by rfl) (fr_len hP hC hX hG) (by decide +kernel) (by exact ma_cons (by exact (me_rd (pv 0))) ma_nil))) (by exact (me_rd (pv 1))) (nomark _)))))))))
theorem sc_are_stamps : FnScope ["thing", "many", "stock", "stamp"] ["thing", "many", "stock"] (defScope (top 16)) := ⟨rfl, rfl, rfl, by decide +kernel, rfl, by decide +kernel, by decide +kernel⟩
def b_are_stamps : MS := (bndS (bnd (bnd (bnd (rd 0) fun d => bnd (bnd (rd 1) fun d => bnd (ret []) fun ds => ret (d :: ds)) fun ds => ret (d :: ds)) (callM 2 f_is_tuple_of)) fun x => bnd (lo (tb x)) fun k => if k = true then (bnd (bnd (bnd (bnd (rd 0) fun d => lo (toSrc d)) (compD false (.nm 3) yes (bnd (bnd (rd 3) fun d => bnd (bnd (rd 2) fun d => bnd (ret []) fun ds => ret (d :: ds)) fun ds => ret (d :: ds)) (callM 2 f_is_index)) [3])) fun d => bnd (ret []) fun ds => ret (d :: ds)) fun ds => lo (allF ds)) else ret (.bl false)) retS)
def f_are_stamps : FM := (runF 4 b_are_stamps)
theorem ok_are_stamps (hP : P = hd.P) (hC : hd.says K) (hX : K.In h) (hG : h.Ns mainGlobals mg) : OkF P w K mg base 4 (He.ga K "are_stamps") ["thing", "many", "stock"] f_are_stamps := okF_of (N := ["thing", "many", "stock", "stamp"]) (ps := ["thing", "many", "stock"]) (k := 3) (b := b_are_stamps) (Hd.def_ hC 13 (d := d_are_stamps) rfl) sc_are_stamps (fun fd F => FunD.bindsA F fun _ _ _ _ _ _ us hl => match us, hl with | [_, _, _], _ => rfl) fun cdv A outer s H E hr =>
  (mss_one (by exact (ms_ret (by exact (me_and (by exact (mcl  (ok_is_tuple_of hP hC hX hG) hr (by rfl) (g_is_tuple_of hP hC hX hG) (by exact tkD) (by exact ma_cons (by exact (me_rd (pv 0))) (by exact ma_cons (by exact (me_rd (pv 1))) ma_nil)))) (me_one (by exact (me_callB (bAll (by rfl)) (by rfl) (fr_all hP hC hX hG) (by decide +kernel) (by exact ma_cons (by exact (me_comp (ob := false) (own := [("stamp", 3)]) (by rfl) (by exact sc_are_stamps.nd) (mi_seq (by exact (me_rd (pv 0)))) (by exact blk_of (by rfl)) (fun _ _ _ _ _ => (pg_nm (by exact sc_are_stamps.nd) (i := 3) (by rfl) (by first | exact .inl rfl | exact .inr rfl))) (fun _ _ _ _ _ => mts_nil) (fun _ _ _ _ _ => (by exact (mcl  (ok_is_index hP hC hX hG) hr (by rfl) (g_is_index hP hC hX hG) (by exact tk0) (by exact ma_cons (by exact (me_rd (pv 3))) (by exact ma_cons (by exact (me_rd (pv 2))) ma_nil))))))) ma_nil)))))))))
theorem sc_are_words : FnScope ["thing", "many", "word"] ["thing", "many"] (defScope (top 17)) := ⟨rfl, rfl, rfl, by decide +kernel, rfl, by decide +kernel, by decide +kernel⟩
def b_are_words : MS := (bndS (bnd (bnd (bnd (rd 0) fun d => bnd (bnd (rd 1) fun d => bnd (ret []) fun ds => ret (d :: ds)) fun ds => ret (d :: ds)) (callM 2 f_is_tuple_of)) fun x => bnd (lo (tb x)) fun k => if k = true then (bnd (bnd (bnd (bnd (rd 0) fun d => lo (toSrc d)) (compD false (.nm 2) yes (bnd (bnd (bnd (rd 2) fun d => bnd (bnd (ret (.ty "str")) fun d => bnd (ret []) fun ds => ret (d :: ds)) fun ds => ret (d :: ds)) fun ds => lo ((isiF TT.tf) ds)) fun x => bnd (lo (tb x)) fun k => if k = true then (bnd (rd 2) fun x => bnd (ret (.tup ((["same", "newer", "elder", "apart"] : List Str).map D.str))) fun y => lo ((inD false) x y)) else ret (.bl false)) [2])) fun d => bnd (ret []) fun ds => ret (d :: ds)) fun ds => lo (allF ds)) else ret (.bl false)) retS)
def f_are_words : FM := (runF 3 b_are_words)
theorem ok_are_words (hP : P = hd.P) (hC : hd.says K) (hX : K.In h) (hG : h.Ns mainGlobals mg) : OkF P w K mg base 2 (He.ga K "are_words") ["thing", "many"] f_are_words := okF_of (N := ["thing", "many", "word"]) (ps := ["thing", "many"]) (k := 1) (b := b_are_words) (Hd.def_ hC 14 (d := d_are_words) rfl) sc_are_words (fun fd F => FunD.bindsA F fun _ _ _ _ _ _ us hl => match us, hl with | [_, _], _ => rfl) fun cdv A outer s H E hr =>
  (mss_one (by exact (ms_ret (by exact (me_and (by exact (mcl  (ok_is_tuple_of hP hC hX hG) hr (by rfl) (g_is_tuple_of hP hC hX hG) (by exact tkD) (by exact ma_cons (by exact (me_rd (pv 0))) (by exact ma_cons (by exact (me_rd (pv 1))) ma_nil)))) (me_one (by exact (me_callB (bAll (by rfl)) (by rfl) (fr_all hP hC hX hG) (by decide +kernel) (by exact ma_cons (by exact (me_comp (ob := false) (own := [("word", 2)]) (by rfl) (by exact sc_are_words.nd) (mi_seq (by exact (me_rd (pv 0)))) (by exact blk_of (by rfl)) (fun _ _ _ _ _ => (pg_nm (by exact sc_are_words.nd) (i := 2) (by rfl) (by first | exact .inl rfl | exact .inr rfl))) (fun _ _ _ _ _ => mts_nil) (fun _ _ _ _ _ => (by exact (me_and (by exact (me_callB (bIsiT (T := TT.tf) (by exact ⟨(FX hC).toPF, rfl⟩)) (by rfl) (fr_isinstance hP hC hX hG) (by decide +kernel) (by exact ma_cons (by exact (me_rd (pv 2))) (by exact ma_cons (by exact (me_bty (by rfl) (fr_str hP hC hX hG) (by decide +kernel))) ma_nil)))) (me_one (by exact (me_cmp opIn (by exact (me_rd (pv 2))) (by exact (me_gval (by rfl) (g_WORDS hP hC hX hG) (tupSB_ok (t_WORDS hC)))) (by rfl))))))))) ma_nil)))))))))
theorem sc_wrong_part : FnScope ["first", "changes", "forks", "joins", "looks", "many", "pair", "row"] ["first", "changes", "forks", "joins", "looks"] (defScope (top 18)) := ⟨rfl, rfl, rfl, by decide +kernel, rfl, by decide +kernel, by decide +kernel⟩
def b_wrong_part : MS := (seqS (bndS (bnd (bnd (bnd (bnd (rd 1) fun d => bnd (bnd (ret (.ty "tuple")) fun d => bnd (ret []) fun ds => ret (d :: ds)) fun ds => ret (d :: ds)) fun ds => lo ((isiF TT.tf) ds)) fun d => lo (tb d)) fun k => if k = true then (bnd (bnd (rd 1) fun d => bnd (ret []) fun ds => ret (d :: ds)) fun ds => lo (lenF ds)) else (ret (.int 0))) (setS 5))
  (seqS (bndS (bnd (bnd (bnd (bnd (ret (.int 1)) fun x => bnd (rd 5) fun y => chn leD leD x y (ret (.int 400))) fun d => lo (tb d)) fun k => ret (!k)) fun k => if k = true then ret true else (bnd (bnd (bnd (bnd (rd 1) fun d => bnd (bnd (rd 5) fun d => bnd (bnd (rd 5) fun d => bnd (ret []) fun ds => ret (d :: ds)) fun ds => ret (d :: ds)) fun ds => ret (d :: ds)) (callM 3 f_are_stamps)) fun d => lo (tb d)) fun k => ret (!k))) fun x => if x = true then (bndS (ret (.str "changes")) retS) else nxtS)
  (seqS (bndS (bnd (bnd (bnd (bnd (rd 0) fun d => bnd (bnd (rd 5) fun d => bnd (ret []) fun ds => ret (d :: ds)) fun ds => ret (d :: ds)) (callM 2 f_is_index)) fun d => lo (tb d)) fun k => ret (!k)) fun x => if x = true then (bndS (ret (.str "first")) retS) else nxtS)
  (seqS (bndS (bnd (bnd (bnd (bnd (bnd (rd 2) fun d => bnd (bnd (rd 5) fun d => bnd (ret []) fun ds => ret (d :: ds)) fun ds => ret (d :: ds)) (callM 2 f_is_tuple_of)) fun d => lo (tb d)) fun k => ret (!k)) fun k => if k = true then ret true else (bnd (bnd (bnd (bnd (bnd (bnd (rd 2) fun d => lo (toSrc d)) (compD false (.nm 6) yes (bnd (bnd (rd 6) fun d => bnd (bnd (ret (.int 2)) fun d => bnd (bnd (rd 5) fun d => bnd (ret []) fun ds => ret (d :: ds)) fun ds => ret (d :: ds)) fun ds => ret (d :: ds)) (callM 3 f_are_stamps)) [6])) fun d => bnd (ret []) fun ds => ret (d :: ds)) fun ds => lo (allF ds)) fun d => lo (tb d)) fun k => ret (!k))) fun x => if x = true then (bndS (ret (.str "forks")) retS) else nxtS)
  (seqS (bndS (bnd (bnd (bnd (bnd (bnd (rd 3) fun d => bnd (bnd (rd 5) fun d => bnd (ret []) fun ds => ret (d :: ds)) fun ds => ret (d :: ds)) (callM 2 f_is_tuple_of)) fun d => lo (tb d)) fun k => ret (!k)) fun k => if k = true then ret true else (bnd (bnd (bnd (bnd (bnd (bnd (rd 3) fun d => lo (toSrc d)) (compD false (.nm 7) yes (bnd (bnd (rd 7) fun d => bnd (bnd (rd 5) fun d => bnd (bnd (rd 5) fun d => bnd (ret []) fun ds => ret (d :: ds)) fun ds => ret (d :: ds)) fun ds => ret (d :: ds)) (callM 3 f_are_stamps)) [7])) fun d => bnd (ret []) fun ds => ret (d :: ds)) fun ds => lo (allF ds)) fun d => lo (tb d)) fun k => ret (!k))) fun x => if x = true then (bndS (ret (.str "joins")) retS) else nxtS)
  (seqS (bndS (bnd (bnd (rd 4) fun x => bnd (ret .non) fun y => bnd (lo (isntD x y)) fun d => lo (tb d)) fun k => if k = true then (bnd (bnd (bnd (bnd (bnd (rd 4) fun d => bnd (bnd (rd 5) fun d => bnd (ret []) fun ds => ret (d :: ds)) fun ds => ret (d :: ds)) (callM 2 f_is_tuple_of)) fun d => lo (tb d)) fun k => if k = true then (bnd (bnd (bnd (bnd (bnd (rd 4) fun d => lo (toSrc d)) (compD false (.nm 7) yes (bnd (bnd (rd 7) fun d => bnd (bnd (rd 5) fun d => bnd (ret []) fun ds => ret (d :: ds)) fun ds => ret (d :: ds)) (callM 2 f_are_words)) [7])) fun d => bnd (ret []) fun ds => ret (d :: ds)) fun ds => lo (allF ds)) fun d => lo (tb d)) else ret false) fun k => ret (!k)) else ret false) fun x => if x = true then (bndS (ret (.str "looks")) retS) else nxtS)
  (bndS (ret .non) retS)))))))
def f_wrong_part : FM := (runF 8 b_wrong_part)
theorem ok_wrong_part (hP : P = hd.P) (hC : hd.says K) (hX : K.In h) (hG : h.Ns mainGlobals mg) : OkF P w K mg base 5 (He.ga K "wrong_part") ["first", "changes", "forks", "joins", "looks"] f_wrong_part := okF_of (N := ["first", "changes", "forks", "joins", "looks", "many", "pair", "row"]) (ps := ["first", "changes", "forks", "joins", "looks"]) (k := 4) (b := b_wrong_part) (Hd.def_ hC 15 (d := d_wrong_part) rfl) sc_wrong_part (fun fd F => FunD.bindsA F fun _ _ _ _ _ _ us hl => match us, hl with | [_, _, _, _, _], _ => rfl) fun cdv A outer s H E hr =>
  (mss_cons (by exact (ms_set (i := 5) (by exact sc_wrong_part.nd) (by rfl) (by first | exact .inl rfl | exact .inr rfl) (by exact (me_if (by exact (mt_val (by exact (me_callB (bIsiT (T := TT.tf) (by exact ⟨(FX hC).toPF, rfl⟩)) (by rfl) (fr_isinstance hP hC hX hG) (by decide +kernel) (by exact ma_cons (by exact (me_rd (pv 1))) (by exact ma_cons (by exact (me_bty (by rfl) (fr_tuple hP hC hX hG) (by decide +kernel))) ma_nil)))))) (by exact (me_callB bLen (by rfl) (fr_len hP hC hX hG) (by decide +kernel) (by exact ma_cons (by exact (me_rd (pv 1))) ma_nil))) me_int))))
  (mss_cons (by exact (ms_if (by exact (mt_w (mw_or (by exact (mt_not (by exact (mt_chain opLe opLe me_int (by exact (me_rd (pv 5))) (by exact (me_gint (by rfl) (g_MOST_STAMPS hP hC hX hG))))))) (mw_or1 (by exact (mt_not (by exact (mt_val (by exact (mcl  (ok_are_stamps hP hC hX hG) hr (by rfl) (g_are_stamps hP hC hX hG) (by exact tkD) (by exact ma_cons (by exact (me_rd (pv 1))) (by exact ma_cons (by exact (me_rd (pv 5))) (by exact ma_cons (by exact (me_rd (pv 5))) ma_nil))))))))))))) (mss_one (by exact (ms_ret me_str))) mss_nil))
  (mss_cons (by exact (ms_if (by exact (mt_not (by exact (mt_val (by exact (mcl  (ok_is_index hP hC hX hG) hr (by rfl) (g_is_index hP hC hX hG) (by exact tkD) (by exact ma_cons (by exact (me_rd (pv 0))) (by exact ma_cons (by exact (me_rd (pv 5))) ma_nil)))))))) (mss_one (by exact (ms_ret me_str))) mss_nil))
  (mss_cons (by exact (ms_if (by exact (mt_w (mw_or (by exact (mt_not (by exact (mt_val (by exact (mcl  (ok_is_tuple_of hP hC hX hG) hr (by rfl) (g_is_tuple_of hP hC hX hG) (by exact tkD) (by exact ma_cons (by exact (me_rd (pv 2))) (by exact ma_cons (by exact (me_rd (pv 5))) ma_nil)))))))) (mw_or1 (by exact (mt_not (by exact (mt_val (by exact (me_callB (bAll (by rfl)) (by rfl) (fr_all hP hC hX hG) (by decide +kernel) (by exact ma_cons (by exact (me_comp (ob := false) (own := [("pair", 6)]) (by rfl) (by exact sc_wrong_part.nd) (mi_seq (by exact (me_rd (pv 2)))) (by exact blk_of (by rfl)) (fun _ _ _ _ _ => (pg_nm (by exact sc_wrong_part.nd) (i := 6) (by rfl) (by first | exact .inl rfl | exact .inr rfl))) (fun _ _ _ _ _ => mts_nil) (fun _ _ _ _ _ => (by exact (mcl  (ok_are_stamps hP hC hX hG) hr (by rfl) (g_are_stamps hP hC hX hG) (by exact tk0) (by exact ma_cons (by exact (me_rd (pv 6))) (by exact ma_cons me_int (by exact ma_cons (by exact (me_rd (pv 5))) ma_nil)))))))) ma_nil))))))))))) (mss_one (by exact (ms_ret me_str))) mss_nil))
  (mss_cons (by exact (ms_if (by exact (mt_w (mw_or (by exact (mt_not (by exact (mt_val (by exact (mcl  (ok_is_tuple_of hP hC hX hG) hr (by rfl) (g_is_tuple_of hP hC hX hG) (by exact tkD) (by exact ma_cons (by exact (me_rd (pv 3))) (by exact ma_cons (by exact (me_rd (pv 5))) ma_nil)))))))) (mw_or1 (by exact (mt_not (by exact (mt_val (by exact (me_callB (bAll (by rfl)) (by rfl) (fr_all hP hC hX hG) (by decide +kernel) (by exact ma_cons (by exact (me_comp (ob := false) (own := [("row", 7)]) (by rfl) (by exact sc_wrong_part.nd) (mi_seq (by exact (me_rd (pv 3)))) (by exact blk_of (by rfl)) (fun _ _ _ _ _ => (pg_nm (by exact sc_wrong_part.nd) (i := 7) (by rfl) (by first | exact .inl rfl | exact .inr rfl))) (fun _ _ _ _ _ => mts_nil) (fun _ _ _ _ _ => (by exact (mcl  (ok_are_stamps hP hC hX hG) hr (by rfl) (g_are_stamps hP hC hX hG) (by exact tk0) (by exact ma_cons (by exact (me_rd (pv 7))) (by exact ma_cons (by exact (me_rd (pv 5))) (by exact ma_cons (by exact (me_rd (pv 5))) ma_nil)))))))) ma_nil))))))))))) (mss_one (by exact (ms_ret me_str))) mss_nil))
  (mss_cons (by exact (ms_if (by exact (mt_w (mw_and (by exact (mt_cmp opIsnt (by exact (me_rd (pv 4))) me_non (nomark _))) (mw_and1 (by exact (mt_not (by exact (mt_w (mw_and (by exact (mt_val (by exact (mcl  (ok_is_tuple_of hP hC hX hG) hr (by rfl) (g_is_tuple_of hP hC hX hG) (by exact tkD) (by exact ma_cons (by exact (me_rd (pv 4))) (by exact ma_cons (by exact (me_rd (pv 5))) ma_nil)))))) (mw_and1 (by exact (mt_val (by exact (me_callB (bAll (by rfl)) (by rfl) (fr_all hP hC hX hG) (by decide +kernel) (by exact ma_cons (by exact (me_comp (ob := false) (own := [("row", 7)]) (by rfl) (by exact sc_wrong_part.nd) (mi_seq (by exact (me_rd (pv 4)))) (by exact blk_of (by rfl)) (fun _ _ _ _ _ => (pg_nm (by exact sc_wrong_part.nd) (i := 7) (by rfl) (by first | exact .inl rfl | exact .inr rfl))) (fun _ _ _ _ _ => mts_nil) (fun _ _ _ _ _ => (by exact (mcl  (ok_are_words hP hC hX hG) hr (by rfl) (g_are_words hP hC hX hG) (by exact tk0) (by exact ma_cons (by exact (me_rd (pv 7))) (by exact ma_cons (by exact (me_rd (pv 5))) ma_nil))))))) ma_nil))))))))))))))) (mss_one (by exact (ms_ret me_str))) mss_nil))
  (mss_one (by exact (ms_ret me_non)))))))))
theorem sc_Book____init__ : FnScope ["self", "first", "changes", "forks", "joins", "looks", "part"] ["self", "first", "changes", "forks", "joins", "looks"] (defScope (inCls (top 19) 0)) := ⟨rfl, rfl, rfl, by decide +kernel, rfl, by decide +kernel, by decide +kernel⟩
def b_Book____init__ : MS := (seqS (bndS (bnd (bnd (rd 1) fun d => bnd (bnd (rd 2) fun d => bnd (bnd (rd 3) fun d => bnd (bnd (rd 4) fun d => bnd (bnd (rd 5) fun d => bnd (ret []) fun ds => ret (d :: ds)) fun ds => ret (d :: ds)) fun ds => ret (d :: ds)) fun ds => ret (d :: ds)) fun ds => ret (d :: ds)) (callM 5 f_wrong_part)) (setS 6))
  (seqS (bndS (bnd (rd 6) fun x => bnd (ret .non) fun y => bnd (lo (isntD x y)) fun d => lo (tb d)) fun x => if x = true then (rzS "BadBook" "part" (bnd (rd 6) fun d => bnd (ret []) fun ds => ret (d :: ds))) else nxtS)
  (seqS (bndS (rd 1) fun y => bndS (rd 0) fun x => setFld TT.tf "first" y x)
  (seqS (bndS (rd 2) fun y => bndS (rd 0) fun x => setFld TT.tf "changes" y x)
  (seqS (bndS (rd 3) fun y => bndS (rd 0) fun x => setFld TT.tf "forks" y x)
  (seqS (bndS (rd 4) fun y => bndS (rd 0) fun x => setFld TT.tf "joins" y x)
  (bndS (rd 5) fun y => bndS (rd 0) fun x => setFld TT.tf "looks" y x)))))))
def f_Book____init__ : FM := (runF 7 b_Book____init__)
theorem ok_Book____init__ (hP : P = hd.P) (hC : hd.says K) (hX : K.In h) (hG : h.Ns mainGlobals mg) : OkF P w K mg base 6 (He.ma K (He.ga K "Book") "__init__") ["self", "first", "changes", "forks", "joins", "looks"] f_Book____init__ := okF_of (N := ["self", "first", "changes", "forks", "joins", "looks", "part"]) (ps := ["self", "first", "changes", "forks", "joins", "looks"]) (k := 5) (b := b_Book____init__) (Hd.def_ hC 16 (d := d_Book____init__) rfl) sc_Book____init__ (fun fd F => FunD.bindsA F fun _ _ _ _ _ _ us hl => match us, hl with | [_, _, _, _, _, _], _ => rfl) fun cdv A outer s H E hr =>
  (mss_cons (by exact (ms_set (i := 6) (by exact sc_Book____init__.nd) (by rfl) (by first | exact .inl rfl | exact .inr rfl) (by exact (mcl  (ok_wrong_part hP hC hX hG) hr (by rfl) (g_wrong_part hP hC hX hG) (by exact tkD) (by exact ma_cons (by exact (me_rd (pv 1))) (by exact ma_cons (by exact (me_rd (pv 2))) (by exact ma_cons (by exact (me_rd (pv 3))) (by exact ma_cons (by exact (me_rd (pv 4))) (by exact ma_cons (by exact (me_rd (pv 5))) ma_nil)))))))))
  (mss_cons (by exact (ms_if (by exact (mt_cmp opIsnt (by exact (me_rd (pv 6))) me_non (nomark _))) (mss_one (by exact (ms_raise1 (by rfl) (by exact tkD) (sup_BadBook hP hC hX hG) (g_BadBook hP hC hX hG) hr (by rfl) (by exact ma_cons (by exact (me_rd (pv 6))) ma_nil)))) mss_nil))
  (mss_cons (by exact (ms_setfld (FX hC) (by exact (me_rd (pv 1))) (by exact (me_rd (pv 0)))))
  (mss_cons (by exact (ms_setfld (FX hC) (by exact (me_rd (pv 2))) (by exact (me_rd (pv 0)))))
  (mss_cons (by exact (ms_setfld (FX hC) (by exact (me_rd (pv 3))) (by exact (me_rd (pv 0)))))
  (mss_cons (by exact (ms_setfld (FX hC) (by exact (me_rd (pv 4))) (by exact (me_rd (pv 0)))))
  (mss_one (by exact (ms_setfld (FX hC) (by exact (me_rd (pv 5))) (by exact (me_rd (pv 0))))))))))))
theorem sc__law_told : FnScope ["rows", "e", "made", "told"] ["rows"] (defScope (top 28)) := ⟨rfl, rfl, rfl, by decide +kernel, rfl, by decide +kernel, by decide +kernel⟩
def b__law_told : MS := (seqS (bndS (ret (.str "let")) (setS 3))
  (seqS (tryS (TT.emF (.inr "BadBook")) 1 (seqS (bndS (bnd (bnd (bnd (rd 0) fun x => bnd (ret (.int 0)) fun y => lo (ixD x y)) fun d => bnd (bnd (bnd (rd 0) fun x => bnd (ret (.int 1)) fun y => lo (ixD x y)) fun d => bnd (bnd (bnd (rd 0) fun x => bnd (ret (.int 2)) fun y => lo (ixD x y)) fun d => bnd (bnd (bnd (rd 0) fun x => bnd (ret (.int 3)) fun y => lo (ixD x y)) fun d => bnd (bnd (bnd (rd 0) fun x => bnd (ret (.int 4)) fun y => lo (ixD x y)) fun d => bnd (ret []) fun ds => ret (d :: ds)) fun ds => ret (d :: ds)) fun ds => ret (d :: ds)) fun ds => ret (d :: ds)) fun ds => ret (d :: ds)) (mkI "Book" 6 f_Book____init__)) (setS 2))
  (bndS (bnd (bnd (bnd (bnd (rd 2) fun x => lo (fldD TT.tf "first" x)) fun d => bnd (bnd (bnd (rd 2) fun x => lo (fldD TT.tf "changes" x)) fun d => bnd (bnd (bnd (rd 2) fun x => lo (fldD TT.tf "forks" x)) fun d => bnd (bnd (bnd (rd 2) fun x => lo (fldD TT.tf "joins" x)) fun d => bnd (bnd (bnd (rd 2) fun x => lo (fldD TT.tf "looks" x)) fun d => bnd (ret []) fun ds => ret (d :: ds)) fun ds => ret (d :: ds)) fun ds => ret (d :: ds)) fun ds => ret (d :: ds)) fun ds => ret (d :: ds)) fun ds => lo (mkT ds)) fun x => bnd (rd 0) fun y => bnd (lo (neD x y)) fun d => lo (tb d)) fun x => if x = true then (bndS (ret (.str "otherwise")) (setS 3)) else nxtS)) (fun e => (bndS (bnd (bnd (bnd (bnd (ret (.glo "CopyError")) fun x => lo (isE TT.tf e.c x)) fun d => lo (tb d)) fun k => if k = true then (bnd (bnd (ret (.ty "ValueError")) fun x => lo (isE TT.tf e.c x)) fun d => lo (tb d)) else ret false) fun k => if k = true then (lo (xfE TT.tf e "part")) else (ret (.str "other"))) (setS 3))))
  (bndS (rd 3) retS)))
def f__law_told : FM := (runF 4 b__law_told)
theorem ok__law_told (hP : P = hd.P) (hC : hd.says K) (hX : K.In h) (hG : h.Ns mainGlobals mg) : OkF P w K mg base 8 (He.ga K "_law_told") ["rows"] f__law_told := okF_of (N := ["rows", "e", "made", "told"]) (ps := ["rows"]) (k := 7) (b := b__law_told) (Hd.def_ hC 17 (d := d__law_told) rfl) sc__law_told (fun fd F => FunD.bindsA F fun _ _ _ _ _ _ us hl => match us, hl with | [_], _ => rfl) fun cdv A outer s H E hr =>
  (mss_cons (by exact (ms_set (i := 3) (by exact sc__law_told.nd) (by rfl) (by first | exact .inl rfl | exact .inr rfl) me_str))
  (mss_cons (by exact (ms_try_as (i := 1) (by rfl) (by intros; trivial) (by rfl) (by rfl) (by exact sc__law_told.nd) (by rfl) (by rfl) (by exact ⟨rfl, by decide, .inl (g_BadBook hP hC hX hG)⟩) (by exact tkD) (Tab.em_ok (Hd.tok hC)) (fun w pn xe t o => (mss_cons (by exact (ms_set (i := 2) (by exact sc__law_told.nd) (by rfl) (by first | exact .inl rfl | exact .inr rfl) (by exact (mmk (mk_Book hC) (ok_Book____init__ hP hC hX hG) hr (by rfl) (g_Book hP hC hX hG) (by exact t) (by exact ma_cons (by exact (me_ix ixOk (by exact (me_rd (pv 0))) me_int (by intro _ _; rfl))) (by exact ma_cons (by exact (me_ix ixOk (by exact (me_rd (pv 0))) me_int (by intro _ _; rfl))) (by exact ma_cons (by exact (me_ix ixOk (by exact (me_rd (pv 0))) me_int (by intro _ _; rfl))) (by exact ma_cons (by exact (me_ix ixOk (by exact (me_rd (pv 0))) me_int (by intro _ _; rfl))) (by exact ma_cons (by exact (me_ix ixOk (by exact (me_rd (pv 0))) me_int (by intro _ _; rfl))) ma_nil)))))))))
  (mss_one (by exact (ms_if (by exact (mt_cmp (opNe (by exact hr.units)) (by exact (me_tup (by exact ma_cons (by exact (me_fld (FX hC) (by exact (me_rd (pv 2))))) (by exact ma_cons (by exact (me_fld (FX hC) (by exact (me_rd (pv 2))))) (by exact ma_cons (by exact (me_fld (FX hC) (by exact (me_rd (pv 2))))) (by exact ma_cons (by exact (me_fld (FX hC) (by exact (me_rd (pv 2))))) (by exact ma_cons (by exact (me_fld (FX hC) (by exact (me_rd (pv 2))))) ma_nil))))))) (by exact (me_rd (pv 0))) (nomark _))) (mss_one (by exact (ms_set (i := 3) (by exact sc__law_told.nd) (by rfl) (by first | exact .inl rfl | exact .inr rfl) me_str))) mss_nil))))) (fun a oe cls d pn e hz hd hcl hke => have hkE : ∀ C, TT.emF (.inr "BadBook") C = some true → (FX hC).T.ec C = true := hk_BadBook hC; (mss_one (by exact (ms_set (i := 3) (by exact sc__law_told.nd) (by rfl) (by first | exact .inl rfl | exact .inr rfl) (by exact (me_if (by exact (mt_w (mw_and (by exact (mt_val (by exact (me_isE (FX hC) hz hd hcl (hkE _ hke) (by rfl) (by first | exact Or.inl rfl | exact Or.inr (Or.inl rfl) | exact Or.inr (Or.inr rfl)) (by rfl) (fr_isinstance hP hC hX hG) (by exact (me_glo (by rfl) (g_CopyError hP hC hX hG))))))) (mw_and1 (by exact (mt_val (by exact (me_isE (FX hC) hz hd hcl (hkE _ hke) (by rfl) (by first | exact Or.inl rfl | exact Or.inr (Or.inl rfl) | exact Or.inr (Or.inr rfl)) (by rfl) (fr_isinstance hP hC hX hG) (by exact (me_bty (by rfl) (fr_ValueError hP hC hX hG) (by decide +kernel))))))))))) (by exact (me_xfE (FX hC) hz hd hcl (by rfl) (by first | exact Or.inl rfl | exact Or.inr (Or.inl rfl) | exact Or.inr (Or.inr rfl)))) me_str)) (hfx := by intro p hp; cases hp with | head => exact Nat.ne_of_beq_eq_false rfl | tail _ z => cases z)))))))
  (mss_one (by exact (ms_ret (by exact (me_rd (pv 3))))))))
theorem sc_law : FnScope ["script", "again", "at", "bent", "hand", "many", "odd", "rows", "turn"] ["script"] (defScope (top 31)) := ⟨rfl, rfl, rfl, by decide +kernel, rfl, by decide +kernel, by decide +kernel⟩
def b_law : MS := (seqS (bndS (bnd (bnd (rd 0) fun d => bnd (ret []) fun ds => ret (d :: ds)) (callM 1 f__law_pot)) (setS 4))
  (seqS (bndS (bnd (bnd (ret (.int 10)) fun d => bnd (ret []) fun ds => ret (d :: ds)) fun ds => lo (toRng1 ds)) (forS (.nm 8) (seqS (bndS (bnd (ret (.int 1)) fun x => bnd (bnd (bnd (rd 4) fun d => bnd (bnd (ret (.int 6)) fun d => bnd (ret []) fun ds => ret (d :: ds)) fun ds => ret (d :: ds)) (callM 2 f__law_draw)) fun y => lo (addD x y)) (setS 5))
  (seqS (bndS (bnd (bnd (rd 4) fun d => bnd (bnd (rd 5) fun d => bnd (bnd (bnd (bnd (bnd (rd 4) fun d => bnd (bnd (ret (.int 3)) fun d => bnd (ret []) fun ds => ret (d :: ds)) fun ds => ret (d :: ds)) (callM 2 f__law_draw)) fun x => bnd (ret (.int 0)) fun y => lo (gtD x y)) fun d => bnd (ret []) fun ds => ret (d :: ds)) fun ds => ret (d :: ds)) fun ds => ret (d :: ds)) (callM 3 f__law_rows)) (setS 7))
  (seqS (bndS (bnd (bnd (bnd (rd 7) fun d => bnd (ret []) fun ds => ret (d :: ds)) (callM 1 f__law_told)) fun x => bnd (ret (.str "let")) fun y => bnd (lo (neD x y)) fun d => lo (tb d)) fun x => if x = true then (bndS (ret (.bl false)) retS) else nxtS)
  (seqS (bndS (bnd (bnd (ret .non) fun d => bnd (bnd (ret (.bl true)) fun d => bnd (bnd (ret (.bl false)) fun d => bnd (bnd (bnd (ret (.int 1)) fun x => lo (negD x)) fun d => bnd (bnd (rd 5) fun d => bnd (bnd (bnd (rd 5) fun x => bnd (ret (.int 1)) fun y => lo (subD x y)) fun d => bnd (bnd (ret (.int 0)) fun d => bnd (bnd (ret (.str "same")) fun d => bnd (bnd (ret (.str "newest")) fun d => bnd (bnd (ret (.str "")) fun d => bnd (bnd (bnd (ret []) fun ds => lo (mkT ds)) fun d => bnd (bnd (bnd (bnd (ret (.int 0)) fun d => bnd (bnd (ret (.int 0)) fun d => bnd (ret []) fun ds => ret (d :: ds)) fun ds => ret (d :: ds)) fun ds => lo (mkT ds)) fun d => bnd (bnd (bnd (ret []) fun ds => lo (mkL ds)) fun d => bnd (bnd mkD0 fun d => bnd (bnd (bnd (ret (.int 10)) fun x => bnd (ret (.int 30)) fun y => lo (powD x y)) fun d => bnd (ret []) fun ds => ret (d :: ds)) fun ds => ret (d :: ds)) fun ds => ret (d :: ds)) fun ds => ret (d :: ds)) fun ds => ret (d :: ds)) fun ds => ret (d :: ds)) fun ds => ret (d :: ds)) fun ds => ret (d :: ds)) fun ds => ret (d :: ds)) fun ds => ret (d :: ds)) fun ds => ret (d :: ds)) fun ds => ret (d :: ds)) fun ds => ret (d :: ds)) fun ds => ret (d :: ds)) fun ds => ret (d :: ds)) fun ds => newL ds) (setS 6))
  (seqS (bndS (bnd (rd 6) fun x => chk (tyOk "list" x) (bnd (bnd (callM 0 f__law_deep []) fun d => bnd (ret []) fun ds => ret (d :: ds)) fun ds => lof (appendF x ds))) fun _ => nxtS)
  (bndS (bnd (bnd (ret (.int 2)) fun d => bnd (ret []) fun ds => ret (d :: ds)) fun ds => lo (toRng1 ds)) (forS (.nm 1) (seqS (bndS (bnd (bnd (rd 4) fun d => bnd (bnd (ret (.int 5)) fun d => bnd (ret []) fun ds => ret (d :: ds)) fun ds => ret (d :: ds)) (callM 2 f__law_draw)) (setS 2))
  (seqS (bndS (bnd (bnd (bnd (rd 7) fun x => bnd (ret none) fun l => bnd (bnd (rd 2) fun d => lo (toI d)) fun u => lo (slD x l u)) fun x => bnd (bnd (bnd (bnd (bnd (rd 4) fun d => bnd (bnd (bnd (rd 7) fun x => bnd (rd 2) fun y => lo (ixD x y)) fun d => bnd (bnd (rd 6) fun d => bnd (ret []) fun ds => ret (d :: ds)) fun ds => ret (d :: ds)) fun ds => ret (d :: ds)) (callM 3 f__law_bent)) fun d => bnd (ret []) fun ds => ret (d :: ds)) fun ds => lo (mkT ds)) fun y => lo (addD x y)) fun x => bnd (bnd (rd 7) fun x => bnd (bnd (bnd (rd 2) fun x => bnd (ret (.int 1)) fun y => lo (addD x y)) fun d => lo (toI d)) fun l => bnd (ret none) fun u => lo (slD x l u)) fun y => lo (addD x y)) (setS 3))
  (seqS (bndS (bnd (bnd (bnd (rd 4) fun d => bnd (bnd (ret (.int 3)) fun d => bnd (ret []) fun ds => ret (d :: ds)) fun ds => ret (d :: ds)) (callM 2 f__law_draw)) fun x => bnd (ret (.int 0)) fun y => bnd (lo (eqD x y)) fun d => lo (tb d)) fun x => if x = true then (seqS (bndS (bnd (bnd (rd 4) fun d => bnd (bnd (ret (.int 5)) fun d => bnd (ret []) fun ds => ret (d :: ds)) fun ds => ret (d :: ds)) (callM 2 f__law_draw)) (setS 2))
  (bndS (bnd (bnd (bnd (rd 3) fun x => bnd (ret none) fun l => bnd (bnd (rd 2) fun d => lo (toI d)) fun u => lo (slD x l u)) fun x => bnd (bnd (bnd (bnd (bnd (rd 4) fun d => bnd (bnd (bnd (rd 3) fun x => bnd (rd 2) fun y => lo (ixD x y)) fun d => bnd (bnd (rd 6) fun d => bnd (ret []) fun ds => ret (d :: ds)) fun ds => ret (d :: ds)) fun ds => ret (d :: ds)) (callM 3 f__law_bent)) fun d => bnd (ret []) fun ds => ret (d :: ds)) fun ds => lo (mkT ds)) fun y => lo (addD x y)) fun x => bnd (bnd (rd 3) fun x => bnd (bnd (bnd (rd 2) fun x => bnd (ret (.int 1)) fun y => lo (addD x y)) fun d => lo (toI d)) fun l => bnd (ret none) fun u => lo (slD x l u)) fun y => lo (addD x y)) (setS 3))) else nxtS)
  (bndS (bnd (bnd (bnd (rd 3) fun d => bnd (ret []) fun ds => ret (d :: ds)) (callM 1 f__law_told)) fun x => bnd (bnd (bnd (rd 3) fun d => bnd (ret []) fun ds => ret (d :: ds)) (callM 1 f__law_due)) fun y => bnd (lo (neD x y)) fun d => lo (tb d)) fun x => if x = true then (bndS (ret (.bl false)) retS) else nxtS)))))))))))))
  (seqS (bndS (bnd (bnd (bnd (bnd (bnd (ret (.int 0)) fun d => bnd (bnd (bnd (ret []) fun ds => lo (mkT ds)) fun d => bnd (bnd (bnd (ret []) fun ds => lo (mkT ds)) fun d => bnd (bnd (bnd (ret []) fun ds => lo (mkT ds)) fun d => bnd (bnd (bnd (ret []) fun ds => lo (mkT ds)) fun d => bnd (ret []) fun ds => ret (d :: ds)) fun ds => ret (d :: ds)) fun ds => ret (d :: ds)) fun ds => ret (d :: ds)) fun ds => ret (d :: ds)) fun ds => lo (mkT ds)) fun d => bnd (ret []) fun ds => ret (d :: ds)) (callM 1 f__law_told)) fun x => bnd (ret (.str "changes")) fun y => bnd (lo (neD x y)) fun d => lo (tb d)) fun x => if x = true then (bndS (ret (.bl false)) retS) else nxtS)
  (seqS (bndS (bnd (ret (.int 400)) fun x => bnd (bnd (bnd (rd 4) fun d => bnd (bnd (ret (.int 2)) fun d => bnd (ret []) fun ds => ret (d :: ds)) fun ds => ret (d :: ds)) (callM 2 f__law_draw)) fun y => lo (addD x y)) (setS 5))
  (bndS (bnd (bnd (bnd (bnd (rd 4) fun d => bnd (bnd (ret (.int 10)) fun d => bnd (ret []) fun ds => ret (d :: ds)) fun ds => ret (d :: ds)) (callM 2 f__law_draw)) fun x => bnd (ret (.int 0)) fun y => lo (gtD x y)) fun x => bnd (lo (tb x)) fun k => if k = true then ret (.bl true) else (bnd (bnd (bnd (bnd (bnd (rd 5) fun d => bnd (ret []) fun ds => ret (d :: ds)) (callM 1 f__law_great)) fun d => bnd (ret []) fun ds => ret (d :: ds)) (callM 1 f__law_told)) fun x => bnd (bnd (bnd (bnd (ret (.str "let")) fun d => bnd (bnd (ret (.str "changes")) fun d => bnd (ret []) fun ds => ret (d :: ds)) fun ds => ret (d :: ds)) fun ds => lo (mkL ds)) fun x => bnd (bnd (rd 5) fun x => bnd (ret (.int 400)) fun y => lo (subD x y)) fun y => lo (ixD x y)) fun y => lo (eqD x y))) retS)))))
def f_law : FM := (runF 9 b_law)
theorem ok_law (hP : P = hd.P) (hC : hd.says K) (hX : K.In h) (hG : h.Ns mainGlobals mg) : OkF P w K mg base 20 (He.ga K "law") ["script"] f_law := okF_of (N := ["script", "again", "at", "bent", "hand", "many", "odd", "rows", "turn"]) (ps := ["script"]) (k := 19) (b := b_law) (Hd.def_ hC 18 (d := d_law) rfl) sc_law (fun fd F => FunD.bindsA F fun _ _ _ _ _ _ us hl => match us, hl with | [_], _ => rfl) fun cdv A outer s H E hr =>
  (mss_cons (by exact (ms_set (i := 4) (by exact sc_law.nd) (by rfl) (by first | exact .inl rfl | exact .inr rfl) (by exact (mcl  (ok__law_pot hP hC hX hG) hr (by rfl) (g__law_pot hP hC hX hG) (by exact tkD) (by exact ma_cons (by exact (me_rd (pv 0))) ma_nil)))))
  (mss_cons (by exact (ms_for (t := (.nm 8)) (by exact poD) (by rfl) (mi_rng1 (by rfl) (fr_range hP hC hX hG) (by exact ma_cons me_int ma_nil)) (pg_nm (by exact sc_law.nd) (i := 8) (by rfl) (by first | exact .inl rfl | exact .inr rfl)) (mss_cons (by exact (ms_set (i := 5) (by exact sc_law.nd) (by rfl) (by first | exact .inl rfl | exact .inr rfl) (by exact (me_bin opAdd me_int (by exact (mcl  (ok__law_draw hP hC hX hG) hr (by rfl) (g__law_draw hP hC hX hG) (by exact tkD) (by exact ma_cons (by exact (me_rd (pv 4))) (by exact ma_cons me_int ma_nil))))))))
  (mss_cons (by exact (ms_set (i := 7) (by exact sc_law.nd) (by rfl) (by first | exact .inl rfl | exact .inr rfl) (by exact (mcl  (ok__law_rows hP hC hX hG) hr (by rfl) (g__law_rows hP hC hX hG) (by exact tkD) (by exact ma_cons (by exact (me_rd (pv 4))) (by exact ma_cons (by exact (me_rd (pv 5))) (by exact ma_cons (by exact (me_cmp opGt (by exact (mcl  (ok__law_draw hP hC hX hG) hr (by rfl) (g__law_draw hP hC hX hG) (by exact tkD) (by exact ma_cons (by exact (me_rd (pv 4))) (by exact ma_cons me_int ma_nil)))) me_int (nomark _))) ma_nil)))))))
  (mss_cons (by exact (ms_if (by exact (mt_cmp (opNe (by exact hr.units)) (by exact (mcl  (ok__law_told hP hC hX hG) hr (by rfl) (g__law_told hP hC hX hG) (by exact tkD) (by exact ma_cons (by exact (me_rd (pv 7))) ma_nil))) me_str (nomark _))) (mss_one (by exact (ms_ret me_bl))) mss_nil))
  (mss_cons (by exact (ms_set (i := 6) (by exact sc_law.nd) (by rfl) (by first | exact .inl rfl | exact .inr rfl) (by exact (me_lst (by exact ma_cons me_non (by exact ma_cons me_bl (by exact ma_cons me_bl (by exact ma_cons (by exact (me_neg me_int)) (by exact ma_cons (by exact (me_rd (pv 5))) (by exact ma_cons (by exact (me_bin opSub (by exact (me_rd (pv 5))) me_int)) (by exact ma_cons me_int (by exact ma_cons me_str (by exact ma_cons me_str (by exact ma_cons me_str (by exact ma_cons (by exact (me_tup ma_nil)) (by exact ma_cons (by exact (me_tup (by exact ma_cons me_int (by exact ma_cons me_int ma_nil)))) (by exact ma_cons (by exact (me_tl ma_nil)) (by exact ma_cons me_d0 (by exact ma_cons (by exact (me_bin opPow me_int me_int)) ma_nil)))))))))))))))))))
  (mss_cons (by exact (ms_expr (by exact (me_bm PySem.F.plainAttrs_list PySem.F.slot_list_append PySem.F.type_list_append mAppend (by exact (me_rd (pv 6))) (by exact ma_cons (by exact (mcl0  (ok__law_deep hP hC hX hG) hr (by rfl) (g__law_deep hP hC hX hG) (by exact tkD))) ma_nil)))))
  (mss_one (by exact (ms_for (t := (.nm 1)) (by exact poD) (by rfl) (mi_rng1 (by rfl) (fr_range hP hC hX hG) (by exact ma_cons me_int ma_nil)) (pg_nm (by exact sc_law.nd) (i := 1) (by rfl) (by first | exact .inl rfl | exact .inr rfl)) (mss_cons (by exact (ms_set (i := 2) (by exact sc_law.nd) (by rfl) (by first | exact .inl rfl | exact .inr rfl) (by exact (mcl  (ok__law_draw hP hC hX hG) hr (by rfl) (g__law_draw hP hC hX hG) (by exact tkD) (by exact ma_cons (by exact (me_rd (pv 4))) (by exact ma_cons me_int ma_nil))))))
  (mss_cons (by exact (ms_set (i := 3) (by exact sc_law.nd) (by rfl) (by first | exact .inl rfl | exact .inr rfl) (by exact (me_bin opAdd (by exact (me_bin opAdd (by exact (me_slice (by exact (me_rd (pv 7))) mo_none (mo_some (by exact (me_rd (pv 2)))))) (by exact (me_tup (by exact ma_cons (by exact (mcl  (ok__law_bent hP hC hX hG) hr (by rfl) (g__law_bent hP hC hX hG) (by exact tkD) (by exact ma_cons (by exact (me_rd (pv 4))) (by exact ma_cons (by exact (me_ix ixOk (by exact (me_rd (pv 7))) (by exact (me_rd (pv 2))) (by intro _ _; rfl))) (by exact ma_cons (by exact (me_rd (pv 6))) ma_nil))))) ma_nil))))) (by exact (me_slice (by exact (me_rd (pv 7))) (mo_some (by exact (me_bin opAdd (by exact (me_rd (pv 2))) me_int))) mo_none))))))
  (mss_cons (by exact (ms_if (by exact (mt_cmp (opEq (by exact hr.units)) (by exact (mcl  (ok__law_draw hP hC hX hG) hr (by rfl) (g__law_draw hP hC hX hG) (by exact tkD) (by exact ma_cons (by exact (me_rd (pv 4))) (by exact ma_cons me_int ma_nil)))) me_int (nomark _))) (mss_cons (by exact (ms_set (i := 2) (by exact sc_law.nd) (by rfl) (by first | exact .inl rfl | exact .inr rfl) (by exact (mcl  (ok__law_draw hP hC hX hG) hr (by rfl) (g__law_draw hP hC hX hG) (by exact tkD) (by exact ma_cons (by exact (me_rd (pv 4))) (by exact ma_cons me_int ma_nil))))))
  (mss_one (by exact (ms_set (i := 3) (by exact sc_law.nd) (by rfl) (by first | exact .inl rfl | exact .inr rfl) (by exact (me_bin opAdd (by exact (me_bin opAdd (by exact (me_slice (by exact (me_rd (pv 3))) mo_none (mo_some (by exact (me_rd (pv 2)))))) (by exact (me_tup (by exact ma_cons (by exact (mcl  (ok__law_bent hP hC hX hG) hr (by rfl) (g__law_bent hP hC hX hG) (by exact tkD) (by exact ma_cons (by exact (me_rd (pv 4))) (by exact ma_cons (by exact (me_ix ixOk (by exact (me_rd (pv 3))) (by exact (me_rd (pv 2))) (by intro _ _; rfl))) (by exact ma_cons (by exact (me_rd (pv 6))) ma_nil))))) ma_nil))))) (by exact (me_slice (by exact (me_rd (pv 3))) (mo_some (by exact (me_bin opAdd (by exact (me_rd (pv 2))) me_int))) mo_none)))))))) mss_nil))
  (mss_one (by exact (ms_if (by exact (mt_cmp (opNe (by exact hr.units)) (by exact (mcl  (ok__law_told hP hC hX hG) hr (by rfl) (g__law_told hP hC hX hG) (by exact tkD) (by exact ma_cons (by exact (me_rd (pv 3))) ma_nil))) (by exact (mcl  (ok__law_due hP hC hX hG) hr (by rfl) (g__law_due hP hC hX hG) (by exact tkD) (by exact ma_cons (by exact (me_rd (pv 3))) ma_nil))) (nomark _))) (mss_one (by exact (ms_ret me_bl))) mss_nil))))))))))))))))
  (mss_cons (by exact (ms_if (by exact (mt_cmp (opNe (by exact hr.units)) (by exact (mcl  (ok__law_told hP hC hX hG) hr (by rfl) (g__law_told hP hC hX hG) (by exact tkD) (by exact ma_cons (by exact (me_tup (by exact ma_cons me_int (by exact ma_cons (by exact (me_tup ma_nil)) (by exact ma_cons (by exact (me_tup ma_nil)) (by exact ma_cons (by exact (me_tup ma_nil)) (by exact ma_cons (by exact (me_tup ma_nil)) ma_nil))))))) ma_nil))) me_str (nomark _))) (mss_one (by exact (ms_ret me_bl))) mss_nil))
  (mss_cons (by exact (ms_set (i := 5) (by exact sc_law.nd) (by rfl) (by first | exact .inl rfl | exact .inr rfl) (by exact (me_bin opAdd me_int (by exact (mcl  (ok__law_draw hP hC hX hG) hr (by rfl) (g__law_draw hP hC hX hG) (by exact tkD) (by exact ma_cons (by exact (me_rd (pv 4))) (by exact ma_cons me_int ma_nil))))))))
  (mss_one (by exact (ms_ret (by exact (me_or (by exact (me_cmp opGt (by exact (mcl  (ok__law_draw hP hC hX hG) hr (by rfl) (g__law_draw hP hC hX hG) (by exact tkD) (by exact ma_cons (by exact (me_rd (pv 4))) (by exact ma_cons me_int ma_nil)))) me_int (nomark _))) (me_one (by exact (me_cmp (opEq (by exact hr.units)) (by exact (mcl  (ok__law_told hP hC hX hG) hr (by rfl) (g__law_told hP hC hX hG) (by exact tkD) (by exact ma_cons (by exact (mcl  (ok__law_great hP hC hX hG) hr (by rfl) (g__law_great hP hC hX hG) (by exact tkD) (by exact ma_cons (by exact (me_rd (pv 5))) ma_nil))) ma_nil))) (by exact (me_ix ixOk (by exact (me_tl (by exact ma_cons me_str (by exact ma_cons me_str ma_nil)))) (by exact (me_bin opSub (by exact (me_rd (pv 5))) me_int)) (by intro _ _; rfl))) (nomark _)))))))))))))
end
end K12
end M3
end L2

set_option Elab.async false
set_option linter.all false
set_option maxRecDepth 100000
set_option maxHeartbeats 2000000
namespace L2
namespace M3
namespace K12
open PySem PySem.Spec PyProof.Rows
structure Pot (G : Gs) : Prop where
  ex : ∃ (gs sm : List Int) (t s : Int), G[0]? = some (.lst (gs.map D.int)) ∧ (∀ g ∈ gs, 0 ≤ g) ∧ 0 < sm.length ∧ sm.length ≤ 64 ∧ G[1]? = some (.lst [.obj 0, .tl (sm.map D.int), .int t, .int s])
structure Same (G G' : Gs) : Prop where
  len : G'.length = G.length
  at_ : ∀ i, 2 ≤ i → G'[i]? = G[i]?
theorem Same.set {G : Gs} {i : Nat} {x : MO} (h : i < 2) : Same G (G.set i x) := ⟨by simp, fun j hj => by rw [List.getElem?_set_ne (by omega)]⟩
theorem Same.trans {G G1 G2 : Gs} (a : Same G G1) (b : Same G1 G2) : Same G G2 := ⟨b.len.trans a.len, fun i h => (b.at_ i h).trans (a.at_ i h)⟩
theorem w_draw {G : Gs} {many : Int} {X : Exc → Gs → Prop} (h : Pot G) (h0 : 0 < many) (h1 : many.natAbs.log2 < 9000) :
    wR (f__law_draw [.obj 1, .int many] G) X (fun d G' => ∃ v, d = .int v ∧ 0 ≤ v ∧ v < many ∧ Pot G' ∧ Same G G') := by
  obtain ⟨gs, sm, t, s, e0, hg, hs, hs2, e1⟩ := h.ex
  have hl1 : 1 < G.length := (List.getElem?_eq_some_iff.mp e1).1
  unfold f__law_draw b__law_draw
  have a2 : atI [D.obj 0, .tl (sm.map D.int), .int t, .int s] 2 = some (.int t) := rfl
  have l1 : lstO G 1 = some [.obj 0, .tl (sm.map D.int), .int t, .int s] := lstO_at e1
  have n2 : ixN 4 2 = some 2 := rfl
  have n0 : ixN 4 0 = some 0 := rfl
  have l1' : ∀ t', lstO (G.set 1 (.lst [.obj 0, .tl (sm.map D.int), .int t', .int s])) 1 = some [.obj 0, .tl (sm.map D.int), .int t', .int s] := fun t' => lstO_at (List.getElem?_set_self hl1)
  have l0' : ∀ x, lstO (G.set 1 x) 0 = some (gs.map D.int) := fun x => lstO_at (by rw [List.getElem?_set_ne (by omega)]; exact e0)
  have a0 : ∀ t', atI [D.obj 0, .tl (sm.map D.int), .int t', .int s] 0 = some (.obj 0) := fun _ => rfl
  have a1 : ∀ t', atI [D.obj 0, .tl (sm.map D.int), .int t', .int s] 1 = some (.tl (sm.map D.int)) := fun _ => rfl
  have a3 : ∀ t', atI [D.obj 0, .tl (sm.map D.int), .int t', .int s] 3 = some (.int s) := fun _ => rfl
  obtain ⟨S, hS0⟩ : ∃ S, S = sm.map D.int := ⟨_, rfl⟩
  have hSl : S.length = sm.length := by rw [hS0]; simp
  obtain ⟨L, hL⟩ : ∃ L, L = gs.map D.int := ⟨_, rfl⟩
  rw [← hS0] at a2 l1 l1' a0 a1 a3 e1
  rw [← hL] at e0 l0'
  have gS : ∀ n (h : n < sm.length), S[n]? = some (.int sm[n]) := fun n h => by rw [hS0]; simp [h]
  cases gs with
  | nil =>
    have hm : 0 ≤ t % (S.length : Int) := Int.emod_nonneg _ (by omega)
    have hm2 : t % (S.length : Int) < S.length := Int.emod_lt_of_pos _ (by omega)
    have hlt : (t % (S.length : Int)).toNat < sm.length := by omega
    have am : atI S (t % (S.length : Int)) = some (.int sm[(t % (S.length : Int)).toNat]) := atI_of (n := (t % (S.length : Int)).toNat) (ixN_pos hm hm2) (gS _ hlt)
    have hp : (0 < (L.length : Int)) = False := by rw [hL]; simp
    have hP : Pot (G.set 1 (.lst [.obj 0, .tl S, .int (t + 1), .int s])) := ⟨[], sm, t + 1, s, by rw [List.getElem?_set_ne (by omega), e0, hL], hg, hs, hs2, by rw [hS0]; exact List.getElem?_set_self hl1⟩
    have hS : Same G (G.set 1 (.lst [.obj 0, .tl S, .int (t + 1), .int s])) := Same.set (by omega)
    have hpos : 0 < (S.length : Int) := by omega
    simp (config := { maxSteps := 10000000 }) only [wR_bnd, wR_ret, wR_rd, wR_lo, wR_lof, wR_chk, wR_ite, wR_call, wR_runF, wR_newL, wR_chn, wS_seq, wS_bnd, wS_nxt, wS_ret, wS_set, wS_brk, wS_cnt, wS_rz0, wS_rz, wS_ite, wS_setIx, wS_try, wS_end, startD, List.map_cons, List.map_nil, List.length_cons, List.length_nil, List.replicate, List.cons_append, List.nil_append, List.getElem?_cons_zero, List.getElem?_cons_succ, List.set_cons_zero, List.set_cons_succ, Option.some.injEq, exists_eq_left', Nat.reduceAdd, Nat.reduceSub, D.int.injEq, D.bl.injEq, addD_i, subD_i, mulD_i, fdivD_i, modD_i, ltD_i, leD_i, gtD_i, geD_i, tb_b, toI_i, intF_i, absF_i, ixD_o, ixD_tl, ixD_tup, lenF_o, lenF_tl, lenF_tup, lenF_fz, objL_o, tyOk_o, Option.bind_some, Option.map_some, Option.isSome_some, Prod.mk.injEq, and_assoc, exists_and_left, decide_eq_true_eq, Option.ite_none_right_eq_some, true_and, l1, a2, n2, l1', a0, l0', a1, a3, hp, if_false, am]
    repeat' (refine And.intro ?_ ?_)
    all_goals first
      | exact hP
      | exact hS
      | exact h0
      | exact h1
      | exact hpos
      | exact Int.emod_nonneg _ (by omega)
      | exact Int.emod_lt_of_pos _ h0
      | (right; left; decide)
      | (left; omega)
      | decide
      | omega
  | cons g r =>
    have hl : L.length = r.length + 1 := by rw [hL]; simp
    have ng : ixN L.length 0 = some 0 := ixN_pos (by omega) (by omega)
    have ag : atI L 0 = some (.int g) := atI_of ng (by rw [hL]; rfl)
    have hg0 := hg g List.mem_cons_self
    have l1'' : ∀ t' x, lstO ((G.set 1 (.lst [.obj 0, .tl S, .int t', .int s])).set 0 x) 1 = some [.obj 0, .tl S, .int t', .int s] := fun t' x => lstO_at (by rw [List.getElem?_set_ne (by omega)]; exact List.getElem?_set_self hl1)
    have l0'' : ∀ y x, lstO ((G.set 1 y).set 0 (.lst x)) 0 = some x := fun y x => lstO_at (List.getElem?_set_self (by rw [List.length_set]; omega))
    have hp : (0 < (L.length : Int)) = True := eq_true (by omega)
    have hn2 : ∀ y, ixN (L.set 0 y).length 0 = some 0 := fun y => by rw [List.length_set]; exact ng
    have hg2 : ∀ y, (L.set 0 y)[0]? = some y := fun y => List.getElem?_set_self (by omega)
    have hb : -(2 ^ 63) ≤ (0 : Int) ∧ (0 : Int) < 2 ^ 63 := by decide
    simp (config := { maxSteps := 10000000 }) only [wR_bnd, wR_ret, wR_rd, wR_lo, wR_lof, wR_chk, wR_ite, wR_call, wR_runF, wR_newL, wR_chn, wS_seq, wS_bnd, wS_nxt, wS_ret, wS_set, wS_brk, wS_cnt, wS_rz0, wS_rz, wS_ite, wS_setIx, wS_try, wS_end, startD, List.map_cons, List.map_nil, List.length_cons, List.length_nil, List.replicate, List.cons_append, List.nil_append, List.getElem?_cons_zero, List.getElem?_cons_succ, List.set_cons_zero, List.set_cons_succ, Option.some.injEq, exists_eq_left', Nat.reduceAdd, Nat.reduceSub, D.int.injEq, D.bl.injEq, addD_i, subD_i, mulD_i, fdivD_i, modD_i, ltD_i, leD_i, gtD_i, geD_i, tb_b, toI_i, intF_i, absF_i, ixD_o, ixD_tl, ixD_tup, lenF_o, lenF_tl, lenF_tup, lenF_fz, objL_o, tyOk_o, Option.bind_some, Option.map_some, Option.isSome_some, Prod.mk.injEq, and_assoc, exists_and_left, decide_eq_true_eq, Option.ite_none_right_eq_some, true_and, l1, a2, n2, l1', a0, l0', a1, a3, ag, ng, hp, if_true, l1'', l0'', popF, popG, Option.bind_some, Option.map_some, hn2, hg2, hb, and_self, if_true]
    have hr : ∀ x ∈ r, 0 ≤ x := fun x hx => hg x (List.mem_cons_of_mem _ hx)
    have hlG : ∀ y, 0 < (G.set 1 y).length := fun y => by rw [List.length_set]; omega
    refine ⟨h0, h1, ?_⟩
    split
    · refine ⟨h0, Int.emod_nonneg _ (by omega), Int.emod_lt_of_pos _ h0, ⟨r, sm, t + 1, s, ?_, hr, hs, hs2, ?_⟩, (Same.set (by omega)).trans ((Same.set (by omega)).trans (Same.set (by omega)))⟩
      · rw [List.getElem?_set_self (by rw [List.length_set]; exact hlG _), hL]
        rfl
      · rw [List.getElem?_set_ne (by omega), List.getElem?_set_ne (by omega), List.getElem?_set_self hl1, hS0]
    · refine ⟨h0, Int.emod_nonneg _ (by omega), Int.emod_lt_of_pos _ h0, ⟨g / many :: r, sm, t + 1, s, ?_, fun x hx => ?_, hs, hs2, ?_⟩, (Same.set (by omega)).trans (Same.set (by omega))⟩
      · rw [List.getElem?_set_self (hlG _), hL]
        rfl
      · rcases List.mem_cons.mp hx with rfl | hx
        · exact Int.ediv_nonneg hg0 (by omega)
        · exact hr x hx
      · rw [List.getElem?_set_ne (by omega), List.getElem?_set_self hl1, hS0]
end K12
end M3
end L2

set_option Elab.async false
set_option linter.all false
set_option maxRecDepth 100000
set_option maxHeartbeats 2000000
namespace L2
namespace M3
namespace K12
open PySem PySem.Spec PyProof.Rows
/-! ### plain data -/
mutual
def pd (k : Nat) : D → Bool
  | .non => true
  | .bl _ => true
  | .int _ => true
  | .str _ => true
  | .tup ds => decide (ds.length ≤ k) && pds k ds
  | .tl ds => decide (ds.length ≤ k) && pds k ds
  | .td [] [] => true
  | _ => false
def pds (k : Nat) : List D → Bool
  | [] => true
  | d :: ds => pd k d && pds k ds
end
def tyB : D → String
  | .non => "NoneType"
  | .bl _ => "bool"
  | .int _ => "int"
  | .str _ => "str"
  | .tup _ => "tuple"
  | .tl _ => "list"
  | .td _ _ => "dict"
  | _ => ""
def isB (d : D) (T : String) : Bool := tyB d == T || (tyB d == "bool" && T == "int")
theorem isi_pd {k : Nat} {d : D} {T : String} {G : Gs} (h : pd k d = true) (hT : T = "int" ∨ T = "bool" ∨ T = "tuple" ∨ T = "str") : isiF TT.tf [d, .ty T] G = some (.bl (isB d T)) := by
  rcases hT with rfl | rfl | rfl | rfl <;> cases d <;> first | rfl | (simp [pd] at h) | decide
def isI : D → Bool
  | .int _ => true
  | _ => false
def btB (d : D) (a b : Int) : Bool := match d with
  | .int i => decide (a ≤ i) && decide (i ≤ b)
  | _ => false
def tupB' (d : D) (n : Int) : Bool := match d with
  | .tup ds => decide ((ds.length : Int) = n)
  | _ => false
section
variable {k : Nat} {d : D} {G : Gs} {X : Exc → Gs → Prop}
theorem eqD_i {a b : Int} : eqD (.int a) (.int b) G = some (.bl (decide (a = b))) := by
  show (if SeqAt.shaped (.int a) = true ∧ SeqAt.shaped (.int b) = true then some (D.bl (PyData.eqv (.int a) (.int b))) else none) = _
  rw [if_pos ⟨rfl, rfl⟩]
  have e : PyData.eqv (.int a) (.int b) = decide (a = b) := by
    first | rfl | (simp [PyData.eqv]; done)
  rw [e]
theorem neD_i {a b : Int} : neD (.int a) (.int b) G = some (.bl (!decide (a = b))) := by
  show (if SeqAt.shaped (.int a) = true ∧ SeqAt.shaped (.int b) = true then some (D.bl (!PyData.eqv (.int a) (.int b))) else none) = _
  rw [if_pos ⟨rfl, rfl⟩]
  have e : PyData.eqv (.int a) (.int b) = decide (a = b) := by
    first | rfl | (simp [PyData.eqv]; done)
  rw [e]
theorem isB_int {d : D} : isB d "int" = (match d with | .int _ => true | .bl _ => true | _ => false) := by cases d <;> first | rfl | decide
theorem w_isint (h : pd k d = true) : f_is_integer [d] G = .ok (.bl (isI d)) G := by
  refine eq_of_wR ?_
  unfold f_is_integer b_is_integer
  simp only [wR_bnd, wR_ret, wR_rd, wR_lo, wR_lof, wR_chk, wR_ite, wR_call, wR_runF, wR_newL, wR_chn, wS_seq, wS_bnd, wS_nxt, wS_ret, wS_set, wS_brk, wS_cnt, wS_rz0, wS_rz, wS_ite, wS_setIx, wS_try, wS_end, startD, List.map_cons, List.map_nil, List.length_cons, List.length_nil, List.replicate, List.cons_append, List.nil_append, List.getElem?_cons_zero, List.getElem?_cons_succ, List.set_cons_zero, List.set_cons_succ, Option.some.injEq, exists_eq_left', Nat.reduceAdd, Nat.reduceSub, D.int.injEq, D.bl.injEq, addD_i, subD_i, mulD_i, fdivD_i, modD_i, ltD_i, leD_i, gtD_i, geD_i, tb_b, toI_i, intF_i, absF_i, ixD_o, ixD_tl, ixD_tup, lenF_o, lenF_tl, lenF_tup, lenF_fz, objL_o, tyOk_o, Option.bind_some, Option.map_some, Option.isSome_some, Prod.mk.injEq, and_assoc, exists_and_left, decide_eq_true_eq, Option.ite_none_right_eq_some, true_and, isi_pd h (T := "int") (.inl rfl), isi_pd h (T := "bool") (.inr (.inl rfl))]
  cases d <;> first | (simp [pd] at h; done) | exact ⟨rfl, rfl⟩ | (simp [isB, tyB, isI, wR_ret])
theorem w_between {a b : Int} (h : pd k d = true) : f_is_between [d, .int a, .int b] G = .ok (.bl (btB d a b)) G := by
  refine eq_of_wR ?_
  unfold f_is_between b_is_between
  simp only [wR_bnd, wR_ret, wR_rd, wR_lo, wR_lof, wR_chk, wR_ite, wR_call, wR_runF, wR_newL, wR_chn, wS_seq, wS_bnd, wS_nxt, wS_ret, wS_set, wS_brk, wS_cnt, wS_rz0, wS_rz, wS_ite, wS_setIx, wS_try, wS_end, startD, List.map_cons, List.map_nil, List.length_cons, List.length_nil, List.replicate, List.cons_append, List.nil_append, List.getElem?_cons_zero, List.getElem?_cons_succ, List.set_cons_zero, List.set_cons_succ, Option.some.injEq, exists_eq_left', Nat.reduceAdd, Nat.reduceSub, D.int.injEq, D.bl.injEq, addD_i, subD_i, mulD_i, fdivD_i, modD_i, ltD_i, leD_i, gtD_i, geD_i, tb_b, toI_i, intF_i, absF_i, ixD_o, ixD_tl, ixD_tup, lenF_o, lenF_tl, lenF_tup, lenF_fz, objL_o, tyOk_o, Option.bind_some, Option.map_some, Option.isSome_some, Prod.mk.injEq, and_assoc, exists_and_left, decide_eq_true_eq, Option.ite_none_right_eq_some, true_and, w_isint h, wR_ok]
  cases d with
  | int i => simp only [isI, if_true, wR_bnd, wR_ret, wR_rd, wR_lo, wR_lof, wR_chk, wR_ite, wR_call, wR_runF, wR_newL, wR_chn, wS_seq, wS_bnd, wS_nxt, wS_ret, wS_set, wS_brk, wS_cnt, wS_rz0, wS_rz, wS_ite, wS_setIx, wS_try, wS_end, startD, List.map_cons, List.map_nil, List.length_cons, List.length_nil, List.replicate, List.cons_append, List.nil_append, List.getElem?_cons_zero, List.getElem?_cons_succ, List.set_cons_zero, List.set_cons_succ, Option.some.injEq, exists_eq_left', Nat.reduceAdd, Nat.reduceSub, D.int.injEq, D.bl.injEq, addD_i, subD_i, mulD_i, fdivD_i, modD_i, ltD_i, leD_i, gtD_i, geD_i, tb_b, toI_i, intF_i, absF_i, ixD_o, ixD_tl, ixD_tup, lenF_o, lenF_tl, lenF_tup, lenF_fz, objL_o, tyOk_o, Option.bind_some, Option.map_some, Option.isSome_some, Prod.mk.injEq, and_assoc, exists_and_left, decide_eq_true_eq, Option.ite_none_right_eq_some, true_and, btB]; by_cases c : a ≤ i <;> simp [c, wR_ret]
  | _ => simp [isI, btB, wR_ret]
theorem w_index {n : Int} (h : pd k d = true) : f_is_index [d, .int n] G = .ok (.bl (btB d 0 (n - 1))) G := by
  refine eq_of_wR ?_
  unfold f_is_index b_is_index
  simp only [wR_bnd, wR_ret, wR_rd, wR_lo, wR_lof, wR_chk, wR_ite, wR_call, wR_runF, wR_newL, wR_chn, wS_seq, wS_bnd, wS_nxt, wS_ret, wS_set, wS_brk, wS_cnt, wS_rz0, wS_rz, wS_ite, wS_setIx, wS_try, wS_end, startD, List.map_cons, List.map_nil, List.length_cons, List.length_nil, List.replicate, List.cons_append, List.nil_append, List.getElem?_cons_zero, List.getElem?_cons_succ, List.set_cons_zero, List.set_cons_succ, Option.some.injEq, exists_eq_left', Nat.reduceAdd, Nat.reduceSub, D.int.injEq, D.bl.injEq, addD_i, subD_i, mulD_i, fdivD_i, modD_i, ltD_i, leD_i, gtD_i, geD_i, tb_b, toI_i, intF_i, absF_i, ixD_o, ixD_tl, ixD_tup, lenF_o, lenF_tl, lenF_tup, lenF_fz, objL_o, tyOk_o, Option.bind_some, Option.map_some, Option.isSome_some, Prod.mk.injEq, and_assoc, exists_and_left, decide_eq_true_eq, Option.ite_none_right_eq_some, true_and, w_between h, wR_ok, and_self]
theorem lenF_pd {ds : List D} : lenF [.tup ds] G = some (.int ds.length) := rfl
theorem w_tupof {n : Int} (h : pd k d = true) : f_is_tuple_of [d, .int n] G = .ok (.bl (tupB' d n)) G := by
  refine eq_of_wR ?_
  unfold f_is_tuple_of b_is_tuple_of
  simp only [wR_bnd, wR_ret, wR_rd, wR_lo, wR_lof, wR_chk, wR_ite, wR_call, wR_runF, wR_newL, wR_chn, wS_seq, wS_bnd, wS_nxt, wS_ret, wS_set, wS_brk, wS_cnt, wS_rz0, wS_rz, wS_ite, wS_setIx, wS_try, wS_end, startD, List.map_cons, List.map_nil, List.length_cons, List.length_nil, List.replicate, List.cons_append, List.nil_append, List.getElem?_cons_zero, List.getElem?_cons_succ, List.set_cons_zero, List.set_cons_succ, Option.some.injEq, exists_eq_left', Nat.reduceAdd, Nat.reduceSub, D.int.injEq, D.bl.injEq, addD_i, subD_i, mulD_i, fdivD_i, modD_i, ltD_i, leD_i, gtD_i, geD_i, tb_b, toI_i, intF_i, absF_i, ixD_o, ixD_tl, ixD_tup, lenF_o, lenF_tl, lenF_tup, lenF_fz, objL_o, tyOk_o, Option.bind_some, Option.map_some, Option.isSome_some, Prod.mk.injEq, and_assoc, exists_and_left, decide_eq_true_eq, Option.ite_none_right_eq_some, true_and, isi_pd h (T := "tuple") (.inr (.inr (.inl rfl)))]
  cases d with
  | tup ds => simp [isB, tyB, wR_bnd, wR_ret, wR_rd, wR_lo, wR_lof, wR_chk, wR_ite, wR_call, wR_runF, wR_newL, wR_chn, wS_seq, wS_bnd, wS_nxt, wS_ret, wS_set, wS_brk, wS_cnt, wS_rz0, wS_rz, wS_ite, wS_setIx, wS_try, wS_end, startD, List.map_cons, List.map_nil, List.length_cons, List.length_nil, List.replicate, List.cons_append, List.nil_append, List.getElem?_cons_zero, List.getElem?_cons_succ, List.set_cons_zero, List.set_cons_succ, Option.some.injEq, exists_eq_left', Nat.reduceAdd, Nat.reduceSub, D.int.injEq, D.bl.injEq, addD_i, subD_i, mulD_i, fdivD_i, modD_i, ltD_i, leD_i, gtD_i, geD_i, tb_b, toI_i, intF_i, absF_i, ixD_o, ixD_tl, ixD_tup, lenF_o, lenF_tl, lenF_tup, lenF_fz, objL_o, tyOk_o, Option.bind_some, Option.map_some, Option.isSome_some, Prod.mk.injEq, and_assoc, exists_and_left, decide_eq_true_eq, Option.ite_none_right_eq_some, true_and, lenF_tup, eqD_i, tupB']
  | _ => first | (simp [pd] at h; done) | (simp [isB, tyB, tupB', wR_ret])
theorem pds_mem : ∀ {l : List D}, pds k l = true → ∀ x ∈ l, pd k x = true
  | [], _, x, hx => by cases hx
  | y :: l, h, x, hx => by
    simp only [pds, Bool.and_eq_true] at h
    rcases List.mem_cons.mp hx with rfl | hx
    · exact h.1
    · exact pds_mem h.2 x hx
/-- a tuple of so many, each as it is due -/
def rowsB (d : D) (p : D → Bool) (n : Int) : Bool := match d with
  | .tup ds => decide ((ds.length : Int) = n) && ds.all p
  | _ => false
def areB (d : D) (many stock : Int) : Bool := rowsB d (fun x => btB x 0 (stock - 1)) many
theorem k_size (hk : k ≤ 1000) : k ≤ sizeLine := by rw [sizeLine_eq]; omega
theorem pd_tup {ds : List D} (h : pd k (.tup ds) = true) : ds.length ≤ k ∧ pds k ds = true := by
  simpa only [pd, Bool.and_eq_true, decide_eq_true_eq] using h
theorem w_stamps {many stock : Int} (hk : k ≤ 1000) (h : pd k d = true) : f_are_stamps [d, .int many, .int stock] G = .ok (.bl (areB d many stock)) G := by
  refine eq_of_wR ?_
  unfold f_are_stamps b_are_stamps
  simp only [wR_bnd, wR_ret, wR_rd, wR_lo, wR_lof, wR_chk, wR_ite, wR_call, wR_runF, wR_newL, wR_chn, wS_seq, wS_bnd, wS_nxt, wS_ret, wS_set, wS_brk, wS_cnt, wS_rz0, wS_rz, wS_ite, wS_setIx, wS_try, wS_end, startD, List.map_cons, List.map_nil, List.length_cons, List.length_nil, List.replicate, List.cons_append, List.nil_append, List.getElem?_cons_zero, List.getElem?_cons_succ, List.set_cons_zero, List.set_cons_succ, Option.some.injEq, exists_eq_left', Nat.reduceAdd, Nat.reduceSub, D.int.injEq, D.bl.injEq, addD_i, subD_i, mulD_i, fdivD_i, modD_i, ltD_i, leD_i, gtD_i, geD_i, tb_b, toI_i, intF_i, absF_i, ixD_o, ixD_tl, ixD_tup, lenF_o, lenF_tl, lenF_tup, lenF_fz, objL_o, tyOk_o, Option.bind_some, Option.map_some, Option.isSome_some, Prod.mk.injEq, and_assoc, exists_and_left, decide_eq_true_eq, Option.ite_none_right_eq_some, true_and, w_tupof h, wR_ok, and_self]
  cases d with
  | tup ds =>
    obtain ⟨h1, h2⟩ := pd_tup h
    by_cases c : (ds.length : Int) = many
    · have t : tupB' (.tup ds) many = true := decide_eq_true c
      simp only [t, if_true, wR_bnd, wR_ret, wR_rd, wR_lo, wR_lof, wR_chk, wR_ite, wR_call, wR_runF, wR_newL, wR_chn, wS_seq, wS_bnd, wS_nxt, wS_ret, wS_set, wS_brk, wS_cnt, wS_rz0, wS_rz, wS_ite, wS_setIx, wS_try, wS_end, startD, List.map_cons, List.map_nil, List.length_cons, List.length_nil, List.replicate, List.cons_append, List.nil_append, List.getElem?_cons_zero, List.getElem?_cons_succ, List.set_cons_zero, List.set_cons_succ, Option.some.injEq, exists_eq_left', Nat.reduceAdd, Nat.reduceSub, D.int.injEq, D.bl.injEq, addD_i, subD_i, mulD_i, fdivD_i, modD_i, ltD_i, leD_i, gtD_i, geD_i, tb_b, toI_i, intF_i, absF_i, ixD_o, ixD_tl, ixD_tup, lenF_o, lenF_tl, lenF_tup, lenF_fz, objL_o, tyOk_o, Option.bind_some, Option.map_some, Option.isSome_some, Prod.mk.injEq, and_assoc, exists_and_left, decide_eq_true_eq, Option.ite_none_right_eq_some, true_and, toSrc, seqD]
      rw [wR_compP (its := ds) (g := fun x => btB x 0 (stock - 1)) rfl (Nat.le_trans h1 (k_size hk)) fun x hx => eq_of_wR (by simp only [wipeD, wR_bnd, wR_ret, wR_rd, wR_lo, wR_lof, wR_chk, wR_ite, wR_call, wR_runF, wR_newL, wR_chn, wS_seq, wS_bnd, wS_nxt, wS_ret, wS_set, wS_brk, wS_cnt, wS_rz0, wS_rz, wS_ite, wS_setIx, wS_try, wS_end, startD, List.map_cons, List.map_nil, List.length_cons, List.length_nil, List.replicate, List.cons_append, List.nil_append, List.getElem?_cons_zero, List.getElem?_cons_succ, List.set_cons_zero, List.set_cons_succ, Option.some.injEq, exists_eq_left', Nat.reduceAdd, Nat.reduceSub, D.int.injEq, D.bl.injEq, addD_i, subD_i, mulD_i, fdivD_i, modD_i, ltD_i, leD_i, gtD_i, geD_i, tb_b, toI_i, intF_i, absF_i, ixD_o, ixD_tl, ixD_tup, lenF_o, lenF_tl, lenF_tup, lenF_fz, objL_o, tyOk_o, Option.bind_some, Option.map_some, Option.isSome_some, Prod.mk.injEq, and_assoc, exists_and_left, decide_eq_true_eq, Option.ite_none_right_eq_some, true_and, w_index (pds_mem h2 x hx), wR_ok, and_self])]
      simp only [allF_map, startD, List.map_cons, List.map_nil, List.length_cons, List.length_nil, List.replicate, List.cons_append, List.nil_append, List.getElem?_cons_zero, List.getElem?_cons_succ, List.set_cons_zero, List.set_cons_succ, Option.some.injEq, exists_eq_left', Nat.reduceAdd, Nat.reduceSub, D.int.injEq, D.bl.injEq, addD_i, subD_i, mulD_i, fdivD_i, modD_i, ltD_i, leD_i, gtD_i, geD_i, tb_b, toI_i, intF_i, absF_i, ixD_o, ixD_tl, ixD_tup, lenF_o, lenF_tl, lenF_tup, lenF_fz, objL_o, tyOk_o, Option.bind_some, Option.map_some, Option.isSome_some, Prod.mk.injEq, and_assoc, exists_and_left, decide_eq_true_eq, Option.ite_none_right_eq_some, true_and, areB, rowsB, c, decide_true, Bool.true_and, and_self]
    · have t : tupB' (.tup ds) many = false := decide_eq_false c
      simp [t, wR_bnd, wR_ret, wR_rd, wR_lo, wR_lof, wR_chk, wR_ite, wR_call, wR_runF, wR_newL, wR_chn, wS_seq, wS_bnd, wS_nxt, wS_ret, wS_set, wS_brk, wS_cnt, wS_rz0, wS_rz, wS_ite, wS_setIx, wS_try, wS_end, startD, List.map_cons, List.map_nil, List.length_cons, List.length_nil, List.replicate, List.cons_append, List.nil_append, List.getElem?_cons_zero, List.getElem?_cons_succ, List.set_cons_zero, List.set_cons_succ, Option.some.injEq, exists_eq_left', Nat.reduceAdd, Nat.reduceSub, D.int.injEq, D.bl.injEq, addD_i, subD_i, mulD_i, fdivD_i, modD_i, ltD_i, leD_i, gtD_i, geD_i, tb_b, toI_i, intF_i, absF_i, ixD_o, ixD_tl, ixD_tup, lenF_o, lenF_tl, lenF_tup, lenF_fz, objL_o, tyOk_o, Option.bind_some, Option.map_some, Option.isSome_some, Prod.mk.injEq, and_assoc, exists_and_left, decide_eq_true_eq, Option.ite_none_right_eq_some, true_and, areB, rowsB, c]
  | _ => simp [tupB', areB, rowsB, wR_ret]
theorem w_lare {many stock : Int} (hk : k ≤ 1000) (h : pd k d = true) : f__law_are [d, .int many, .int stock] G = .ok (.bl (areB d many stock)) G := by
  refine eq_of_wR ?_
  unfold f__law_are b__law_are
  simp only [wR_bnd, wR_ret, wR_rd, wR_lo, wR_lof, wR_chk, wR_ite, wR_call, wR_runF, wR_newL, wR_chn, wS_seq, wS_bnd, wS_nxt, wS_ret, wS_set, wS_brk, wS_cnt, wS_rz0, wS_rz, wS_ite, wS_setIx, wS_try, wS_end, startD, List.map_cons, List.map_nil, List.length_cons, List.length_nil, List.replicate, List.cons_append, List.nil_append, List.getElem?_cons_zero, List.getElem?_cons_succ, List.set_cons_zero, List.set_cons_succ, Option.some.injEq, exists_eq_left', Nat.reduceAdd, Nat.reduceSub, D.int.injEq, D.bl.injEq, addD_i, subD_i, mulD_i, fdivD_i, modD_i, ltD_i, leD_i, gtD_i, geD_i, tb_b, toI_i, intF_i, absF_i, ixD_o, ixD_tl, ixD_tup, lenF_o, lenF_tl, lenF_tup, lenF_fz, objL_o, tyOk_o, Option.bind_some, Option.map_some, Option.isSome_some, Prod.mk.injEq, and_assoc, exists_and_left, decide_eq_true_eq, Option.ite_none_right_eq_some, true_and, isi_pd h (T := "tuple") (.inr (.inr (.inl rfl)))]
  cases d with
  | tup ds =>
    obtain ⟨h1, h2⟩ := pd_tup h
    have t : isB (.tup ds) "tuple" = true := rfl
    by_cases c : (ds.length : Int) = many
    · simp only [t, Bool.not_true, Bool.false_eq_true, if_false, wR_bnd, wR_ret, wR_rd, wR_lo, wR_lof, wR_chk, wR_ite, wR_call, wR_runF, wR_newL, wR_chn, wS_seq, wS_bnd, wS_nxt, wS_ret, wS_set, wS_brk, wS_cnt, wS_rz0, wS_rz, wS_ite, wS_setIx, wS_try, wS_end, startD, List.map_cons, List.map_nil, List.length_cons, List.length_nil, List.replicate, List.cons_append, List.nil_append, List.getElem?_cons_zero, List.getElem?_cons_succ, List.set_cons_zero, List.set_cons_succ, Option.some.injEq, exists_eq_left', Nat.reduceAdd, Nat.reduceSub, D.int.injEq, D.bl.injEq, addD_i, subD_i, mulD_i, fdivD_i, modD_i, ltD_i, leD_i, gtD_i, geD_i, tb_b, toI_i, intF_i, absF_i, ixD_o, ixD_tl, ixD_tup, lenF_o, lenF_tl, lenF_tup, lenF_fz, objL_o, tyOk_o, Option.bind_some, Option.map_some, Option.isSome_some, Prod.mk.injEq, and_assoc, exists_and_left, decide_eq_true_eq, Option.ite_none_right_eq_some, true_and, lenF_tup, neD_i, c, decide_true, toSrc, seqD]
      rw [wR_compP (its := ds) (g := fun x => btB x 0 (stock - 1)) rfl (Nat.le_trans h1 (k_size hk)) fun x hx => eq_of_wR ?_]
      · simp only [allF_map, startD, List.map_cons, List.map_nil, List.length_cons, List.length_nil, List.replicate, List.cons_append, List.nil_append, List.getElem?_cons_zero, List.getElem?_cons_succ, List.set_cons_zero, List.set_cons_succ, Option.some.injEq, exists_eq_left', Nat.reduceAdd, Nat.reduceSub, D.int.injEq, D.bl.injEq, addD_i, subD_i, mulD_i, fdivD_i, modD_i, ltD_i, leD_i, gtD_i, geD_i, tb_b, toI_i, intF_i, absF_i, ixD_o, ixD_tl, ixD_tup, lenF_o, lenF_tl, lenF_tup, lenF_fz, objL_o, tyOk_o, Option.bind_some, Option.map_some, Option.isSome_some, Prod.mk.injEq, and_assoc, exists_and_left, decide_eq_true_eq, Option.ite_none_right_eq_some, true_and, areB, rowsB, c, decide_true, Bool.true_and, and_self]
      · have hp := pds_mem h2 x hx
        simp only [wipeD, wR_bnd, wR_ret, wR_rd, wR_lo, wR_lof, wR_chk, wR_ite, wR_call, wR_runF, wR_newL, wR_chn, wS_seq, wS_bnd, wS_nxt, wS_ret, wS_set, wS_brk, wS_cnt, wS_rz0, wS_rz, wS_ite, wS_setIx, wS_try, wS_end, startD, List.map_cons, List.map_nil, List.length_cons, List.length_nil, List.replicate, List.cons_append, List.nil_append, List.getElem?_cons_zero, List.getElem?_cons_succ, List.set_cons_zero, List.set_cons_succ, Option.some.injEq, exists_eq_left', Nat.reduceAdd, Nat.reduceSub, D.int.injEq, D.bl.injEq, addD_i, subD_i, mulD_i, fdivD_i, modD_i, ltD_i, leD_i, gtD_i, geD_i, tb_b, toI_i, intF_i, absF_i, ixD_o, ixD_tl, ixD_tup, lenF_o, lenF_tl, lenF_tup, lenF_fz, objL_o, tyOk_o, Option.bind_some, Option.map_some, Option.isSome_some, Prod.mk.injEq, and_assoc, exists_and_left, decide_eq_true_eq, Option.ite_none_right_eq_some, true_and, isi_pd hp (T := "int") (.inl rfl), isi_pd hp (T := "bool") (.inr (.inl rfl))]
        cases x with
        | int i =>
          have e1 : isB (.int i) "int" = true := rfl
          have e2 : isB (.int i) "bool" = false := by simp [isB, tyB]
          simp only [e1, e2, if_true, Bool.not_false, wR_bnd, wR_ret, wR_rd, wR_lo, wR_lof, wR_chk, wR_ite, wR_call, wR_runF, wR_newL, wR_chn, wS_seq, wS_bnd, wS_nxt, wS_ret, wS_set, wS_brk, wS_cnt, wS_rz0, wS_rz, wS_ite, wS_setIx, wS_try, wS_end, startD, List.map_cons, List.map_nil, List.length_cons, List.length_nil, List.replicate, List.cons_append, List.nil_append, List.getElem?_cons_zero, List.getElem?_cons_succ, List.set_cons_zero, List.set_cons_succ, Option.some.injEq, exists_eq_left', Nat.reduceAdd, Nat.reduceSub, D.int.injEq, D.bl.injEq, addD_i, subD_i, mulD_i, fdivD_i, modD_i, ltD_i, leD_i, gtD_i, geD_i, tb_b, toI_i, intF_i, absF_i, ixD_o, ixD_tl, ixD_tup, lenF_o, lenF_tl, lenF_tup, lenF_fz, objL_o, tyOk_o, Option.bind_some, Option.map_some, Option.isSome_some, Prod.mk.injEq, and_assoc, exists_and_left, decide_eq_true_eq, Option.ite_none_right_eq_some, true_and, btB]
          by_cases c0 : 0 ≤ i
          · simp only [c0, decide_true, if_true, wR_bnd, wR_ret, wR_rd, wR_lo, wR_lof, wR_chk, wR_ite, wR_call, wR_runF, wR_newL, wR_chn, wS_seq, wS_bnd, wS_nxt, wS_ret, wS_set, wS_brk, wS_cnt, wS_rz0, wS_rz, wS_ite, wS_setIx, wS_try, wS_end, startD, List.map_cons, List.map_nil, List.length_cons, List.length_nil, List.replicate, List.cons_append, List.nil_append, List.getElem?_cons_zero, List.getElem?_cons_succ, List.set_cons_zero, List.set_cons_succ, Option.some.injEq, exists_eq_left', Nat.reduceAdd, Nat.reduceSub, D.int.injEq, D.bl.injEq, addD_i, subD_i, mulD_i, fdivD_i, modD_i, ltD_i, leD_i, gtD_i, geD_i, tb_b, toI_i, intF_i, absF_i, ixD_o, ixD_tl, ixD_tup, lenF_o, lenF_tl, lenF_tup, lenF_fz, objL_o, tyOk_o, Option.bind_some, Option.map_some, Option.isSome_some, Prod.mk.injEq, and_assoc, exists_and_left, decide_eq_true_eq, Option.ite_none_right_eq_some, true_and, Bool.true_and, and_true]
            rw [decide_eq_decide]
            omega
          · simp [c0, wR_ret]
        | _ => first | (simp [pd] at hp; done) | (simp [isB, tyB, btB, wR_ret])
    · simp [t, wR_bnd, wR_ret, wR_rd, wR_lo, wR_lof, wR_chk, wR_ite, wR_call, wR_runF, wR_newL, wR_chn, wS_seq, wS_bnd, wS_nxt, wS_ret, wS_set, wS_brk, wS_cnt, wS_rz0, wS_rz, wS_ite, wS_setIx, wS_try, wS_end, startD, List.map_cons, List.map_nil, List.length_cons, List.length_nil, List.replicate, List.cons_append, List.nil_append, List.getElem?_cons_zero, List.getElem?_cons_succ, List.set_cons_zero, List.set_cons_succ, Option.some.injEq, exists_eq_left', Nat.reduceAdd, Nat.reduceSub, D.int.injEq, D.bl.injEq, addD_i, subD_i, mulD_i, fdivD_i, modD_i, ltD_i, leD_i, gtD_i, geD_i, tb_b, toI_i, intF_i, absF_i, ixD_o, ixD_tl, ixD_tup, lenF_o, lenF_tl, lenF_tup, lenF_fz, objL_o, tyOk_o, Option.bind_some, Option.map_some, Option.isSome_some, Prod.mk.injEq, and_assoc, exists_and_left, decide_eq_true_eq, Option.ite_none_right_eq_some, true_and, lenF_tup, neD_i, areB, rowsB, c]
  | _ => first | (simp [pd] at h; done) | (simp [isB, tyB, areB, rowsB, wR_ret, wS_bnd, wS_ret])
def wds : List Str := ["same", "newer", "elder", "apart"]
def wdB (d : D) : Bool := match d with
  | .str s => inV (.str s) (wds.map V.str)
  | _ => false
theorem flat_strs : ∀ ws : List Str, allOf flat (ws.map D.str) = some (ws.map V.str)
  | [] => rfl
  | w :: ws => by simp [allOf, flat, flat_strs ws]
theorem in_tup {s : Str} {ws : List Str} : inD false (.str s) (.tup (ws.map D.str)) G = some (.bl (inV (.str s) (ws.map V.str))) := by
  show (match allOf flat (ws.map D.str) with
    | some vs => some (D.bl (if false = true then !inV (.str s) vs else inV (.str s) vs))
    | none => none) = _
  rw [flat_strs]
  rfl
theorem in_tl {s : Str} {ws : List Str} : inD false (.str s) (.tl (ws.map D.str)) G = some (.bl (inV (.str s) (ws.map V.str))) := in_tup (G := G)
theorem w_words {many : Int} (hk : k ≤ 1000) (h : pd k d = true) : f_are_words [d, .int many] G = .ok (.bl (rowsB d wdB many)) G := by
  refine eq_of_wR ?_
  unfold f_are_words b_are_words
  simp only [wR_bnd, wR_ret, wR_rd, wR_lo, wR_lof, wR_chk, wR_ite, wR_call, wR_runF, wR_newL, wR_chn, wS_seq, wS_bnd, wS_nxt, wS_ret, wS_set, wS_brk, wS_cnt, wS_rz0, wS_rz, wS_ite, wS_setIx, wS_try, wS_end, startD, List.map_cons, List.map_nil, List.length_cons, List.length_nil, List.replicate, List.cons_append, List.nil_append, List.getElem?_cons_zero, List.getElem?_cons_succ, List.set_cons_zero, List.set_cons_succ, Option.some.injEq, exists_eq_left', Nat.reduceAdd, Nat.reduceSub, D.int.injEq, D.bl.injEq, addD_i, subD_i, mulD_i, fdivD_i, modD_i, ltD_i, leD_i, gtD_i, geD_i, tb_b, toI_i, intF_i, absF_i, ixD_o, ixD_tl, ixD_tup, lenF_o, lenF_tl, lenF_tup, lenF_fz, objL_o, tyOk_o, Option.bind_some, Option.map_some, Option.isSome_some, Prod.mk.injEq, and_assoc, exists_and_left, decide_eq_true_eq, Option.ite_none_right_eq_some, true_and, w_tupof h, wR_ok, and_self]
  cases d with
  | tup ds =>
    obtain ⟨h1, h2⟩ := pd_tup h
    by_cases c : (ds.length : Int) = many
    · have t : tupB' (.tup ds) many = true := decide_eq_true c
      simp only [t, if_true, wR_bnd, wR_ret, wR_rd, wR_lo, wR_lof, wR_chk, wR_ite, wR_call, wR_runF, wR_newL, wR_chn, wS_seq, wS_bnd, wS_nxt, wS_ret, wS_set, wS_brk, wS_cnt, wS_rz0, wS_rz, wS_ite, wS_setIx, wS_try, wS_end, startD, List.map_cons, List.map_nil, List.length_cons, List.length_nil, List.replicate, List.cons_append, List.nil_append, List.getElem?_cons_zero, List.getElem?_cons_succ, List.set_cons_zero, List.set_cons_succ, Option.some.injEq, exists_eq_left', Nat.reduceAdd, Nat.reduceSub, D.int.injEq, D.bl.injEq, addD_i, subD_i, mulD_i, fdivD_i, modD_i, ltD_i, leD_i, gtD_i, geD_i, tb_b, toI_i, intF_i, absF_i, ixD_o, ixD_tl, ixD_tup, lenF_o, lenF_tl, lenF_tup, lenF_fz, objL_o, tyOk_o, Option.bind_some, Option.map_some, Option.isSome_some, Prod.mk.injEq, and_assoc, exists_and_left, decide_eq_true_eq, Option.ite_none_right_eq_some, true_and, toSrc, seqD]
      rw [wR_compP (its := ds) (g := wdB) rfl (Nat.le_trans h1 (k_size hk)) fun x hx => eq_of_wR ?_]
      · simp only [allF_map, startD, List.map_cons, List.map_nil, List.length_cons, List.length_nil, List.replicate, List.cons_append, List.nil_append, List.getElem?_cons_zero, List.getElem?_cons_succ, List.set_cons_zero, List.set_cons_succ, Option.some.injEq, exists_eq_left', Nat.reduceAdd, Nat.reduceSub, D.int.injEq, D.bl.injEq, addD_i, subD_i, mulD_i, fdivD_i, modD_i, ltD_i, leD_i, gtD_i, geD_i, tb_b, toI_i, intF_i, absF_i, ixD_o, ixD_tl, ixD_tup, lenF_o, lenF_tl, lenF_tup, lenF_fz, objL_o, tyOk_o, Option.bind_some, Option.map_some, Option.isSome_some, Prod.mk.injEq, and_assoc, exists_and_left, decide_eq_true_eq, Option.ite_none_right_eq_some, true_and, rowsB, c, decide_true, Bool.true_and, and_self]
      · have hp := pds_mem h2 x hx
        simp only [wipeD, wR_bnd, wR_ret, wR_rd, wR_lo, wR_lof, wR_chk, wR_ite, wR_call, wR_runF, wR_newL, wR_chn, wS_seq, wS_bnd, wS_nxt, wS_ret, wS_set, wS_brk, wS_cnt, wS_rz0, wS_rz, wS_ite, wS_setIx, wS_try, wS_end, startD, List.getElem?_cons_zero, List.getElem?_cons_succ, List.set_cons_zero, List.set_cons_succ, Option.some.injEq, exists_eq_left', tb_b, isi_pd hp (T := "str") (.inr (.inr (.inr rfl)))]
        cases x with
        | str s =>
          have e1 : isB (.str s) "str" = true := rfl
          simp only [e1, if_true, wR_bnd, wR_rd, wR_lo, wR_ret, List.getElem?_cons_zero, List.getElem?_cons_succ, Option.some.injEq, exists_eq_left', in_tup]
          exact ⟨_, in_tup (ws := wds), rfl, trivial⟩
        | _ => first | (simp [pd] at hp; done) | (simp [isB, tyB, wdB, wR_ret])
    · have t : tupB' (.tup ds) many = false := decide_eq_false c
      simp [t, wR_bnd, wR_ret, wR_rd, wR_lo, wR_lof, wR_chk, wR_ite, wR_call, wR_runF, wR_newL, wR_chn, wS_seq, wS_bnd, wS_nxt, wS_ret, wS_set, wS_brk, wS_cnt, wS_rz0, wS_rz, wS_ite, wS_setIx, wS_try, wS_end, startD, List.map_cons, List.map_nil, List.length_cons, List.length_nil, List.replicate, List.cons_append, List.nil_append, List.getElem?_cons_zero, List.getElem?_cons_succ, List.set_cons_zero, List.set_cons_succ, Option.some.injEq, exists_eq_left', Nat.reduceAdd, Nat.reduceSub, D.int.injEq, D.bl.injEq, addD_i, subD_i, mulD_i, fdivD_i, modD_i, ltD_i, leD_i, gtD_i, geD_i, tb_b, toI_i, intF_i, absF_i, ixD_o, ixD_tl, ixD_tup, lenF_o, lenF_tl, lenF_tup, lenF_fz, objL_o, tyOk_o, Option.bind_some, Option.map_some, Option.isSome_some, Prod.mk.injEq, and_assoc, exists_and_left, decide_eq_true_eq, Option.ite_none_right_eq_some, true_and, rowsB, c]
  | _ => simp [tupB', rowsB, wR_ret]
/-- the first part that is wrong -/
def manyB (changes : D) : Int := match changes with
  | .tup ds => ds.length
  | _ => 0
def wrB (first changes forks joins looks : D) : Option Str :=
  if (!(decide (1 ≤ manyB changes) && decide (manyB changes ≤ 400)) || !areB changes (manyB changes) (manyB changes)) = true then some "changes"
  else if (!btB first 0 (manyB changes - 1)) = true then some "first"
  else if (!rowsB forks (fun x => areB x 2 (manyB changes)) (manyB changes)) = true then some "forks"
  else if (!rowsB joins (fun x => areB x (manyB changes) (manyB changes)) (manyB changes)) = true then some "joins"
  else if (!isN looks && !rowsB looks (fun x => rowsB x wdB (manyB changes)) (manyB changes)) = true then some "looks"
  else none
def optD : Option Str → D
  | none => .non
  | some s => .str s
theorem tupB'_no {d : D} {n : Int} {p : D → Bool} (h : tupB' d n = false) : rowsB d p n = false := by
  cases d with
  | tup ds =>
    have : decide ((ds.length : Int) = n) = false := h
    simp [rowsB, this]
  | _ => rfl
theorem tupB'_yes {d : D} {n : Int} (h : tupB' d n = true) : ∃ ds, d = .tup ds ∧ (ds.length : Int) = n := by
  cases d with
  | tup ds => exact ⟨ds, rfl, of_decide_eq_true h⟩
  | _ => cases h
theorem w_wrong {first changes forks joins looks : D} (hk : k ≤ 1000) (h1 : pd k first = true) (h2 : pd k changes = true) (h3 : pd k forks = true) (h4 : pd k joins = true) (h5 : pd k looks = true) :
    f_wrong_part [first, changes, forks, joins, looks] G = .ok (optD (wrB first changes forks joins looks)) G := by
  refine eq_of_wR ?_
  unfold f_wrong_part b_wrong_part
  have hz : ∀ {ds : List D}, ds.length ≤ k → ds.length ≤ sizeLine := fun h => Nat.le_trans h (k_size hk)
  unfold wrB
  by_cases c : isB changes "tuple" = true
  case neg =>
    have c' : isB changes "tuple" = false := by simpa using c
    have hn : manyB changes = 0 := by cases changes <;> first | (simp [pd] at h2; done) | rfl | exact absurd rfl c
    simp only [wR_bnd, wR_ret, wR_rd, wR_lo, wR_lof, wR_chk, wR_ite, wR_call, wR_runF, wR_newL, wR_chn, wS_seq, wS_bnd, wS_nxt, wS_ret, wS_set, wS_brk, wS_cnt, wS_rz0, wS_rz, wS_ite, wS_setIx, wS_try, wS_end, startD, List.map_cons, List.map_nil, List.length_cons, List.length_nil, List.replicate, List.cons_append, List.nil_append, List.getElem?_cons_zero, List.getElem?_cons_succ, List.set_cons_zero, List.set_cons_succ, Option.some.injEq, exists_eq_left', Nat.reduceAdd, Nat.reduceSub, D.int.injEq, D.bl.injEq, addD_i, subD_i, mulD_i, fdivD_i, modD_i, ltD_i, leD_i, gtD_i, geD_i, tb_b, toI_i, intF_i, absF_i, ixD_o, ixD_tl, ixD_tup, lenF_o, lenF_tl, lenF_tup, lenF_fz, objL_o, tyOk_o, Option.bind_some, Option.map_some, Option.isSome_some, Prod.mk.injEq, and_assoc, exists_and_left, decide_eq_true_eq, Option.ite_none_right_eq_some, true_and, isi_pd h2 (T := "tuple") (.inr (.inr (.inl rfl))), c', Bool.false_eq_true, if_false, hn]
    simp [optD, wR_bnd, wR_ret, wR_rd, wR_lo, wR_lof, wR_chk, wR_ite, wR_call, wR_runF, wR_newL, wR_chn, wS_seq, wS_bnd, wS_nxt, wS_ret, wS_set, wS_brk, wS_cnt, wS_rz0, wS_rz, wS_ite, wS_setIx, wS_try, wS_end, startD, List.map_cons, List.map_nil, List.length_cons, List.length_nil, List.replicate, List.cons_append, List.nil_append, List.getElem?_cons_zero, List.getElem?_cons_succ, List.set_cons_zero, List.set_cons_succ, Option.some.injEq, exists_eq_left', Nat.reduceAdd, Nat.reduceSub, D.int.injEq, D.bl.injEq, addD_i, subD_i, mulD_i, fdivD_i, modD_i, ltD_i, leD_i, gtD_i, geD_i, tb_b, toI_i, intF_i, absF_i, ixD_o, ixD_tl, ixD_tup, lenF_o, lenF_tl, lenF_tup, lenF_fz, objL_o, tyOk_o, Option.bind_some, Option.map_some, Option.isSome_some, Prod.mk.injEq, and_assoc, exists_and_left, decide_eq_true_eq, Option.ite_none_right_eq_some, true_and]
  obtain ⟨cs, rfl⟩ : ∃ cs, changes = .tup cs := by
    cases changes <;> first | exact ⟨_, rfl⟩ | (simp [isB, tyB] at c)
  obtain ⟨n, hn⟩ : ∃ n : Int, n = (cs.length : Int) := ⟨_, rfl⟩
  have hm : manyB (.tup cs) = n := hn.symm
  simp only [hm]
  by_cases a1 : 1 ≤ n
  case neg =>
    simp only [wR_bnd, wR_ret, wR_rd, wR_lo, wR_lof, wR_chk, wR_ite, wR_call, wR_runF, wR_newL, wR_chn, wS_seq, wS_bnd, wS_nxt, wS_ret, wS_set, wS_brk, wS_cnt, wS_rz0, wS_rz, wS_ite, wS_setIx, wS_try, wS_end, startD, List.map_cons, List.map_nil, List.length_cons, List.length_nil, List.replicate, List.cons_append, List.nil_append, List.getElem?_cons_zero, List.getElem?_cons_succ, List.set_cons_zero, List.set_cons_succ, Option.some.injEq, exists_eq_left', Nat.reduceAdd, Nat.reduceSub, D.int.injEq, D.bl.injEq, addD_i, subD_i, mulD_i, fdivD_i, modD_i, ltD_i, leD_i, gtD_i, geD_i, tb_b, toI_i, intF_i, absF_i, ixD_o, ixD_tl, ixD_tup, lenF_o, lenF_tl, lenF_tup, lenF_fz, objL_o, tyOk_o, Option.bind_some, Option.map_some, Option.isSome_some, Prod.mk.injEq, and_assoc, exists_and_left, decide_eq_true_eq, Option.ite_none_right_eq_some, true_and, isi_pd h2 (T := "tuple") (.inr (.inr (.inl rfl))), c, if_true, ← hn, a1, decide_false, Bool.false_eq_true, if_false]
    simp [optD, a1, wR_bnd, wR_ret, wR_rd, wR_lo, wR_lof, wR_chk, wR_ite, wR_call, wR_runF, wR_newL, wR_chn, wS_seq, wS_bnd, wS_nxt, wS_ret, wS_set, wS_brk, wS_cnt, wS_rz0, wS_rz, wS_ite, wS_setIx, wS_try, wS_end, startD, List.map_cons, List.map_nil, List.length_cons, List.length_nil, List.replicate, List.cons_append, List.nil_append, List.getElem?_cons_zero, List.getElem?_cons_succ, List.set_cons_zero, List.set_cons_succ, Option.some.injEq, exists_eq_left', Nat.reduceAdd, Nat.reduceSub, D.int.injEq, D.bl.injEq, addD_i, subD_i, mulD_i, fdivD_i, modD_i, ltD_i, leD_i, gtD_i, geD_i, tb_b, toI_i, intF_i, absF_i, ixD_o, ixD_tl, ixD_tup, lenF_o, lenF_tl, lenF_tup, lenF_fz, objL_o, tyOk_o, Option.bind_some, Option.map_some, Option.isSome_some, Prod.mk.injEq, and_assoc, exists_and_left, decide_eq_true_eq, Option.ite_none_right_eq_some, true_and]
  by_cases a2 : n ≤ 400
  case neg =>
    simp only [wR_bnd, wR_ret, wR_rd, wR_lo, wR_lof, wR_chk, wR_ite, wR_call, wR_runF, wR_newL, wR_chn, wS_seq, wS_bnd, wS_nxt, wS_ret, wS_set, wS_brk, wS_cnt, wS_rz0, wS_rz, wS_ite, wS_setIx, wS_try, wS_end, startD, List.map_cons, List.map_nil, List.length_cons, List.length_nil, List.replicate, List.cons_append, List.nil_append, List.getElem?_cons_zero, List.getElem?_cons_succ, List.set_cons_zero, List.set_cons_succ, Option.some.injEq, exists_eq_left', Nat.reduceAdd, Nat.reduceSub, D.int.injEq, D.bl.injEq, addD_i, subD_i, mulD_i, fdivD_i, modD_i, ltD_i, leD_i, gtD_i, geD_i, tb_b, toI_i, intF_i, absF_i, ixD_o, ixD_tl, ixD_tup, lenF_o, lenF_tl, lenF_tup, lenF_fz, objL_o, tyOk_o, Option.bind_some, Option.map_some, Option.isSome_some, Prod.mk.injEq, and_assoc, exists_and_left, decide_eq_true_eq, Option.ite_none_right_eq_some, true_and, isi_pd h2 (T := "tuple") (.inr (.inr (.inl rfl))), c, if_true, ← hn, a1, a2, decide_true, decide_false, Bool.false_eq_true, if_false]
    simp [optD, a1, a2, wR_bnd, wR_ret, wR_rd, wR_lo, wR_lof, wR_chk, wR_ite, wR_call, wR_runF, wR_newL, wR_chn, wS_seq, wS_bnd, wS_nxt, wS_ret, wS_set, wS_brk, wS_cnt, wS_rz0, wS_rz, wS_ite, wS_setIx, wS_try, wS_end, startD, List.map_cons, List.map_nil, List.length_cons, List.length_nil, List.replicate, List.cons_append, List.nil_append, List.getElem?_cons_zero, List.getElem?_cons_succ, List.set_cons_zero, List.set_cons_succ, Option.some.injEq, exists_eq_left', Nat.reduceAdd, Nat.reduceSub, D.int.injEq, D.bl.injEq, addD_i, subD_i, mulD_i, fdivD_i, modD_i, ltD_i, leD_i, gtD_i, geD_i, tb_b, toI_i, intF_i, absF_i, ixD_o, ixD_tl, ixD_tup, lenF_o, lenF_tl, lenF_tup, lenF_fz, objL_o, tyOk_o, Option.bind_some, Option.map_some, Option.isSome_some, Prod.mk.injEq, and_assoc, exists_and_left, decide_eq_true_eq, Option.ite_none_right_eq_some, true_and]
  by_cases a3 : areB (.tup cs) n n = true
  case neg =>
    have a3' : areB (.tup cs) n n = false := by simpa using a3
    simp only [wR_bnd, wR_ret, wR_rd, wR_lo, wR_lof, wR_chk, wR_ite, wR_call, wR_runF, wR_newL, wR_chn, wS_seq, wS_bnd, wS_nxt, wS_ret, wS_set, wS_brk, wS_cnt, wS_rz0, wS_rz, wS_ite, wS_setIx, wS_try, wS_end, startD, List.map_cons, List.map_nil, List.length_cons, List.length_nil, List.replicate, List.cons_append, List.nil_append, List.getElem?_cons_zero, List.getElem?_cons_succ, List.set_cons_zero, List.set_cons_succ, Option.some.injEq, exists_eq_left', Nat.reduceAdd, Nat.reduceSub, D.int.injEq, D.bl.injEq, addD_i, subD_i, mulD_i, fdivD_i, modD_i, ltD_i, leD_i, gtD_i, geD_i, tb_b, toI_i, intF_i, absF_i, ixD_o, ixD_tl, ixD_tup, lenF_o, lenF_tl, lenF_tup, lenF_fz, objL_o, tyOk_o, Option.bind_some, Option.map_some, Option.isSome_some, Prod.mk.injEq, and_assoc, exists_and_left, decide_eq_true_eq, Option.ite_none_right_eq_some, true_and, isi_pd h2 (T := "tuple") (.inr (.inr (.inl rfl))), c, if_true, ← hn, a1, a2, decide_true, Bool.not_true, Bool.false_eq_true, if_false, w_stamps hk h2, wR_ok, a3', Bool.not_false, and_self]
    simp [optD, a1, a2, a3', wR_bnd, wR_ret, wR_rd, wR_lo, wR_lof, wR_chk, wR_ite, wR_call, wR_runF, wR_newL, wR_chn, wS_seq, wS_bnd, wS_nxt, wS_ret, wS_set, wS_brk, wS_cnt, wS_rz0, wS_rz, wS_ite, wS_setIx, wS_try, wS_end, startD, List.map_cons, List.map_nil, List.length_cons, List.length_nil, List.replicate, List.cons_append, List.nil_append, List.getElem?_cons_zero, List.getElem?_cons_succ, List.set_cons_zero, List.set_cons_succ, Option.some.injEq, exists_eq_left', Nat.reduceAdd, Nat.reduceSub, D.int.injEq, D.bl.injEq, addD_i, subD_i, mulD_i, fdivD_i, modD_i, ltD_i, leD_i, gtD_i, geD_i, tb_b, toI_i, intF_i, absF_i, ixD_o, ixD_tl, ixD_tup, lenF_o, lenF_tl, lenF_tup, lenF_fz, objL_o, tyOk_o, Option.bind_some, Option.map_some, Option.isSome_some, Prod.mk.injEq, and_assoc, exists_and_left, decide_eq_true_eq, Option.ite_none_right_eq_some, true_and]
  by_cases a4 : btB first 0 (n - 1) = true
  case neg =>
    have a4' : btB first 0 (n - 1) = false := by simpa using a4
    simp only [wR_bnd, wR_ret, wR_rd, wR_lo, wR_lof, wR_chk, wR_ite, wR_call, wR_runF, wR_newL, wR_chn, wS_seq, wS_bnd, wS_nxt, wS_ret, wS_set, wS_brk, wS_cnt, wS_rz0, wS_rz, wS_ite, wS_setIx, wS_try, wS_end, startD, List.map_cons, List.map_nil, List.length_cons, List.length_nil, List.replicate, List.cons_append, List.nil_append, List.getElem?_cons_zero, List.getElem?_cons_succ, List.set_cons_zero, List.set_cons_succ, Option.some.injEq, exists_eq_left', Nat.reduceAdd, Nat.reduceSub, D.int.injEq, D.bl.injEq, addD_i, subD_i, mulD_i, fdivD_i, modD_i, ltD_i, leD_i, gtD_i, geD_i, tb_b, toI_i, intF_i, absF_i, ixD_o, ixD_tl, ixD_tup, lenF_o, lenF_tl, lenF_tup, lenF_fz, objL_o, tyOk_o, Option.bind_some, Option.map_some, Option.isSome_some, Prod.mk.injEq, and_assoc, exists_and_left, decide_eq_true_eq, Option.ite_none_right_eq_some, true_and, isi_pd h2 (T := "tuple") (.inr (.inr (.inl rfl))), c, if_true, ← hn, a1, a2, decide_true, Bool.not_true, Bool.false_eq_true, if_false, w_stamps hk h2, wR_ok, a3, Bool.not_false, and_self, w_index h1, a4']
    simp [optD, a1, a2, a3, a4', wR_bnd, wR_ret, wR_rd, wR_lo, wR_lof, wR_chk, wR_ite, wR_call, wR_runF, wR_newL, wR_chn, wS_seq, wS_bnd, wS_nxt, wS_ret, wS_set, wS_brk, wS_cnt, wS_rz0, wS_rz, wS_ite, wS_setIx, wS_try, wS_end, startD, List.map_cons, List.map_nil, List.length_cons, List.length_nil, List.replicate, List.cons_append, List.nil_append, List.getElem?_cons_zero, List.getElem?_cons_succ, List.set_cons_zero, List.set_cons_succ, Option.some.injEq, exists_eq_left', Nat.reduceAdd, Nat.reduceSub, D.int.injEq, D.bl.injEq, addD_i, subD_i, mulD_i, fdivD_i, modD_i, ltD_i, leD_i, gtD_i, geD_i, tb_b, toI_i, intF_i, absF_i, ixD_o, ixD_tl, ixD_tup, lenF_o, lenF_tl, lenF_tup, lenF_fz, objL_o, tyOk_o, Option.bind_some, Option.map_some, Option.isSome_some, Prod.mk.injEq, and_assoc, exists_and_left, decide_eq_true_eq, Option.ite_none_right_eq_some, true_and]
  simp only [a1, a2, a3, a4, decide_true, Bool.and_self, Bool.not_true, Bool.or_self, Bool.false_eq_true, if_false]
  simp only [wR_bnd, wR_ret, wR_rd, wR_lo, wR_lof, wR_chk, wR_ite, wR_call, wR_runF, wR_newL, wR_chn, wS_seq, wS_bnd, wS_nxt, wS_ret, wS_set, wS_brk, wS_cnt, wS_rz0, wS_rz, wS_ite, wS_setIx, wS_try, wS_end, startD, List.map_cons, List.map_nil, List.length_cons, List.length_nil, List.replicate, List.cons_append, List.nil_append, List.getElem?_cons_zero, List.getElem?_cons_succ, List.set_cons_zero, List.set_cons_succ, Option.some.injEq, exists_eq_left', Nat.reduceAdd, Nat.reduceSub, D.int.injEq, D.bl.injEq, addD_i, subD_i, mulD_i, fdivD_i, modD_i, ltD_i, leD_i, gtD_i, geD_i, tb_b, toI_i, intF_i, absF_i, ixD_o, ixD_tl, ixD_tup, lenF_o, lenF_tl, lenF_tup, lenF_fz, objL_o, tyOk_o, Option.bind_some, Option.map_some, Option.isSome_some, Prod.mk.injEq, and_assoc, exists_and_left, decide_eq_true_eq, Option.ite_none_right_eq_some, true_and, isi_pd h2 (T := "tuple") (.inr (.inr (.inl rfl))), c, if_true, ← hn, a1, a2, decide_true, Bool.not_true, Bool.false_eq_true, if_false, w_stamps hk h2, wR_ok, a3, Bool.not_false, and_self, w_index h1, a4, w_tupof h3, w_tupof h4, w_tupof h5]
  by_cases b1 : tupB' forks n = true
  case neg =>
    have q : tupB' forks n = false := by simpa using b1
    simp [q, tupB'_no q, optD]
  obtain ⟨fs, rfl, bf⟩ := tupB'_yes b1
  obtain ⟨bh, bg⟩ := pd_tup h3
  simp only [b1, Bool.not_true, Bool.false_eq_true, if_false, if_true, toSrc, seqD, Option.some.injEq, exists_eq_left']
  rw [wR_compP (its := fs) (g := fun x => areB x 2 n) rfl (hz bh) fun x hx => eq_of_wR (by simp only [wipeD, wR_bnd, wR_ret, wR_rd, wR_lo, wR_lof, wR_chk, wR_ite, wR_call, wR_runF, wR_newL, wR_chn, wS_seq, wS_bnd, wS_nxt, wS_ret, wS_set, wS_brk, wS_cnt, wS_rz0, wS_rz, wS_ite, wS_setIx, wS_try, wS_end, startD, List.map_cons, List.map_nil, List.length_cons, List.length_nil, List.replicate, List.cons_append, List.nil_append, List.getElem?_cons_zero, List.getElem?_cons_succ, List.set_cons_zero, List.set_cons_succ, Option.some.injEq, exists_eq_left', Nat.reduceAdd, Nat.reduceSub, D.int.injEq, D.bl.injEq, addD_i, subD_i, mulD_i, fdivD_i, modD_i, ltD_i, leD_i, gtD_i, geD_i, tb_b, toI_i, intF_i, absF_i, ixD_o, ixD_tl, ixD_tup, lenF_o, lenF_tl, lenF_tup, lenF_fz, objL_o, tyOk_o, Option.bind_some, Option.map_some, Option.isSome_some, Prod.mk.injEq, and_assoc, exists_and_left, decide_eq_true_eq, Option.ite_none_right_eq_some, true_and, w_stamps hk (pds_mem bg x hx), wR_ok, and_self])]
  have be : rowsB (.tup fs) (fun x => areB x 2 n) n = fs.all (fun x => areB x 2 n) := by simp [rowsB, bf]
  simp only [allF_map, Option.some.injEq, exists_eq_left', tb_b, be]
  by_cases b2 : fs.all (fun x => areB x 2 n) = true
  case neg =>
    have q : fs.all (fun x => areB x 2 n) = false := by simpa using b2
    simp only [q, Bool.not_false, if_true, optD, and_self, Bool.and_true]
  simp only [b2, Bool.not_true, Bool.false_eq_true, if_false]
  by_cases d1 : tupB' joins n = true
  case neg =>
    have q : tupB' joins n = false := by simpa using d1
    simp [q, tupB'_no q, optD]
  obtain ⟨js, rfl, df⟩ := tupB'_yes d1
  obtain ⟨dh, dg⟩ := pd_tup h4
  simp only [d1, Bool.not_true, Bool.false_eq_true, if_false, if_true, toSrc, seqD, Option.some.injEq, exists_eq_left']
  rw [wR_compP (its := js) (g := fun x => areB x n n) rfl (hz dh) fun x hx => eq_of_wR (by simp only [wipeD, wR_bnd, wR_ret, wR_rd, wR_lo, wR_lof, wR_chk, wR_ite, wR_call, wR_runF, wR_newL, wR_chn, wS_seq, wS_bnd, wS_nxt, wS_ret, wS_set, wS_brk, wS_cnt, wS_rz0, wS_rz, wS_ite, wS_setIx, wS_try, wS_end, startD, List.map_cons, List.map_nil, List.length_cons, List.length_nil, List.replicate, List.cons_append, List.nil_append, List.getElem?_cons_zero, List.getElem?_cons_succ, List.set_cons_zero, List.set_cons_succ, Option.some.injEq, exists_eq_left', Nat.reduceAdd, Nat.reduceSub, D.int.injEq, D.bl.injEq, addD_i, subD_i, mulD_i, fdivD_i, modD_i, ltD_i, leD_i, gtD_i, geD_i, tb_b, toI_i, intF_i, absF_i, ixD_o, ixD_tl, ixD_tup, lenF_o, lenF_tl, lenF_tup, lenF_fz, objL_o, tyOk_o, Option.bind_some, Option.map_some, Option.isSome_some, Prod.mk.injEq, and_assoc, exists_and_left, decide_eq_true_eq, Option.ite_none_right_eq_some, true_and, w_stamps hk (pds_mem dg x hx), wR_ok, and_self])]
  have de : rowsB (.tup js) (fun x => areB x n n) n = js.all (fun x => areB x n n) := by simp [rowsB, df]
  simp only [allF_map, Option.some.injEq, exists_eq_left', tb_b, de]
  by_cases d2 : js.all (fun x => areB x n n) = true
  case neg =>
    have q : js.all (fun x => areB x n n) = false := by simpa using d2
    simp only [q, Bool.not_false, if_true, optD, and_self, Bool.and_true]
  simp only [d2, Bool.not_true, Bool.false_eq_true, if_false, isntD, Option.some.injEq, exists_eq_left', tb_b]
  by_cases l0 : isN looks = true
  case pos => simp [l0, optD]
  have l0' : isN looks = false := by simpa using l0
  simp only [l0', Bool.not_false, if_true]
  by_cases e1 : tupB' looks n = true
  case neg =>
    have q : tupB' looks n = false := by simpa using e1
    simp [q, tupB'_no q, optD]
  obtain ⟨ls, rfl, ef⟩ := tupB'_yes e1
  obtain ⟨eh, eg⟩ := pd_tup h5
  simp only [e1, Bool.not_true, Bool.false_eq_true, if_false, if_true, toSrc, seqD, Option.some.injEq, exists_eq_left']
  rw [wR_compP (its := ls) (g := fun x => rowsB x wdB n) rfl (hz eh) fun x hx => eq_of_wR (by simp only [wipeD, wR_bnd, wR_ret, wR_rd, wR_lo, wR_lof, wR_chk, wR_ite, wR_call, wR_runF, wR_newL, wR_chn, wS_seq, wS_bnd, wS_nxt, wS_ret, wS_set, wS_brk, wS_cnt, wS_rz0, wS_rz, wS_ite, wS_setIx, wS_try, wS_end, startD, List.map_cons, List.map_nil, List.length_cons, List.length_nil, List.replicate, List.cons_append, List.nil_append, List.getElem?_cons_zero, List.getElem?_cons_succ, List.set_cons_zero, List.set_cons_succ, Option.some.injEq, exists_eq_left', Nat.reduceAdd, Nat.reduceSub, D.int.injEq, D.bl.injEq, addD_i, subD_i, mulD_i, fdivD_i, modD_i, ltD_i, leD_i, gtD_i, geD_i, tb_b, toI_i, intF_i, absF_i, ixD_o, ixD_tl, ixD_tup, lenF_o, lenF_tl, lenF_tup, lenF_fz, objL_o, tyOk_o, Option.bind_some, Option.map_some, Option.isSome_some, Prod.mk.injEq, and_assoc, exists_and_left, decide_eq_true_eq, Option.ite_none_right_eq_some, true_and, w_words hk (pds_mem eg x hx), wR_ok, and_self])]
  have ee : rowsB (.tup ls) (fun x => rowsB x wdB n) n = ls.all (fun x => rowsB x wdB n) := by simp [rowsB, ef]
  simp only [allF_map, Option.some.injEq, exists_eq_left', tb_b, ee]
  by_cases e2 : ls.all (fun x => rowsB x wdB n) = true
  case neg =>
    have q : ls.all (fun x => rowsB x wdB n) = false := by simpa using e2
    simp only [q, Bool.not_false, if_true, optD, and_self, Bool.and_true]
  simp [e2, optD]
end
end K12
end M3
end L2

set_option Elab.async false
set_option linter.all false
set_option maxRecDepth 100000
set_option maxHeartbeats 2000000
namespace L2
namespace M3
namespace K12
open PySem PySem.Spec PyProof.Rows
section
variable {k : Nat} {d : D} {G : Gs} {X : Exc → Gs → Prop}
theorem are_one {d : D} {n : Int} : areB (.tup [d]) 1 n = btB d 0 (n - 1) := by simp [areB, rowsB]
theorem isT_tup {d : D} (h : pd k d = true) (c : isB d "tuple" = true) : ∃ ds, d = .tup ds := by
  cases d <;> first | exact ⟨_, rfl⟩ | (simp [isB, tyB] at c)
theorem isT_no {d : D} {n : Int} {p : D → Bool} (c : isB d "tuple" = false) : rowsB d p n = false := by
  cases d <;> first | rfl | (simp [isB, tyB] at c)
theorem rowsB_bad {ls : List D} {q : D → Bool} {n : Int} {x : D} (hx : x ∈ ls) (z : q x = false) : rowsB (.tup ls) q n = false := by
  simp only [rowsB]
  rw [Bool.and_eq_false_iff]
  refine .inr ?_
  rw [List.all_eq_false]
  exact ⟨x, hx, by rw [z]; simp⟩
theorem w_due {first changes forks joins looks : D} (hk : k ≤ 1000) (hk1 : 1 ≤ k) (h1 : pd k first = true) (h2 : pd k changes = true) (h3 : pd k forks = true) (h4 : pd k joins = true) (h5 : pd k looks = true) :
    f__law_due [.tup [first, changes, forks, joins, looks]] G = .ok (.str ((wrB first changes forks joins looks).getD "let")) G := by
  refine eq_of_wR ?_
  unfold f__law_due b__law_due
  have hz : ∀ {ds : List D}, ds.length ≤ k → ds.length ≤ sizeLine := fun h => Nat.le_trans h (k_size hk)
  have p1 : pd k (.tup [first]) = true := by simp [pd, pds, h1, hk1]
  have z1 : [first].length ≤ sizeLine := hz hk1
  have z2 : 1 ≤ sizeLine := z1
  have hT : ∀ {d : D}, pd k d = true → isiF TT.tf [d, .ty "tuple"] G = some (.bl (isB d "tuple")) := fun h => isi_pd h (T := "tuple") (.inr (.inr (.inl rfl)))
  have tp : ∀ {l : Sl} {E : Kt}, wS (tgS (.tp [2, 1, 3, 4, 5]) (.tup [first, changes, forks, joins, looks]) l G) E = E.nx (setAll [2, 1, 3, 4, 5] [first, changes, forks, joins, looks] l) G := wS_tp rfl
  unfold wrB
  by_cases c : isB changes "tuple" = true
  case neg =>
    have c' : isB changes "tuple" = false := by simpa using c
    have hn : manyB changes = 0 := by cases changes <;> first | (simp [pd] at h2; done) | rfl | exact absurd rfl c
    simp only [wR_bnd, wR_ret, wR_rd, wR_lo, wR_lof, wR_chk, wR_ite, wR_call, wR_runF, wR_newL, wR_chn, wS_seq, wS_bnd, wS_nxt, wS_ret, wS_set, wS_brk, wS_cnt, wS_rz0, wS_rz, wS_ite, wS_setIx, wS_try, wS_end, startD, List.map_cons, List.map_nil, List.length_cons, List.length_nil, List.replicate, List.cons_append, List.nil_append, List.getElem?_cons_zero, List.getElem?_cons_succ, List.set_cons_zero, List.set_cons_succ, Option.some.injEq, exists_eq_left', Nat.reduceAdd, Nat.reduceSub, D.int.injEq, D.bl.injEq, addD_i, subD_i, mulD_i, fdivD_i, modD_i, ltD_i, leD_i, gtD_i, geD_i, tb_b, toI_i, intF_i, absF_i, ixD_o, ixD_tl, ixD_tup, lenF_o, lenF_tl, lenF_tup, lenF_fz, objL_o, tyOk_o, Option.bind_some, Option.map_some, Option.isSome_some, Prod.mk.injEq, and_assoc, exists_and_left, decide_eq_true_eq, Option.ite_none_right_eq_some, true_and, tp, setAll, hT h2, c', Bool.false_eq_true, if_false, hn]
    simp [wR_bnd, wR_ret, wR_rd, wR_lo, wR_lof, wR_chk, wR_ite, wR_call, wR_runF, wR_newL, wR_chn, wS_seq, wS_bnd, wS_nxt, wS_ret, wS_set, wS_brk, wS_cnt, wS_rz0, wS_rz, wS_ite, wS_setIx, wS_try, wS_end, startD, List.map_cons, List.map_nil, List.length_cons, List.length_nil, List.replicate, List.cons_append, List.nil_append, List.getElem?_cons_zero, List.getElem?_cons_succ, List.set_cons_zero, List.set_cons_succ, Option.some.injEq, exists_eq_left', Nat.reduceAdd, Nat.reduceSub, D.int.injEq, D.bl.injEq, addD_i, subD_i, mulD_i, fdivD_i, modD_i, ltD_i, leD_i, gtD_i, geD_i, tb_b, toI_i, intF_i, absF_i, ixD_o, ixD_tl, ixD_tup, lenF_o, lenF_tl, lenF_tup, lenF_fz, objL_o, tyOk_o, Option.bind_some, Option.map_some, Option.isSome_some, Prod.mk.injEq, and_assoc, exists_and_left, decide_eq_true_eq, Option.ite_none_right_eq_some, true_and]
  obtain ⟨cs, rfl⟩ := isT_tup h2 c
  obtain ⟨n, hn⟩ : ∃ n : Int, n = (cs.length : Int) := ⟨_, rfl⟩
  have hm : manyB (.tup cs) = n := hn.symm
  simp only [hm]
  by_cases a1 : 1 ≤ n
  case neg =>
    simp only [wR_bnd, wR_ret, wR_rd, wR_lo, wR_lof, wR_chk, wR_ite, wR_call, wR_runF, wR_newL, wR_chn, wS_seq, wS_bnd, wS_nxt, wS_ret, wS_set, wS_brk, wS_cnt, wS_rz0, wS_rz, wS_ite, wS_setIx, wS_try, wS_end, startD, List.map_cons, List.map_nil, List.length_cons, List.length_nil, List.replicate, List.cons_append, List.nil_append, List.getElem?_cons_zero, List.getElem?_cons_succ, List.set_cons_zero, List.set_cons_succ, Option.some.injEq, exists_eq_left', Nat.reduceAdd, Nat.reduceSub, D.int.injEq, D.bl.injEq, addD_i, subD_i, mulD_i, fdivD_i, modD_i, ltD_i, leD_i, gtD_i, geD_i, tb_b, toI_i, intF_i, absF_i, ixD_o, ixD_tl, ixD_tup, lenF_o, lenF_tl, lenF_tup, lenF_fz, objL_o, tyOk_o, Option.bind_some, Option.map_some, Option.isSome_some, Prod.mk.injEq, and_assoc, exists_and_left, decide_eq_true_eq, Option.ite_none_right_eq_some, true_and, tp, setAll, hT h2, c, if_true, ← hn, a1, decide_false, Bool.false_eq_true, if_false]
    simp [a1, wR_bnd, wR_ret, wR_rd, wR_lo, wR_lof, wR_chk, wR_ite, wR_call, wR_runF, wR_newL, wR_chn, wS_seq, wS_bnd, wS_nxt, wS_ret, wS_set, wS_brk, wS_cnt, wS_rz0, wS_rz, wS_ite, wS_setIx, wS_try, wS_end, startD, List.map_cons, List.map_nil, List.length_cons, List.length_nil, List.replicate, List.cons_append, List.nil_append, List.getElem?_cons_zero, List.getElem?_cons_succ, List.set_cons_zero, List.set_cons_succ, Option.some.injEq, exists_eq_left', Nat.reduceAdd, Nat.reduceSub, D.int.injEq, D.bl.injEq, addD_i, subD_i, mulD_i, fdivD_i, modD_i, ltD_i, leD_i, gtD_i, geD_i, tb_b, toI_i, intF_i, absF_i, ixD_o, ixD_tl, ixD_tup, lenF_o, lenF_tl, lenF_tup, lenF_fz, objL_o, tyOk_o, Option.bind_some, Option.map_some, Option.isSome_some, Prod.mk.injEq, and_assoc, exists_and_left, decide_eq_true_eq, Option.ite_none_right_eq_some, true_and]
  by_cases a2 : n ≤ 400
  case neg =>
    simp only [wR_bnd, wR_ret, wR_rd, wR_lo, wR_lof, wR_chk, wR_ite, wR_call, wR_runF, wR_newL, wR_chn, wS_seq, wS_bnd, wS_nxt, wS_ret, wS_set, wS_brk, wS_cnt, wS_rz0, wS_rz, wS_ite, wS_setIx, wS_try, wS_end, startD, List.map_cons, List.map_nil, List.length_cons, List.length_nil, List.replicate, List.cons_append, List.nil_append, List.getElem?_cons_zero, List.getElem?_cons_succ, List.set_cons_zero, List.set_cons_succ, Option.some.injEq, exists_eq_left', Nat.reduceAdd, Nat.reduceSub, D.int.injEq, D.bl.injEq, addD_i, subD_i, mulD_i, fdivD_i, modD_i, ltD_i, leD_i, gtD_i, geD_i, tb_b, toI_i, intF_i, absF_i, ixD_o, ixD_tl, ixD_tup, lenF_o, lenF_tl, lenF_tup, lenF_fz, objL_o, tyOk_o, Option.bind_some, Option.map_some, Option.isSome_some, Prod.mk.injEq, and_assoc, exists_and_left, decide_eq_true_eq, Option.ite_none_right_eq_some, true_and, tp, setAll, hT h2, c, if_true, ← hn, a1, a2, decide_true, decide_false, Bool.false_eq_true, if_false]
    simp [a1, a2, wR_bnd, wR_ret, wR_rd, wR_lo, wR_lof, wR_chk, wR_ite, wR_call, wR_runF, wR_newL, wR_chn, wS_seq, wS_bnd, wS_nxt, wS_ret, wS_set, wS_brk, wS_cnt, wS_rz0, wS_rz, wS_ite, wS_setIx, wS_try, wS_end, startD, List.map_cons, List.map_nil, List.length_cons, List.length_nil, List.replicate, List.cons_append, List.nil_append, List.getElem?_cons_zero, List.getElem?_cons_succ, List.set_cons_zero, List.set_cons_succ, Option.some.injEq, exists_eq_left', Nat.reduceAdd, Nat.reduceSub, D.int.injEq, D.bl.injEq, addD_i, subD_i, mulD_i, fdivD_i, modD_i, ltD_i, leD_i, gtD_i, geD_i, tb_b, toI_i, intF_i, absF_i, ixD_o, ixD_tl, ixD_tup, lenF_o, lenF_tl, lenF_tup, lenF_fz, objL_o, tyOk_o, Option.bind_some, Option.map_some, Option.isSome_some, Prod.mk.injEq, and_assoc, exists_and_left, decide_eq_true_eq, Option.ite_none_right_eq_some, true_and]
  by_cases a3 : areB (.tup cs) n n = true
  case neg =>
    have a3' : areB (.tup cs) n n = false := by simpa using a3
    simp only [wR_bnd, wR_ret, wR_rd, wR_lo, wR_lof, wR_chk, wR_ite, wR_call, wR_runF, wR_newL, wR_chn, wS_seq, wS_bnd, wS_nxt, wS_ret, wS_set, wS_brk, wS_cnt, wS_rz0, wS_rz, wS_ite, wS_setIx, wS_try, wS_end, startD, List.map_cons, List.map_nil, List.length_cons, List.length_nil, List.replicate, List.cons_append, List.nil_append, List.getElem?_cons_zero, List.getElem?_cons_succ, List.set_cons_zero, List.set_cons_succ, Option.some.injEq, exists_eq_left', Nat.reduceAdd, Nat.reduceSub, D.int.injEq, D.bl.injEq, addD_i, subD_i, mulD_i, fdivD_i, modD_i, ltD_i, leD_i, gtD_i, geD_i, tb_b, toI_i, intF_i, absF_i, ixD_o, ixD_tl, ixD_tup, lenF_o, lenF_tl, lenF_tup, lenF_fz, objL_o, tyOk_o, Option.bind_some, Option.map_some, Option.isSome_some, Prod.mk.injEq, and_assoc, exists_and_left, decide_eq_true_eq, Option.ite_none_right_eq_some, true_and, tp, setAll, hT h2, c, if_true, ← hn, a1, a2, decide_true, Bool.not_true, Bool.false_eq_true, if_false, w_lare hk h2, wR_ok, a3', Bool.not_false, and_self]
    simp [a1, a2, a3', wR_bnd, wR_ret, wR_rd, wR_lo, wR_lof, wR_chk, wR_ite, wR_call, wR_runF, wR_newL, wR_chn, wS_seq, wS_bnd, wS_nxt, wS_ret, wS_set, wS_brk, wS_cnt, wS_rz0, wS_rz, wS_ite, wS_setIx, wS_try, wS_end, startD, List.map_cons, List.map_nil, List.length_cons, List.length_nil, List.replicate, List.cons_append, List.nil_append, List.getElem?_cons_zero, List.getElem?_cons_succ, List.set_cons_zero, List.set_cons_succ, Option.some.injEq, exists_eq_left', Nat.reduceAdd, Nat.reduceSub, D.int.injEq, D.bl.injEq, addD_i, subD_i, mulD_i, fdivD_i, modD_i, ltD_i, leD_i, gtD_i, geD_i, tb_b, toI_i, intF_i, absF_i, ixD_o, ixD_tl, ixD_tup, lenF_o, lenF_tl, lenF_tup, lenF_fz, objL_o, tyOk_o, Option.bind_some, Option.map_some, Option.isSome_some, Prod.mk.injEq, and_assoc, exists_and_left, decide_eq_true_eq, Option.ite_none_right_eq_some, true_and]
  by_cases a4 : btB first 0 (n - 1) = true
  case neg =>
    have a4' : btB first 0 (n - 1) = false := by simpa using a4
    simp only [wR_bnd, wR_ret, wR_rd, wR_lo, wR_lof, wR_chk, wR_ite, wR_call, wR_runF, wR_newL, wR_chn, wS_seq, wS_bnd, wS_nxt, wS_ret, wS_set, wS_brk, wS_cnt, wS_rz0, wS_rz, wS_ite, wS_setIx, wS_try, wS_end, startD, List.map_cons, List.map_nil, List.length_cons, List.length_nil, List.replicate, List.cons_append, List.nil_append, List.getElem?_cons_zero, List.getElem?_cons_succ, List.set_cons_zero, List.set_cons_succ, Option.some.injEq, exists_eq_left', Nat.reduceAdd, Nat.reduceSub, D.int.injEq, D.bl.injEq, addD_i, subD_i, mulD_i, fdivD_i, modD_i, ltD_i, leD_i, gtD_i, geD_i, tb_b, toI_i, intF_i, absF_i, ixD_o, ixD_tl, ixD_tup, lenF_o, lenF_tl, lenF_tup, lenF_fz, objL_o, tyOk_o, Option.bind_some, Option.map_some, Option.isSome_some, Prod.mk.injEq, and_assoc, exists_and_left, decide_eq_true_eq, Option.ite_none_right_eq_some, true_and, tp, setAll, hT h2, c, if_true, ← hn, a1, a2, decide_true, Bool.not_true, Bool.false_eq_true, if_false, w_lare hk h2, wR_ok, a3, Bool.not_false, and_self, mkT, if_pos z1, w_lare hk p1, are_one, a4', z2, true_and, not_true, not_false_eq_true, Bool.not_false]
    simp [z2, a1, a2, a3, a4', wR_bnd, wR_ret, wR_rd, wR_lo, wR_lof, wR_chk, wR_ite, wR_call, wR_runF, wR_newL, wR_chn, wS_seq, wS_bnd, wS_nxt, wS_ret, wS_set, wS_brk, wS_cnt, wS_rz0, wS_rz, wS_ite, wS_setIx, wS_try, wS_end, startD, List.map_cons, List.map_nil, List.length_cons, List.length_nil, List.replicate, List.cons_append, List.nil_append, List.getElem?_cons_zero, List.getElem?_cons_succ, List.set_cons_zero, List.set_cons_succ, Option.some.injEq, exists_eq_left', Nat.reduceAdd, Nat.reduceSub, D.int.injEq, D.bl.injEq, addD_i, subD_i, mulD_i, fdivD_i, modD_i, ltD_i, leD_i, gtD_i, geD_i, tb_b, toI_i, intF_i, absF_i, ixD_o, ixD_tl, ixD_tup, lenF_o, lenF_tl, lenF_tup, lenF_fz, objL_o, tyOk_o, Option.bind_some, Option.map_some, Option.isSome_some, Prod.mk.injEq, and_assoc, exists_and_left, decide_eq_true_eq, Option.ite_none_right_eq_some, true_and]
  simp only [a1, a2, a3, a4, decide_true, Bool.and_self, Bool.not_true, Bool.or_self, Bool.false_eq_true, if_false]
  simp only [wR_bnd, wR_ret, wR_rd, wR_lo, wR_lof, wR_chk, wR_ite, wR_call, wR_runF, wR_newL, wR_chn, wS_seq, wS_bnd, wS_nxt, wS_ret, wS_set, wS_brk, wS_cnt, wS_rz0, wS_rz, wS_ite, wS_setIx, wS_try, wS_end, startD, List.map_cons, List.map_nil, List.length_cons, List.length_nil, List.replicate, List.cons_append, List.nil_append, List.getElem?_cons_zero, List.getElem?_cons_succ, List.set_cons_zero, List.set_cons_succ, Option.some.injEq, exists_eq_left', Nat.reduceAdd, Nat.reduceSub, D.int.injEq, D.bl.injEq, addD_i, subD_i, mulD_i, fdivD_i, modD_i, ltD_i, leD_i, gtD_i, geD_i, tb_b, toI_i, intF_i, absF_i, ixD_o, ixD_tl, ixD_tup, lenF_o, lenF_tl, lenF_tup, lenF_fz, objL_o, tyOk_o, Option.bind_some, Option.map_some, Option.isSome_some, Prod.mk.injEq, and_assoc, exists_and_left, decide_eq_true_eq, Option.ite_none_right_eq_some, true_and, tp, setAll, hT h2, hT h3, hT h4, c, if_true, ← hn, a1, a2, decide_true, Bool.not_true, Bool.false_eq_true, if_false, w_lare hk h2, wR_ok, a3, Bool.not_false, and_self, mkT, if_pos z1, w_lare hk p1, are_one, a4, z2, true_and]
  by_cases b0 : isB forks "tuple" = true
  case neg =>
    have q : isB forks "tuple" = false := by simpa using b0
    simp [q, isT_no q]
  obtain ⟨fs, rfl⟩ := isT_tup h3 b0
  obtain ⟨bh, bg⟩ := pd_tup h3
  simp only [b0, Bool.not_true, Bool.false_eq_true, if_false, lenF_tup, neD_i, tb_b, Option.some.injEq, exists_eq_left']
  by_cases bf : ((fs.length : Nat) : Int) = n
  case neg => simp [bf, rowsB]
  simp only [bf, decide_true, Bool.not_true, Bool.false_eq_true, if_false, toSrc, seqD, Option.some.injEq, exists_eq_left']
  rw [wR_compP (its := fs) (g := fun x => areB x 2 n) rfl (hz bh) fun x hx => eq_of_wR (by simp only [wipeD, wR_bnd, wR_ret, wR_rd, wR_lo, wR_lof, wR_chk, wR_ite, wR_call, wR_runF, wR_newL, wR_chn, wS_seq, wS_bnd, wS_nxt, wS_ret, wS_set, wS_brk, wS_cnt, wS_rz0, wS_rz, wS_ite, wS_setIx, wS_try, wS_end, startD, List.map_cons, List.map_nil, List.length_cons, List.length_nil, List.replicate, List.cons_append, List.nil_append, List.getElem?_cons_zero, List.getElem?_cons_succ, List.set_cons_zero, List.set_cons_succ, Option.some.injEq, exists_eq_left', Nat.reduceAdd, Nat.reduceSub, D.int.injEq, D.bl.injEq, addD_i, subD_i, mulD_i, fdivD_i, modD_i, ltD_i, leD_i, gtD_i, geD_i, tb_b, toI_i, intF_i, absF_i, ixD_o, ixD_tl, ixD_tup, lenF_o, lenF_tl, lenF_tup, lenF_fz, objL_o, tyOk_o, Option.bind_some, Option.map_some, Option.isSome_some, Prod.mk.injEq, and_assoc, exists_and_left, decide_eq_true_eq, Option.ite_none_right_eq_some, true_and, w_lare hk (pds_mem bg x hx), wR_ok, and_self])]
  have be : rowsB (.tup fs) (fun x => areB x 2 n) n = fs.all (fun x => areB x 2 n) := by simp [rowsB, bf]
  simp only [allF_map, Option.some.injEq, exists_eq_left', tb_b, be]
  by_cases b2 : fs.all (fun x => areB x 2 n) = true
  case neg =>
    have q : fs.all (fun x => areB x 2 n) = false := by simpa using b2
    simp only [q, Bool.not_false, if_true, Option.getD_some, and_self]
  simp only [b2, Bool.not_true, Bool.false_eq_true, if_false]
  simp only [hT h4, Option.some.injEq, exists_eq_left', tb_b]
  by_cases d0 : isB joins "tuple" = true
  case neg =>
    have q : isB joins "tuple" = false := by simpa using d0
    simp [q, isT_no q]
  obtain ⟨js, rfl⟩ := isT_tup h4 d0
  obtain ⟨dh, dg⟩ := pd_tup h4
  simp only [d0, Bool.not_true, Bool.false_eq_true, if_false, lenF_tup, neD_i, tb_b, Option.some.injEq, exists_eq_left']
  by_cases df : ((js.length : Nat) : Int) = n
  case neg => simp [df, rowsB]
  simp only [df, decide_true, Bool.not_true, Bool.false_eq_true, if_false, toSrc, seqD, Option.some.injEq, exists_eq_left']
  rw [wR_compP (its := js) (g := fun x => areB x n n) rfl (hz dh) fun x hx => eq_of_wR (by simp only [wipeD, wR_bnd, wR_ret, wR_rd, wR_lo, wR_lof, wR_chk, wR_ite, wR_call, wR_runF, wR_newL, wR_chn, wS_seq, wS_bnd, wS_nxt, wS_ret, wS_set, wS_brk, wS_cnt, wS_rz0, wS_rz, wS_ite, wS_setIx, wS_try, wS_end, startD, List.map_cons, List.map_nil, List.length_cons, List.length_nil, List.replicate, List.cons_append, List.nil_append, List.getElem?_cons_zero, List.getElem?_cons_succ, List.set_cons_zero, List.set_cons_succ, Option.some.injEq, exists_eq_left', Nat.reduceAdd, Nat.reduceSub, D.int.injEq, D.bl.injEq, addD_i, subD_i, mulD_i, fdivD_i, modD_i, ltD_i, leD_i, gtD_i, geD_i, tb_b, toI_i, intF_i, absF_i, ixD_o, ixD_tl, ixD_tup, lenF_o, lenF_tl, lenF_tup, lenF_fz, objL_o, tyOk_o, Option.bind_some, Option.map_some, Option.isSome_some, Prod.mk.injEq, and_assoc, exists_and_left, decide_eq_true_eq, Option.ite_none_right_eq_some, true_and, w_lare hk (pds_mem dg x hx), wR_ok, and_self])]
  have de : rowsB (.tup js) (fun x => areB x n n) n = js.all (fun x => areB x n n) := by simp [rowsB, df]
  simp only [allF_map, Option.some.injEq, exists_eq_left', tb_b, de]
  by_cases d2 : js.all (fun x => areB x n n) = true
  case neg =>
    have q : js.all (fun x => areB x n n) = false := by simpa using d2
    simp only [q, Bool.not_false, if_true, Option.getD_some, and_self]
  simp only [d2, Bool.not_true, Bool.false_eq_true, if_false]
  simp only [isD, Option.some.injEq, exists_eq_left', tb_b]
  by_cases l0 : isN looks = true
  case pos => simp [l0]
  have l0' : isN looks = false := by simpa using l0
  simp only [l0', Bool.not_false, Bool.true_and, Bool.false_eq_true, if_false, hT h5, Option.some.injEq, exists_eq_left', tb_b]
  by_cases e0 : isB looks "tuple" = true
  case neg =>
    have q : isB looks "tuple" = false := by simpa using e0
    simp [q, isT_no q]
  obtain ⟨ls, rfl⟩ := isT_tup h5 e0
  obtain ⟨eh, eg⟩ := pd_tup h5
  simp only [e0, Bool.not_true, Bool.false_eq_true, if_false, lenF_tup, neD_i, tb_b, Option.some.injEq, exists_eq_left']
  by_cases ef : ((ls.length : Nat) : Int) = n
  case neg => simp [ef, rowsB]
  simp only [ef, decide_true, Bool.not_true, Bool.false_eq_true, if_false, toSrc, seqD, Option.some.injEq, exists_eq_left']
  refine wS_for (fun r l G' => G' = G ∧ (∃ a b, l = [some (.tup [first, .tup cs, .tup fs, .tup js, .tup ls]), some (.tup cs), some first, some (.tup fs), some (.tup js), some (.tup ls), some (.int n), a, b, none]) ∧ ∃ p, ls = p ++ r ∧ p.all (fun x => rowsB x wdB n) = true) rfl ⟨rfl, ⟨_, _, rfl⟩, [], rfl, rfl⟩ (fun r l G' h => by rw [h.1]; rfl) ?_ ?_
  · rintro x r l G' ⟨rfl, ⟨a, b, rfl⟩, p, e1, e2⟩
    have hx : x ∈ ls := by rw [e1]; simp
    have hp := pds_mem eg x hx
    have bad : rowsB x wdB n = false → rowsB (.tup ls) (fun x => rowsB x wdB n) n = false := fun z => rowsB_bad (q := fun x => rowsB x wdB n) hx z
    simp only [wS_nm, List.set_cons_succ, List.set_cons_zero]
    simp only [wR_bnd, wR_ret, wR_rd, wR_lo, wR_lof, wR_chk, wR_ite, wR_call, wR_runF, wR_newL, wR_chn, wS_seq, wS_bnd, wS_nxt, wS_ret, wS_set, wS_brk, wS_cnt, wS_rz0, wS_rz, wS_ite, wS_setIx, wS_try, wS_end, startD, List.map_cons, List.map_nil, List.length_cons, List.length_nil, List.replicate, List.cons_append, List.nil_append, List.getElem?_cons_zero, List.getElem?_cons_succ, List.set_cons_zero, List.set_cons_succ, Option.some.injEq, exists_eq_left', Nat.reduceAdd, Nat.reduceSub, D.int.injEq, D.bl.injEq, addD_i, subD_i, mulD_i, fdivD_i, modD_i, ltD_i, leD_i, gtD_i, geD_i, tb_b, toI_i, intF_i, absF_i, ixD_o, ixD_tl, ixD_tup, lenF_o, lenF_tl, lenF_tup, lenF_fz, objL_o, tyOk_o, Option.bind_some, Option.map_some, Option.isSome_some, Prod.mk.injEq, and_assoc, exists_and_left, decide_eq_true_eq, Option.ite_none_right_eq_some, true_and, isi_pd hp (T := "tuple") (.inr (.inr (.inl rfl)))]
    by_cases t0 : isB x "tuple" = true
    case neg =>
      have q : isB x "tuple" = false := by simpa using t0
      simp [q, bad (isT_no q)]
    obtain ⟨xs, rfl⟩ := isT_tup hp t0
    obtain ⟨xh, xg⟩ := pd_tup hp
    simp only [t0, Bool.not_true, Bool.false_eq_true, if_false, lenF_tup, neD_i, tb_b, Option.some.injEq, exists_eq_left']
    by_cases xf : ((xs.length : Nat) : Int) = n
    case neg => simp [xf, bad (by simp [rowsB, xf])]
    simp only [xf, decide_true, Bool.not_true, Bool.false_eq_true, if_false, toSrc, seqD, Option.some.injEq, exists_eq_left']
    rw [wR_compP (its := xs) (g := wdB) rfl (hz xh) fun y hy => eq_of_wR ?_]
    · simp only [allF_map, Option.some.injEq, exists_eq_left', tb_b]
      by_cases tw : xs.all wdB = true
      case neg =>
        have q : xs.all wdB = false := by simpa using tw
        simp [q, bad (by simp [rowsB, q])]
      simp only [tw, Bool.not_true, Bool.false_eq_true, if_false]
      refine ⟨trivial, ⟨_, _, rfl⟩, p ++ [.tup xs], by rw [e1]; simp, ?_⟩
      rw [List.all_append, e2]
      simp [rowsB, xf, tw]
    · have hy2 := pds_mem xg y hy
      simp only [wipeD, wR_bnd, wR_ret, wR_rd, wR_lo, wR_lof, wR_chk, wR_ite, wR_call, wR_runF, wR_newL, wR_chn, wS_seq, wS_bnd, wS_nxt, wS_ret, wS_set, wS_brk, wS_cnt, wS_rz0, wS_rz, wS_ite, wS_setIx, wS_try, wS_end, startD, List.getElem?_cons_zero, List.getElem?_cons_succ, List.set_cons_zero, List.set_cons_succ, Option.some.injEq, exists_eq_left', tb_b, isi_pd hy2 (T := "str") (.inr (.inr (.inr rfl)))]
      cases y with
      | str s =>
        have e1 : isB (.str s) "str" = true := rfl
        have z4 : wds.length ≤ sizeLine := by rw [sizeLine_eq]; decide
        have mk : mkL [.str "same", .str "newer", .str "elder", .str "apart"] G' = some (.tl (wds.map D.str)) := by
          unfold mkL
          rw [if_pos (by rw [sizeLine_eq]; decide)]
          rfl
        simp only [e1, if_true, wR_bnd, wR_rd, wR_lo, wR_ret, List.getElem?_cons_zero, List.getElem?_cons_succ, Option.some.injEq, exists_eq_left', mk, in_tl]
        first
          | exact ⟨rfl, trivial⟩
          | exact rfl
          | (simp [wdB]; done)
      | _ => first | (simp [pd] at hy2; done) | (simp [isB, tyB, wdB, wR_ret])
  · rintro l G' ⟨rfl, ⟨a, b, rfl⟩, p, e1, e2⟩
    rw [List.append_nil] at e1
    subst e1
    simp only [wR_bnd, wR_ret, wR_rd, wR_lo, wR_lof, wR_chk, wR_ite, wR_call, wR_runF, wR_newL, wR_chn, wS_seq, wS_bnd, wS_nxt, wS_ret, wS_set, wS_brk, wS_cnt, wS_rz0, wS_rz, wS_ite, wS_setIx, wS_try, wS_end, startD, List.map_cons, List.map_nil, List.length_cons, List.length_nil, List.replicate, List.cons_append, List.nil_append, List.getElem?_cons_zero, List.getElem?_cons_succ, List.set_cons_zero, List.set_cons_succ, Option.some.injEq, exists_eq_left', Nat.reduceAdd, Nat.reduceSub, D.int.injEq, D.bl.injEq, addD_i, subD_i, mulD_i, fdivD_i, modD_i, ltD_i, leD_i, gtD_i, geD_i, tb_b, toI_i, intF_i, absF_i, ixD_o, ixD_tl, ixD_tup, lenF_o, lenF_tl, lenF_tup, lenF_fz, objL_o, tyOk_o, Option.bind_some, Option.map_some, Option.isSome_some, Prod.mk.injEq, and_assoc, exists_and_left, decide_eq_true_eq, Option.ite_none_right_eq_some, true_and]
    have ee : rowsB (.tup ls) (fun x => rowsB x wdB n) n = true := by simp only [rowsB, ef, decide_true, Bool.true_and]; exact e2
    simp [ee]
end
end K12
end M3
end L2

set_option Elab.async false
set_option linter.all false
set_option maxRecDepth 100000
set_option maxHeartbeats 2000000
namespace L2
namespace M3
namespace K12
open PySem PySem.Spec PyProof.Rows
section
variable {k : Nat} {G : Gs} {X : Exc → Gs → Prop}
/-- the objects below stay -/
structure Kp (G G' : Gs) : Prop where
  ex : ∃ t, G' = G ++ t
theorem ic_book : TT.tf.ic "Book" = true := by decide
theorem nf_book {f : Str} (h : f ∈ (["first", "changes", "forks", "joins", "looks"] : List Str)) : TT.tf.nf "Book" f = true := by
  have key : ∀ f ∈ (["first", "changes", "forks", "joins", "looks"] : List Str), TT.tf.nf "Book" f = true := by decide
  exact key f h
theorem set_book {fs : List (Str × D)} {f : Str} {y : D} {l : Sl} {E : Kt} {t : Gs} (h : f ∈ (["first", "changes", "forks", "joins", "looks"] : List Str)) (hl : fs.length < 1000) :
    wS (setFld TT.tf f y (.obj G.length) l (G ++ [.ins "Book" fs])) E = E.nx l (G ++ [.ins "Book" (putD f y fs)]) := by
  have e : (G ++ [MO.ins "Book" fs])[G.length]? = some (.ins "Book" fs) := by simp
  simp only [setFld, e]
  rw [if_pos ⟨ic_book, nf_book h, hl⟩]
  show E.nx l ((G ++ [MO.ins "Book" fs]).set G.length (.ins "Book" (putD f y fs))) = _
  rw [List.set_append_right _ _ (Nat.le_refl _)]
  simp
theorem putD_new {f : Str} {y : D} : ∀ {fs : List (Str × D)}, (∀ p ∈ fs, p.1 ≠ f) → putD f y fs = fs ++ [(f, y)]
  | [], _ => rfl
  | (g, x) :: r, h => by
    have hg : g ≠ f := h (g, x) List.mem_cons_self
    simp only [putD]
    rw [if_neg hg, putD_new fun p hp => h p (List.mem_cons_of_mem _ hp)]
    rfl
theorem w_init {a b c d e : D} (hk : k ≤ 1000) (h1 : pd k a = true) (h2 : pd k b = true) (h3 : pd k c = true) (h4 : pd k d = true) (h5 : pd k e = true) :
    f_Book____init__ [.obj G.length, a, b, c, d, e] (G ++ [.ins "Book" []]) = match wrB a b c d e with
      | some s => .exc ⟨"BadBook", some ("part", .str s)⟩ (G ++ [.ins "Book" []])
      | none => .ok .non (G ++ [.ins "Book" [("first", a), ("changes", b), ("forks", c), ("joins", d), ("looks", e)]]) := by
  have key : wR (f_Book____init__ [.obj G.length, a, b, c, d, e] (G ++ [.ins "Book" []])) (fun x G' => ∃ s, wrB a b c d e = some s ∧ x = ⟨"BadBook", some ("part", .str s)⟩ ∧ G' = G ++ [.ins "Book" []])
      (fun r G' => wrB a b c d e = none ∧ r = .non ∧ G' = G ++ [.ins "Book" [("first", a), ("changes", b), ("forks", c), ("joins", d), ("looks", e)]]) := by
    unfold f_Book____init__ b_Book____init__
    simp only [wR_bnd, wR_ret, wR_rd, wR_lo, wR_lof, wR_chk, wR_ite, wR_call, wR_runF, wR_newL, wR_chn, wS_seq, wS_bnd, wS_nxt, wS_ret, wS_set, wS_brk, wS_cnt, wS_rz0, wS_rz, wS_ite, wS_setIx, wS_try, wS_end, startD, List.map_cons, List.map_nil, List.length_cons, List.length_nil, List.replicate, List.cons_append, List.nil_append, List.getElem?_cons_zero, List.getElem?_cons_succ, List.set_cons_zero, List.set_cons_succ, Option.some.injEq, exists_eq_left', Nat.reduceAdd, Nat.reduceSub, D.int.injEq, D.bl.injEq, addD_i, subD_i, mulD_i, fdivD_i, modD_i, ltD_i, leD_i, gtD_i, geD_i, tb_b, toI_i, intF_i, absF_i, ixD_o, ixD_tl, ixD_tup, lenF_o, lenF_tl, lenF_tup, lenF_fz, objL_o, tyOk_o, Option.bind_some, Option.map_some, Option.isSome_some, Prod.mk.injEq, and_assoc, exists_and_left, decide_eq_true_eq, Option.ite_none_right_eq_some, true_and, w_wrong hk h1 h2 h3 h4 h5, wR_ok, isntD]
    cases q : wrB a b c d e with
    | some s => simp [optD, isN, q]
    | none =>
      simp only [optD, isN, Bool.not_true, Bool.false_eq_true, if_false]
      have e1 : putD "first" a [] = ([("first", a)] : List (Str × D)) := rfl
      have e2 : putD "changes" b ([("first", a)] : List (Str × D)) = ([("first", a), ("changes", b)] : List (Str × D)) := by rfl
      have e3 : putD "forks" c ([("first", a), ("changes", b)] : List (Str × D)) = ([("first", a), ("changes", b), ("forks", c)] : List (Str × D)) := by rfl
      have e4 : putD "joins" d ([("first", a), ("changes", b), ("forks", c)] : List (Str × D)) = ([("first", a), ("changes", b), ("forks", c), ("joins", d)] : List (Str × D)) := by rfl
      have e5 : putD "looks" e ([("first", a), ("changes", b), ("forks", c), ("joins", d)] : List (Str × D)) = ([("first", a), ("changes", b), ("forks", c), ("joins", d), ("looks", e)] : List (Str × D)) := by rfl
      rw [set_book (t := G) (by simp) (by simp), e1]
      simp only [List.getElem?_cons_zero, List.getElem?_cons_succ, Option.some.injEq, exists_eq_left']
      rw [set_book (t := G) (by simp) (by simp), e2]
      simp only [List.getElem?_cons_zero, List.getElem?_cons_succ, Option.some.injEq, exists_eq_left']
      rw [set_book (t := G) (by simp) (by simp), e3]
      simp only [List.getElem?_cons_zero, List.getElem?_cons_succ, Option.some.injEq, exists_eq_left']
      rw [set_book (t := G) (by simp) (by simp), e4]
      simp only [List.getElem?_cons_zero, List.getElem?_cons_succ, Option.some.injEq, exists_eq_left']
      rw [set_book (t := G) (by simp) (by simp), e5]
      simp
  revert key
  cases f_Book____init__ [.obj G.length, a, b, c, d, e] (G ++ [.ins "Book" []]) with
  | ok r G' =>
    rintro ⟨q, rfl, rfl⟩
    rw [q]
  | exc x G' =>
    rintro ⟨s, q, rfl, rfl⟩
    rw [q]
  | stuck => exact fun h => h.elim
/-- data that can be compared -/
def Cy (n : Nat) (d : D) : Prop := ∃ y, toPy d = some y ∧ y.canLay0 = true ∧ y.depth ≤ n
theorem cy_bt {n : Nat} {d : D} {a b : Int} (h : btB d a b = true) : Cy n d := by
  cases d <;> first | exact ⟨.int _, rfl, rfl, Nat.zero_le _⟩ | cases h
theorem cys_all {n : Nat} : ∀ {l : List D}, (∀ x ∈ l, Cy n x) → ∃ ys, toPys l = some ys ∧ PyData.canLayAll0 ys = true ∧ PyData.depthAll ys ≤ n
  | [], _ => ⟨[], rfl, rfl, Nat.zero_le _⟩
  | x :: l, h => by
    obtain ⟨y, e, c, d⟩ := h x List.mem_cons_self
    obtain ⟨ys, es, cs, ds⟩ := cys_all (l := l) fun z hz => h z (List.mem_cons_of_mem _ hz)
    refine ⟨y :: ys, by simp [toPys, e, es], by simp [PyData.canLayAll0, c, cs], ?_⟩
    simp only [PyData.depthAll]
    omega
theorem cy_tup {n : Nat} {l : List D} (h : ∀ x ∈ l, Cy n x) : Cy (n + 1) (.tup l) := by
  obtain ⟨ys, e, c, d⟩ := cys_all h
  exact ⟨.tuple ys, by simp [toPy, e], by simpa [PyData.canLay0] using c, by simp only [PyData.depth]; omega⟩
theorem cy_rows {m : Nat} {d : D} {p : D → Bool} {n : Int} (h : rowsB d p n = true) (hp : ∀ x, p x = true → Cy m x) : Cy (m + 1) d := by
  cases d with
  | tup ds =>
    simp only [rowsB, Bool.and_eq_true, List.all_eq_true] at h
    exact cy_tup fun x hx => hp x (h.2 x hx)
  | _ => cases h
theorem Cy.up {m n : Nat} {d : D} (h : Cy m d) (l : m ≤ n) : Cy n d := by
  obtain ⟨y, e, c, d⟩ := h
  exact ⟨y, e, c, Nat.le_trans d l⟩
theorem cy_are {d : D} {m n : Int} (h : areB d m n = true) : Cy 1 d := cy_rows h fun x hx => cy_bt (n := 0) hx
theorem eqV_str {a b : Str} : L2.eqV (.str a) (.str b) = (a == b) := rfl
theorem cy_wd {d : D} (h : wdB d = true) : Cy 0 d := by
  cases d with
  | str s =>
    have hs : s ∈ wds := by
      simp only [wdB, inV, wds, List.map_cons, List.map_nil, List.any_cons, List.any_nil, eqV_str, Bool.or_false, Bool.or_eq_true, beq_iff_eq, decide_eq_true_eq] at h
      simp only [wds, List.mem_cons, List.not_mem_nil, or_false]
      first
        | exact h
        | (rcases h with rfl | rfl | rfl | rfl <;> simp)
        | (rcases h with h | h | h | h <;> (rw [← h]; simp))
    have key : ∀ s ∈ wds, (PyData.str s).canLay0 = true := by decide +kernel
    exact ⟨.str s, rfl, key s hs, Nat.zero_le _⟩
  | _ => cases h
theorem wr_py {a b c d e : D} (h : wrB a b c d e = none) : Cy 4 (.tup [a, b, c, d, e]) := by
  unfold wrB at h
  split at h
  · cases h
  rename_i h1
  split at h
  · cases h
  rename_i h2
  split at h
  · cases h
  rename_i h3
  split at h
  · cases h
  rename_i h4
  split at h
  · cases h
  rename_i h5
  simp only [Bool.not_eq_true', Bool.not_eq_false', Bool.or_eq_true, not_or, Bool.not_eq_true, Bool.not_eq_false, Bool.and_eq_true, not_and, Bool.not_eq_eq_eq_not, Bool.not_true, Bool.not_false] at h1 h2 h3 h4 h5
  have ca : Cy 3 a := cy_bt (by simpa using h2)
  have cb : Cy 3 b := (cy_are (by simpa using h1.2)).up (by omega)
  have cc : Cy 3 c := (cy_rows (by simpa using h3) fun x hx => cy_are hx).up (by omega)
  have cd : Cy 3 d := (cy_rows (by simpa using h4) fun x hx => cy_are hx).up (by omega)
  have ce : Cy 3 e := by
    by_cases l : isN e = true
    · cases e <;> first | exact ⟨.none, rfl, rfl, Nat.zero_le _⟩ | cases l
    · exact (cy_rows (by simpa using h5 (by simpa using l)) fun x hx => cy_rows hx fun z hz => cy_wd hz).up (by omega)
  exact cy_tup fun x hx => by
    simp only [List.mem_cons, List.not_mem_nil, or_false] at hx
    rcases hx with rfl | rfl | rfl | rfl | rfl <;> assumption
theorem ne_same {d : D} {n : Nat} (h : Cy n d) (hn : n ≤ 64) (ht : ∀ G, thaw G d = d) : neD d d G = some (.bl false) := by
  obtain ⟨y, e, c, dp⟩ := h
  have sh : SeqAt.shaped y = true := by
    unfold SeqAt.shaped
    rw [c, Bool.true_and, decide_eq_true_eq]
    omega
  unfold neD
  simp only [ht, e]
  rw [if_pos ⟨sh, sh⟩, eqv_same d y e]
  rfl
theorem fld_book {f : Str} {fs : List (Str × D)} (h : f ∈ (["first", "changes", "forks", "joins", "looks"] : List Str)) : fldD TT.tf f (.obj G.length) (G ++ [.ins "Book" fs]) = fs.lookup f := by
  have e : (G ++ [MO.ins "Book" fs])[G.length]? = some (.ins "Book" fs) := by simp
  simp only [fldD, insD, e]
  rw [if_pos ic_book, if_pos (nf_book h)]
theorem w_told {a b c d e : D} (hk : k ≤ 1000) (h1 : pd k a = true) (h2 : pd k b = true) (h3 : pd k c = true) (h4 : pd k d = true) (h5 : pd k e = true) :
    wR (f__law_told [.tup [a, b, c, d, e]] G) X (fun r G' => r = .str ((wrB a b c d e).getD "let") ∧ ∃ t, G' = G ++ [t]) := by
  unfold f__law_told b__law_told
  have n0 : atI [a, b, c, d, e] 0 = some a := rfl
  have n1 : atI [a, b, c, d, e] 1 = some b := rfl
  have n2 : atI [a, b, c, d, e] 2 = some c := rfl
  have n3 : atI [a, b, c, d, e] 3 = some d := rfl
  have n4 : atI [a, b, c, d, e] 4 = some e := rfl
  simp only [wR_bnd, wR_ret, wR_rd, wR_lo, wR_lof, wR_chk, wR_ite, wR_call, wR_runF, wR_newL, wR_chn, wS_seq, wS_bnd, wS_nxt, wS_ret, wS_set, wS_brk, wS_cnt, wS_rz0, wS_rz, wS_ite, wS_setIx, wS_try, wS_end, startD, List.map_cons, List.map_nil, List.length_cons, List.length_nil, List.replicate, List.cons_append, List.nil_append, List.getElem?_cons_zero, List.getElem?_cons_succ, List.set_cons_zero, List.set_cons_succ, Option.some.injEq, exists_eq_left', Nat.reduceAdd, Nat.reduceSub, D.int.injEq, D.bl.injEq, addD_i, subD_i, mulD_i, fdivD_i, modD_i, ltD_i, leD_i, gtD_i, geD_i, tb_b, toI_i, intF_i, absF_i, ixD_o, ixD_tl, ixD_tup, lenF_o, lenF_tl, lenF_tup, lenF_fz, objL_o, tyOk_o, Option.bind_some, Option.map_some, Option.isSome_some, Prod.mk.injEq, and_assoc, exists_and_left, decide_eq_true_eq, Option.ite_none_right_eq_some, true_and, n0, n1, n2, n3, n4, wR_mkI, w_init hk h1 h2 h3 h4 h5]
  cases q : wrB a b c d e with
  | some s =>
    simp only [wR_exc]
    refine .inl ⟨by rfl, by omega, .bl true, by rfl, true, rfl, ?_⟩
    rw [if_pos rfl]
    refine ⟨.bl true, by rfl, true, rfl, ?_⟩
    rw [if_pos rfl]
    exact ⟨.str s, by rfl, rfl, _, rfl⟩
  | none =>
    simp only [wR_ok]
    have f1 := fld_book (G := G) (f := "first") (fs := [("first", a), ("changes", b), ("forks", c), ("joins", d), ("looks", e)]) (by simp)
    have f2 := fld_book (G := G) (f := "changes") (fs := [("first", a), ("changes", b), ("forks", c), ("joins", d), ("looks", e)]) (by simp)
    have f3 := fld_book (G := G) (f := "forks") (fs := [("first", a), ("changes", b), ("forks", c), ("joins", d), ("looks", e)]) (by simp)
    have f4 := fld_book (G := G) (f := "joins") (fs := [("first", a), ("changes", b), ("forks", c), ("joins", d), ("looks", e)]) (by simp)
    have f5 := fld_book (G := G) (f := "looks") (fs := [("first", a), ("changes", b), ("forks", c), ("joins", d), ("looks", e)]) (by simp)
    have mk : ∀ G', mkT [a, b, c, d, e] G' = some (.tup [a, b, c, d, e]) := fun G' => by
      unfold mkT
      rw [if_pos (by rw [sizeLine_eq]; simp)]
    have ns : ∀ G', neD (.tup [a, b, c, d, e]) (.tup [a, b, c, d, e]) G' = some (.bl false) := fun G' => ne_same (wr_py q) (by omega) (fun G => rfl)
    refine ⟨trivial, a, f1.trans (by rfl), b, f2.trans (by rfl), c, f3.trans (by rfl), d, f4.trans (by rfl), e, f5.trans (by rfl), .tup [a, b, c, d, e], mk _, .bl false, ns _, false, rfl, ?_⟩
    simp
end
end K12
end M3
end L2

set_option Elab.async false
set_option linter.all false
set_option maxRecDepth 100000
set_option maxHeartbeats 2000000
namespace L2
namespace M3
namespace K12
open PySem PySem.Spec PyProof.Rows
section
variable {G : Gs} {X : Exc → Gs → Prop}
theorem Same.rfl' (G : Gs) : Same G G := ⟨rfl, fun _ _ => rfl⟩
theorem w_draw' {G0 : Gs} {many : Int} (h : Pot G) (s : Same G0 G) (h0 : 0 < many) (h1 : many ≤ 1000) : wR (f__law_draw [.obj 1, .int many] G) X (fun d G' => ∃ v, d = .int v ∧ 0 ≤ v ∧ v < many ∧ Pot G' ∧ Same G0 G') := by
  have hl : many.natAbs.log2 < 9000 := by
    have : many.natAbs < 2 ^ 10 := by omega
    have := (Nat.log2_lt (n := many.natAbs) (k := 10) (by omega)).mpr this
    omega
  exact wR_imp (w_draw h h0 hl) (fun _ _ z => z) fun d G' ⟨v, e, a, b, p, q⟩ => ⟨v, e, a, b, p, s.trans q⟩
/-- a comprehension over a range whose element draws -/
theorem comp_draw {i n : Nat} {e : M D} {vs : List Nat} {ds : Sl} {P : D → Prop} (hp : Pot G) (hn : n ≤ 1000)
    (hs : ∀ x G', Pot G' → Same G G' → wR (e ((wipeD ds vs).set i (some x)) G') (fun _ _ => False) (fun y G2 => P y ∧ Pot G2 ∧ Same G G2)) {G0 : Gs} (s0 : Same G0 G) :
    wR (compD false (.nm i) yes e vs (.rng 0 n) ds G) X (fun r G' => ∃ ys, r = .tl ys ∧ ys.length = n ∧ (∀ y ∈ ys, P y) ∧ Pot G' ∧ Same G0 G') := by
  refine wR_comp (its := (List.range n).map fun (j : Nat) => D.int (0 + (j : Int))) (fun a r G' => Pot G' ∧ Same G G' ∧ a.length + r.length = n ∧ ∀ y ∈ a, P y) rfl ⟨hp, Same.rfl' G, by simp, by simp⟩ (fun a r G' h => rfl) ?_ ?_
  · rintro a x r G' ⟨p, s, hl, ha⟩
    simp only [wS_nm, yes, wR_ret, if_true]
    refine wR_imp (hs x G' p s) (fun _ _ z => z) fun y G2 ⟨q, p2, s2⟩ => ⟨p2, s2, by simp at hl ⊢; omega, fun z hz => ?_⟩
    rcases List.mem_append.mp hz with hz | hz
    · exact ha z hz
    · rw [List.mem_singleton.mp hz]; exact q
  · rintro a G' ⟨p, s, hl, ha⟩
    rw [if_neg Bool.false_ne_true]
    exact ⟨by rw [sizeLine_eq]; simp at hl; omega, a, rfl, by simpa using hl, ha, p, s0.trans s⟩
def stB (many : Int) (d : D) : Prop := btB d 0 (many - 1) = true ∧ pd 6 d = true
theorem st_int {many v : Int} (h0 : 0 ≤ v) (h1 : v < many) : stB many (.int v) := ⟨by simp [btB]; omega, rfl⟩
theorem pds_all {k : Nat} : ∀ {l : List D}, (∀ x ∈ l, pd k x = true) → pds k l = true
  | [], _ => rfl
  | x :: l, h => by simp [pds, h x List.mem_cons_self, pds_all (l := l) fun y hy => h y (List.mem_cons_of_mem _ hy)]
theorem toRng {n : Nat} (h : n ≤ 1000) : toRng1 [.int n] G = some (.rng 0 n) := by
  have e : toRng1 [.int n] G = if -(2 ^ 62) ≤ (n : Int) ∧ (n : Int) < 2 ^ 62 then some (.rng 0 (n : Int).toNat) else none := rfl
  rw [e, if_pos (by omega)]
  simp
theorem tupF_tl {ds : List D} : tupF [.tl ds] G = some (.tup ds) := rfl
theorem are_of {n : Nat} {many stock : Int} {ys : List D} (hl : (ys.length : Int) = many) (hn : ys.length ≤ 6) (h : ∀ y ∈ ys, stB stock y) : areB (.tup ys) many stock = true ∧ pd 6 (.tup ys) = true := by
  refine ⟨?_, ?_⟩
  · simp only [areB, rowsB, hl, decide_true, Bool.true_and, List.all_eq_true]
    exact fun x hx => (h x hx).1
  · simp only [pd, Bool.and_eq_true, decide_eq_true_eq]
    exact ⟨hn, pds_all fun x hx => (h x hx).2⟩
theorem rows_of {p : D → Bool} {many : Int} {ys : List D} (hl : (ys.length : Int) = many) (hn : ys.length ≤ 6) (h : ∀ y ∈ ys, p y = true ∧ pd 6 y = true) : rowsB (.tup ys) p many = true ∧ pd 6 (.tup ys) = true := by
  refine ⟨?_, ?_⟩
  · simp only [rowsB, hl, decide_true, Bool.true_and, List.all_eq_true]
    exact fun x hx => (h x hx).1
  · simp only [pd, Bool.and_eq_true, decide_eq_true_eq]
    exact ⟨hn, pds_all fun x hx => (h x hx).2⟩
theorem mkT_of {ds : List D} (h : ds.length ≤ 1000) : mkT ds G = some (.tup ds) := by
  unfold mkT
  rw [if_pos (by rw [sizeLine_eq]; omega)]
theorem mkL_of {ds : List D} (h : ds.length ≤ 1000) : mkL ds G = some (.tl ds) := by
  unfold mkL
  rw [if_pos (by rw [sizeLine_eq]; omega)]
theorem wd_at {v : Int} (h0 : 0 ≤ v) (h1 : v < 4) : ∃ w, atI [.str "same", .str "newer", .str "elder", .str "apart"] v = some w ∧ wdB w = true ∧ pd 6 w = true := by
  have : v = 0 ∨ v = 1 ∨ v = 2 ∨ v = 3 := by omega
  rcases this with rfl | rfl | rfl | rfl
  · exact ⟨.str "same", rfl, by decide, rfl⟩
  · exact ⟨.str "newer", rfl, by decide, rfl⟩
  · exact ⟨.str "elder", rfl, by decide, rfl⟩
  · exact ⟨.str "apart", rfl, by decide, rfl⟩
theorem w_rows {n : Nat} {b : Bool} (hp : Pot G) (h1 : 1 ≤ n) (h6 : n ≤ 6) :
    ∃ r, f__law_rows [.obj 1, .int n, .bl b] G = r ∧ wR r X (fun r G' => ∃ a c f j l, r = .tup [a, c, f, j, l] ∧ wrB a c f j l = none ∧ (pd 6 a && pd 6 c && pd 6 f && pd 6 j && pd 6 l) = true ∧ Pot G' ∧ Same G G') := by
  refine ⟨_, rfl, ?_⟩
  unfold f__law_rows b__law_rows
  have hn0 : (0 : Int) < n := by omega
  have hR : ∀ G', toRng1 [.int n] G' = some (.rng 0 n) := fun G' => toRng (by omega)
  have mk4 : ∀ G', mkL [.str "same", .str "newer", .str "elder", .str "apart"] G' = some (.tl [.str "same", .str "newer", .str "elder", .str "apart"]) := fun G' => mkL_of (by decide)
  have mk5 : ∀ G' a c f j l, mkT [a, c, f, j, l] G' = some (.tup [a, c, f, j, l]) := fun G' a c f j l => mkT_of (by simp)
  have mk2 : ∀ G' a c, mkT [a, c] G' = some (.tup [a, c]) := fun G' a c => mkT_of (by simp)
  simp only [wR_bnd, wR_ret, wR_rd, wR_lo, wR_lof, wR_chk, wR_ite, wR_call, wR_runF, wR_newL, wR_chn, wS_seq, wS_bnd, wS_nxt, wS_ret, wS_set, wS_brk, wS_cnt, wS_rz0, wS_rz, wS_ite, wS_setIx, wS_try, wS_end, startD, List.map_cons, List.map_nil, List.length_cons, List.length_nil, List.replicate, List.cons_append, List.nil_append, List.getElem?_cons_zero, List.getElem?_cons_succ, List.set_cons_zero, List.set_cons_succ, Option.some.injEq, exists_eq_left', Nat.reduceAdd, Nat.reduceSub, D.int.injEq, D.bl.injEq, addD_i, subD_i, mulD_i, fdivD_i, modD_i, ltD_i, leD_i, gtD_i, geD_i, tb_b, toI_i, intF_i, absF_i, ixD_o, ixD_tl, ixD_tup, lenF_o, lenF_tl, lenF_tup, lenF_fz, objL_o, tyOk_o, Option.bind_some, Option.map_some, Option.isSome_some, Prod.mk.injEq, and_assoc, exists_and_left, decide_eq_true_eq, Option.ite_none_right_eq_some, true_and, hR]
  refine wR_imp (comp_draw (P := stB n) hp (by omega) (fun x G' p s => ?_) (Same.rfl' G)) (fun _ _ z => z) fun r G1 ⟨cs, er, hc, hcs, p1, s1⟩ => ?_
  · simp only [wipeD, wR_bnd, wR_ret, wR_rd, wR_lo, wR_lof, wR_chk, wR_ite, wR_call, wR_runF, wR_newL, wR_chn, wS_seq, wS_bnd, wS_nxt, wS_ret, wS_set, wS_brk, wS_cnt, wS_rz0, wS_rz, wS_ite, wS_setIx, wS_try, wS_end, startD, List.map_cons, List.map_nil, List.length_cons, List.length_nil, List.replicate, List.cons_append, List.nil_append, List.getElem?_cons_zero, List.getElem?_cons_succ, List.set_cons_zero, List.set_cons_succ, Option.some.injEq, exists_eq_left', Nat.reduceAdd, Nat.reduceSub, D.int.injEq, D.bl.injEq, addD_i, subD_i, mulD_i, fdivD_i, modD_i, ltD_i, leD_i, gtD_i, geD_i, tb_b, toI_i, intF_i, absF_i, ixD_o, ixD_tl, ixD_tup, lenF_o, lenF_tl, lenF_tup, lenF_fz, objL_o, tyOk_o, Option.bind_some, Option.map_some, Option.isSome_some, Prod.mk.injEq, and_assoc, exists_and_left, decide_eq_true_eq, Option.ite_none_right_eq_some, true_and, true_and]
    exact wR_imp (w_draw' p s hn0 (by omega)) (fun _ _ z => z) fun d G2 ⟨v, e, a, b, p, q⟩ => ⟨by rw [e]; exact st_int a b, p, q⟩
  subst er
  simp only [tupF_tl, startD, List.map_cons, List.map_nil, List.length_cons, List.length_nil, List.replicate, List.cons_append, List.nil_append, List.getElem?_cons_zero, List.getElem?_cons_succ, List.set_cons_zero, List.set_cons_succ, Option.some.injEq, exists_eq_left', Nat.reduceAdd, Nat.reduceSub, D.int.injEq, D.bl.injEq, addD_i, subD_i, mulD_i, fdivD_i, modD_i, ltD_i, leD_i, gtD_i, geD_i, tb_b, toI_i, intF_i, absF_i, ixD_o, ixD_tl, ixD_tup, lenF_o, lenF_tl, lenF_tup, lenF_fz, objL_o, tyOk_o, Option.bind_some, Option.map_some, Option.isSome_some, Prod.mk.injEq, and_assoc, exists_and_left, decide_eq_true_eq, Option.ite_none_right_eq_some, true_and, hR]
  refine wR_imp (comp_draw (P := fun y => areB y 2 n = true ∧ pd 6 y = true) p1 (by omega) (fun x G' p s => ?_) s1) (fun _ _ z => z) fun r G2 ⟨fs, er, hf, hfs, p2, s2⟩ => ?_
  · simp only [wipeD, wR_bnd, wR_ret, wR_rd, wR_lo, wR_lof, wR_chk, wR_ite, wR_call, wR_runF, wR_newL, wR_chn, wS_seq, wS_bnd, wS_nxt, wS_ret, wS_set, wS_brk, wS_cnt, wS_rz0, wS_rz, wS_ite, wS_setIx, wS_try, wS_end, startD, List.map_cons, List.map_nil, List.length_cons, List.length_nil, List.replicate, List.cons_append, List.nil_append, List.getElem?_cons_zero, List.getElem?_cons_succ, List.set_cons_zero, List.set_cons_succ, Option.some.injEq, exists_eq_left', Nat.reduceAdd, Nat.reduceSub, D.int.injEq, D.bl.injEq, addD_i, subD_i, mulD_i, fdivD_i, modD_i, ltD_i, leD_i, gtD_i, geD_i, tb_b, toI_i, intF_i, absF_i, ixD_o, ixD_tl, ixD_tup, lenF_o, lenF_tl, lenF_tup, lenF_fz, objL_o, tyOk_o, Option.bind_some, Option.map_some, Option.isSome_some, Prod.mk.injEq, and_assoc, exists_and_left, decide_eq_true_eq, Option.ite_none_right_eq_some, true_and, true_and]
    refine wR_imp (w_draw' p s hn0 (by omega)) (fun _ _ z => z) fun d G3 ⟨v, e, a, b, p, q⟩ => ?_
    refine wR_imp (w_draw' p q hn0 (by omega)) (fun _ _ z => z) fun d' G4 ⟨v', e', a', b', p', q'⟩ => ?_
    subst e e'
    have z := are_of (n := 0) (many := 2) (stock := n) (ys := [.int v, .int v']) rfl (by simp) (fun y hy => by
      simp only [List.mem_cons, List.not_mem_nil, or_false] at hy
      rcases hy with rfl | rfl
      · exact st_int a b
      · exact st_int a' b')
    exact ⟨_, mk2 _ _ _, z.1, z.2, p', q'⟩
  subst er
  simp only [tupF_tl, startD, List.map_cons, List.map_nil, List.length_cons, List.length_nil, List.replicate, List.cons_append, List.nil_append, List.getElem?_cons_zero, List.getElem?_cons_succ, List.set_cons_zero, List.set_cons_succ, Option.some.injEq, exists_eq_left', Nat.reduceAdd, Nat.reduceSub, D.int.injEq, D.bl.injEq, addD_i, subD_i, mulD_i, fdivD_i, modD_i, ltD_i, leD_i, gtD_i, geD_i, tb_b, toI_i, intF_i, absF_i, ixD_o, ixD_tl, ixD_tup, lenF_o, lenF_tl, lenF_tup, lenF_fz, objL_o, tyOk_o, Option.bind_some, Option.map_some, Option.isSome_some, Prod.mk.injEq, and_assoc, exists_and_left, decide_eq_true_eq, Option.ite_none_right_eq_some, true_and, hR]
  refine wR_imp (comp_draw (P := fun y => areB y n n = true ∧ pd 6 y = true) p2 (by omega) (fun x G' p s => ?_) s2) (fun _ _ z => z) fun r G3 ⟨js, er, hj, hjs, p3, s3⟩ => ?_
  · simp only [wipeD, wR_bnd, wR_ret, wR_rd, wR_lo, wR_lof, wR_chk, wR_ite, wR_call, wR_runF, wR_newL, wR_chn, wS_seq, wS_bnd, wS_nxt, wS_ret, wS_set, wS_brk, wS_cnt, wS_rz0, wS_rz, wS_ite, wS_setIx, wS_try, wS_end, startD, List.map_cons, List.map_nil, List.length_cons, List.length_nil, List.replicate, List.cons_append, List.nil_append, List.getElem?_cons_zero, List.getElem?_cons_succ, List.set_cons_zero, List.set_cons_succ, Option.some.injEq, exists_eq_left', Nat.reduceAdd, Nat.reduceSub, D.int.injEq, D.bl.injEq, addD_i, subD_i, mulD_i, fdivD_i, modD_i, ltD_i, leD_i, gtD_i, geD_i, tb_b, toI_i, intF_i, absF_i, ixD_o, ixD_tl, ixD_tup, lenF_o, lenF_tl, lenF_tup, lenF_fz, objL_o, tyOk_o, Option.bind_some, Option.map_some, Option.isSome_some, Prod.mk.injEq, and_assoc, exists_and_left, decide_eq_true_eq, Option.ite_none_right_eq_some, true_and, hR]
    refine wR_imp (comp_draw (P := stB n) p (by omega) (fun x G' p s => ?_) s) (fun _ _ z => z) fun r G4 ⟨ys, er, hy, hys, p4, s4⟩ => ?_
    · simp only [wipeD, wR_bnd, wR_ret, wR_rd, wR_lo, wR_lof, wR_chk, wR_ite, wR_call, wR_runF, wR_newL, wR_chn, wS_seq, wS_bnd, wS_nxt, wS_ret, wS_set, wS_brk, wS_cnt, wS_rz0, wS_rz, wS_ite, wS_setIx, wS_try, wS_end, startD, List.map_cons, List.map_nil, List.length_cons, List.length_nil, List.replicate, List.cons_append, List.nil_append, List.getElem?_cons_zero, List.getElem?_cons_succ, List.set_cons_zero, List.set_cons_succ, Option.some.injEq, exists_eq_left', Nat.reduceAdd, Nat.reduceSub, D.int.injEq, D.bl.injEq, addD_i, subD_i, mulD_i, fdivD_i, modD_i, ltD_i, leD_i, gtD_i, geD_i, tb_b, toI_i, intF_i, absF_i, ixD_o, ixD_tl, ixD_tup, lenF_o, lenF_tl, lenF_tup, lenF_fz, objL_o, tyOk_o, Option.bind_some, Option.map_some, Option.isSome_some, Prod.mk.injEq, and_assoc, exists_and_left, decide_eq_true_eq, Option.ite_none_right_eq_some, true_and, true_and]
      exact wR_imp (w_draw' p s hn0 (by omega)) (fun _ _ z => z) fun d G2 ⟨v, e, a, b, p, q⟩ => ⟨by rw [e]; exact st_int a b, p, q⟩
    · subst er
      simp only [tupF_tl, startD, List.map_cons, List.map_nil, List.length_cons, List.length_nil, List.replicate, List.cons_append, List.nil_append, List.getElem?_cons_zero, List.getElem?_cons_succ, List.set_cons_zero, List.set_cons_succ, Option.some.injEq, exists_eq_left', Nat.reduceAdd, Nat.reduceSub, D.int.injEq, D.bl.injEq, addD_i, subD_i, mulD_i, fdivD_i, modD_i, ltD_i, leD_i, gtD_i, geD_i, tb_b, toI_i, intF_i, absF_i, ixD_o, ixD_tl, ixD_tup, lenF_o, lenF_tl, lenF_tup, lenF_fz, objL_o, tyOk_o, Option.bind_some, Option.map_some, Option.isSome_some, Prod.mk.injEq, and_assoc, exists_and_left, decide_eq_true_eq, Option.ite_none_right_eq_some, true_and]
      have z := are_of (n := 0) (many := n) (stock := n) (ys := ys) (by omega) (by omega) hys
      exact ⟨z.1, z.2, p4, s4⟩
  subst er
  simp only [tupF_tl, startD, List.map_cons, List.map_nil, List.length_cons, List.length_nil, List.replicate, List.cons_append, List.nil_append, List.getElem?_cons_zero, List.getElem?_cons_succ, List.set_cons_zero, List.set_cons_succ, Option.some.injEq, exists_eq_left', Nat.reduceAdd, Nat.reduceSub, D.int.injEq, D.bl.injEq, addD_i, subD_i, mulD_i, fdivD_i, modD_i, ltD_i, leD_i, gtD_i, geD_i, tb_b, toI_i, intF_i, absF_i, ixD_o, ixD_tl, ixD_tup, lenF_o, lenF_tl, lenF_tup, lenF_fz, objL_o, tyOk_o, Option.bind_some, Option.map_some, Option.isSome_some, Prod.mk.injEq, and_assoc, exists_and_left, decide_eq_true_eq, Option.ite_none_right_eq_some, true_and, hR, mk4]
  refine wR_imp (comp_draw (P := fun y => rowsB y wdB n = true ∧ pd 6 y = true) p3 (by omega) (fun x G' p s => ?_) s3) (fun _ _ z => z) fun r G4 ⟨ls, er, hl, hls, p4, s4⟩ => ?_
  · simp only [wipeD, wR_bnd, wR_ret, wR_rd, wR_lo, wR_lof, wR_chk, wR_ite, wR_call, wR_runF, wR_newL, wR_chn, wS_seq, wS_bnd, wS_nxt, wS_ret, wS_set, wS_brk, wS_cnt, wS_rz0, wS_rz, wS_ite, wS_setIx, wS_try, wS_end, startD, List.map_cons, List.map_nil, List.length_cons, List.length_nil, List.replicate, List.cons_append, List.nil_append, List.getElem?_cons_zero, List.getElem?_cons_succ, List.set_cons_zero, List.set_cons_succ, Option.some.injEq, exists_eq_left', Nat.reduceAdd, Nat.reduceSub, D.int.injEq, D.bl.injEq, addD_i, subD_i, mulD_i, fdivD_i, modD_i, ltD_i, leD_i, gtD_i, geD_i, tb_b, toI_i, intF_i, absF_i, ixD_o, ixD_tl, ixD_tup, lenF_o, lenF_tl, lenF_tup, lenF_fz, objL_o, tyOk_o, Option.bind_some, Option.map_some, Option.isSome_some, Prod.mk.injEq, and_assoc, exists_and_left, decide_eq_true_eq, Option.ite_none_right_eq_some, true_and, hR]
    refine wR_imp (comp_draw (P := fun y => wdB y = true ∧ pd 6 y = true) p (by omega) (fun x G' p s => ?_) s) (fun _ _ z => z) fun r G4 ⟨ys, er, hy, hys, p4, s4⟩ => ?_
    · simp only [wipeD, wR_bnd, wR_ret, wR_rd, wR_lo, wR_lof, wR_chk, wR_ite, wR_call, wR_runF, wR_newL, wR_chn, wS_seq, wS_bnd, wS_nxt, wS_ret, wS_set, wS_brk, wS_cnt, wS_rz0, wS_rz, wS_ite, wS_setIx, wS_try, wS_end, startD, List.map_cons, List.map_nil, List.length_cons, List.length_nil, List.replicate, List.cons_append, List.nil_append, List.getElem?_cons_zero, List.getElem?_cons_succ, List.set_cons_zero, List.set_cons_succ, Option.some.injEq, exists_eq_left', Nat.reduceAdd, Nat.reduceSub, D.int.injEq, D.bl.injEq, addD_i, subD_i, mulD_i, fdivD_i, modD_i, ltD_i, leD_i, gtD_i, geD_i, tb_b, toI_i, intF_i, absF_i, ixD_o, ixD_tl, ixD_tup, lenF_o, lenF_tl, lenF_tup, lenF_fz, objL_o, tyOk_o, Option.bind_some, Option.map_some, Option.isSome_some, Prod.mk.injEq, and_assoc, exists_and_left, decide_eq_true_eq, Option.ite_none_right_eq_some, true_and, true_and]
      refine wR_imp (w_draw' p s (many := 4) (by omega) (by omega)) (fun _ _ z => z) fun d G2 ⟨v, e, a, b, p, q⟩ => ?_
      subst e
      obtain ⟨w, e1, e2, e3⟩ := wd_at a b
      exact ⟨w, e1, e2, e3, p, q⟩
    · subst er
      simp only [tupF_tl, startD, List.map_cons, List.map_nil, List.length_cons, List.length_nil, List.replicate, List.cons_append, List.nil_append, List.getElem?_cons_zero, List.getElem?_cons_succ, List.set_cons_zero, List.set_cons_succ, Option.some.injEq, exists_eq_left', Nat.reduceAdd, Nat.reduceSub, D.int.injEq, D.bl.injEq, addD_i, subD_i, mulD_i, fdivD_i, modD_i, ltD_i, leD_i, gtD_i, geD_i, tb_b, toI_i, intF_i, absF_i, ixD_o, ixD_tl, ixD_tup, lenF_o, lenF_tl, lenF_tup, lenF_fz, objL_o, tyOk_o, Option.bind_some, Option.map_some, Option.isSome_some, Prod.mk.injEq, and_assoc, exists_and_left, decide_eq_true_eq, Option.ite_none_right_eq_some, true_and]
      have z := rows_of (p := wdB) (many := n) (ys := ys) (by omega) (by omega) hys
      exact ⟨z.1, z.2, p4, s4⟩
  subst er
  simp only [tupF_tl, startD, List.map_cons, List.map_nil, List.length_cons, List.length_nil, List.replicate, List.cons_append, List.nil_append, List.getElem?_cons_zero, List.getElem?_cons_succ, List.set_cons_zero, List.set_cons_succ, Option.some.injEq, exists_eq_left', Nat.reduceAdd, Nat.reduceSub, D.int.injEq, D.bl.injEq, addD_i, subD_i, mulD_i, fdivD_i, modD_i, ltD_i, leD_i, gtD_i, geD_i, tb_b, toI_i, intF_i, absF_i, ixD_o, ixD_tl, ixD_tup, lenF_o, lenF_tl, lenF_tup, lenF_fz, objL_o, tyOk_o, Option.bind_some, Option.map_some, Option.isSome_some, Prod.mk.injEq, and_assoc, exists_and_left, decide_eq_true_eq, Option.ite_none_right_eq_some, true_and, true_and]
  refine wR_imp (w_draw' p4 s4 hn0 (by omega)) (fun _ _ z => z) fun d G5 ⟨v, e, a, b', p5, s5⟩ => ?_
  subst e
  have qc := are_of (n := 0) (many := n) (stock := n) (by omega) (by omega) hcs
  have qf := rows_of (p := fun x => areB x 2 n) (many := n) (by omega) (by omega) hfs
  have qj := rows_of (p := fun x => areB x n n) (many := n) (by omega) (by omega) hjs
  have ql := rows_of (p := fun x => rowsB x wdB n) (many := n) (by omega) (by omega) hls
  have hm : manyB (.tup cs) = n := by simp [manyB, hc]
  have c1 : (1 : Int) ≤ n := by omega
  have c2 : (n : Int) ≤ 400 := by omega
  have c3 : btB (.int v) 0 ((n : Int) - 1) = true := (st_int a b').1
  have c4 : pd 6 (.int v) = true := rfl
  have c5 : pd 6 .non = true := rfl
  cases b with
  | true =>
    simp only [if_true, mk5, startD, List.map_cons, List.map_nil, List.length_cons, List.length_nil, List.replicate, List.cons_append, List.nil_append, List.getElem?_cons_zero, List.getElem?_cons_succ, List.set_cons_zero, List.set_cons_succ, Option.some.injEq, exists_eq_left', Nat.reduceAdd, Nat.reduceSub, D.int.injEq, D.bl.injEq, addD_i, subD_i, mulD_i, fdivD_i, modD_i, ltD_i, leD_i, gtD_i, geD_i, tb_b, toI_i, intF_i, absF_i, ixD_o, ixD_tl, ixD_tup, lenF_o, lenF_tl, lenF_tup, lenF_fz, objL_o, tyOk_o, Option.bind_some, Option.map_some, Option.isSome_some, Prod.mk.injEq, and_assoc, exists_and_left, decide_eq_true_eq, Option.ite_none_right_eq_some, true_and]
    exact ⟨_, _, _, _, _, rfl, by simp [wrB, hm, c1, c2, c3, qc.1, qf.1, qj.1, ql.1], by rw [c4, qc.2, qf.2, qj.2, ql.2]; rfl, p5, s5⟩
  | false =>
    simp only [Bool.false_eq_true, if_false, mk5, startD, List.map_cons, List.map_nil, List.length_cons, List.length_nil, List.replicate, List.cons_append, List.nil_append, List.getElem?_cons_zero, List.getElem?_cons_succ, List.set_cons_zero, List.set_cons_succ, Option.some.injEq, exists_eq_left', Nat.reduceAdd, Nat.reduceSub, D.int.injEq, D.bl.injEq, addD_i, subD_i, mulD_i, fdivD_i, modD_i, ltD_i, leD_i, gtD_i, geD_i, tb_b, toI_i, intF_i, absF_i, ixD_o, ixD_tl, ixD_tup, lenF_o, lenF_tl, lenF_tup, lenF_fz, objL_o, tyOk_o, Option.bind_some, Option.map_some, Option.isSome_some, Prod.mk.injEq, and_assoc, exists_and_left, decide_eq_true_eq, Option.ite_none_right_eq_some, true_and]
    exact ⟨_, _, _, _, _, rfl, by simp [wrB, hm, c1, c2, c3, qc.1, qf.1, qj.1, isN], by rw [c4, qc.2, qf.2, qj.2, c5]; rfl, p5, s5⟩
end
theorem w_rows2 {G : Gs} {X : Exc → Gs → Prop} {n : Nat} {b : Bool} (p4 : Pot G) (h1 : 1 ≤ n) (h2 : n ≤ 6) (Z : Prop) (hz : ∀ r, f__law_rows [.obj 1, .int n, .bl b] G = r → wR r X (fun r G' => ∃ a c f j l, r = .tup [a, c, f, j, l] ∧ wrB a c f j l = none ∧ (pd 6 a && pd 6 c && pd 6 f && pd 6 j && pd 6 l) = true ∧ Pot G' ∧ Same G G') → Z) : Z := by
  have q := @w_rows G X n b p4 h1
  revert q
  intro q
  exact Exists.elim (q h2) fun r h => hz r h.1 h.2
end K12
end M3
end L2

set_option Elab.async false
set_option linter.all false
set_option maxRecDepth 100000
set_option maxHeartbeats 2000000
namespace L2
namespace M3
namespace K12
open PySem PySem.Spec PyProof.Rows
section
variable {G : Gs} {X : Exc → Gs → Prop}
theorem w_any {G0 : Gs} {o : Nat} {odd : List D} (hp : Pot G) (s0 : Same G0 G) (ho : 2 ≤ o) (hg : G[o]? = some (.lst odd)) (h1 : 0 < odd.length) (h2 : odd.length ≤ 1000) :
    wR (f__law_any [.obj 1, .obj o] G) X (fun r G' => r ∈ odd ∧ Pot G' ∧ Same G0 G') := by
  unfold f__law_any b__law_any
  simp only [wR_bnd, wR_ret, wR_rd, wR_lo, wR_lof, wR_chk, wR_ite, wR_call, wR_runF, wR_newL, wR_chn, wS_seq, wS_bnd, wS_nxt, wS_ret, wS_set, wS_brk, wS_cnt, wS_rz0, wS_rz, wS_ite, wS_setIx, wS_try, wS_end, startD, List.map_cons, List.map_nil, List.length_cons, List.length_nil, List.replicate, List.cons_append, List.nil_append, List.getElem?_cons_zero, List.getElem?_cons_succ, List.set_cons_zero, List.set_cons_succ, Option.some.injEq, exists_eq_left', Nat.reduceAdd, Nat.reduceSub, D.int.injEq, D.bl.injEq, addD_i, subD_i, mulD_i, fdivD_i, modD_i, ltD_i, leD_i, gtD_i, geD_i, tb_b, toI_i, intF_i, absF_i, ixD_o, ixD_tl, ixD_tup, lenF_o, lenF_tl, lenF_tup, lenF_fz, objL_o, tyOk_o, Option.bind_some, Option.map_some, Option.isSome_some, Prod.mk.injEq, and_assoc, exists_and_left, decide_eq_true_eq, Option.ite_none_right_eq_some, true_and, lstO_at hg]
  refine wR_imp (w_draw' hp s0 (by omega) (by omega)) (fun _ _ z => z) fun d G2 ⟨v, e, a, b, p, q⟩ => ?_
  subst e
  have hg2 : G2[o]? = some (.lst odd) := by rw [q.at_ o ho, ← s0.at_ o ho]; exact hg
  have hlt : v.toNat < odd.length := by omega
  simp only [startD, List.map_cons, List.map_nil, List.length_cons, List.length_nil, List.replicate, List.cons_append, List.nil_append, List.getElem?_cons_zero, List.getElem?_cons_succ, List.set_cons_zero, List.set_cons_succ, Option.some.injEq, exists_eq_left', Nat.reduceAdd, Nat.reduceSub, D.int.injEq, D.bl.injEq, addD_i, subD_i, mulD_i, fdivD_i, modD_i, ltD_i, leD_i, gtD_i, geD_i, tb_b, toI_i, intF_i, absF_i, ixD_o, ixD_tl, ixD_tup, lenF_o, lenF_tl, lenF_tup, lenF_fz, objL_o, tyOk_o, Option.bind_some, Option.map_some, Option.isSome_some, Prod.mk.injEq, and_assoc, exists_and_left, decide_eq_true_eq, Option.ite_none_right_eq_some, true_and, lstO_at hg2]
  exact ⟨odd[v.toNat], atI_of (ixN_pos a b) (by simp [hlt]), List.getElem_mem hlt, p, q⟩
def deepD : Nat → D
  | 0 => .tup []
  | n + 1 => .tup [deepD n]
theorem w_deep : f__law_deep [] G = .ok (deepD 12) G := by
  refine eq_of_wR ?_
  unfold f__law_deep b__law_deep
  have m0 : ∀ G', mkT [] G' = some (.tup []) := fun G' => mkT_of (by simp)
  have m1 : ∀ G' d, mkT [d] G' = some (.tup [d]) := fun G' d => mkT_of (by simp)
  have hR : ∀ G', toRng1 [.int 12] G' = some (.rng 0 12) := fun G' => toRng (n := 12) (by omega)
  simp only [wR_bnd, wR_ret, wR_rd, wR_lo, wR_lof, wR_chk, wR_ite, wR_call, wR_runF, wR_newL, wR_chn, wS_seq, wS_bnd, wS_nxt, wS_ret, wS_set, wS_brk, wS_cnt, wS_rz0, wS_rz, wS_ite, wS_setIx, wS_try, wS_end, startD, List.map_cons, List.map_nil, List.length_cons, List.length_nil, List.replicate, List.cons_append, List.nil_append, List.getElem?_cons_zero, List.getElem?_cons_succ, List.set_cons_zero, List.set_cons_succ, Option.some.injEq, exists_eq_left', Nat.reduceAdd, Nat.reduceSub, D.int.injEq, D.bl.injEq, addD_i, subD_i, mulD_i, fdivD_i, modD_i, ltD_i, leD_i, gtD_i, geD_i, tb_b, toI_i, intF_i, absF_i, ixD_o, ixD_tl, ixD_tup, lenF_o, lenF_tl, lenF_tup, lenF_fz, objL_o, tyOk_o, Option.bind_some, Option.map_some, Option.isSome_some, Prod.mk.injEq, and_assoc, exists_and_left, decide_eq_true_eq, Option.ite_none_right_eq_some, true_and, m0, hR]
  generalize hits : ((List.range 12).map fun (j : Nat) => D.int (0 + (j : Int))) = its
  have hlen : its.length = 12 := by rw [← hits]; simp
  have hi : ∀ G', items G' (.rng 0 12) = some its := fun G' => by
    show some ((List.range 12).map fun (j : Nat) => D.int (0 + (j : Int))) = _
    rw [hits]
  apply wS_for (its := its) (fun r l G' => G' = G ∧ ∃ a j, l = [some (deepD j), a] ∧ j + r.length = 12) (hi _)
  · exact ⟨rfl, none, 0, rfl, by omega⟩
  · exact fun r l G' h => hi _
  · rintro x r l G' ⟨rfl, a, j, rfl, hj⟩
    simp only [wS_nm, List.set_cons_succ, List.set_cons_zero, wR_bnd, wR_ret, wR_rd, wR_lo, wR_lof, wR_chk, wR_ite, wR_call, wR_runF, wR_newL, wR_chn, wS_seq, wS_bnd, wS_nxt, wS_ret, wS_set, wS_brk, wS_cnt, wS_rz0, wS_rz, wS_ite, wS_setIx, wS_try, wS_end, List.getElem?_cons_zero, Option.some.injEq, exists_eq_left', m1]
    exact ⟨trivial, _, j + 1, rfl, by simp at hj; omega⟩
  · rintro l G' ⟨rfl, a, j, rfl, hj⟩
    simp at hj
    subst hj
    simp only [wR_bnd, wR_ret, wR_rd, wR_lo, wR_lof, wR_chk, wR_ite, wR_call, wR_runF, wR_newL, wR_chn, wS_seq, wS_bnd, wS_nxt, wS_ret, wS_set, wS_brk, wS_cnt, wS_rz0, wS_rz, wS_ite, wS_setIx, wS_try, wS_end, startD, List.map_cons, List.map_nil, List.length_cons, List.length_nil, List.replicate, List.cons_append, List.nil_append, List.getElem?_cons_zero, List.getElem?_cons_succ, List.set_cons_zero, List.set_cons_succ, Option.some.injEq, exists_eq_left', Nat.reduceAdd, Nat.reduceSub, D.int.injEq, D.bl.injEq, addD_i, subD_i, mulD_i, fdivD_i, modD_i, ltD_i, leD_i, gtD_i, geD_i, tb_b, toI_i, intF_i, absF_i, ixD_o, ixD_tl, ixD_tup, lenF_o, lenF_tl, lenF_tup, lenF_fz, objL_o, tyOk_o, Option.bind_some, Option.map_some, Option.isSome_some, Prod.mk.injEq, and_assoc, exists_and_left, decide_eq_true_eq, Option.ite_none_right_eq_some, true_and, and_self]
end
end K12
end M3
end L2

set_option Elab.async false
set_option linter.all false
set_option maxRecDepth 100000
set_option maxHeartbeats 2000000
namespace L2
namespace M3
namespace K12
open PySem PySem.Spec PyProof.Rows
mutual
def cal : D → Nat
  | .tup ds => cals ds + 1
  | _ => 1
def cals : List D → Nat
  | [] => 0
  | d :: ds => max (cal d) (cals ds)
end
theorem cals_mem {x : D} : ∀ {l : List D}, x ∈ l → cal x ≤ cals l
  | y :: l, h => by
    simp only [cals]
    rcases List.mem_cons.mp h with rfl | h
    · omega
    · have := cals_mem h; omega
theorem cals_le {m : Nat} : ∀ {l : List D}, (∀ x ∈ l, cal x ≤ m) → cals l ≤ m
  | [], _ => Nat.zero_le _
  | y :: l, h => by
    simp only [cals]
    have a := h y List.mem_cons_self
    have b := cals_le (l := l) fun x hx => h x (List.mem_cons_of_mem _ hx)
    omega
mutual
theorem pd_up {k : Nat} : ∀ {d : D}, pd k d = true → pd (k + 1) d = true
  | .non, _ => rfl
  | .bl _, _ => rfl
  | .int _, _ => rfl
  | .str _, _ => rfl
  | .tup ds, h => by
    simp only [pd, Bool.and_eq_true, decide_eq_true_eq] at h ⊢
    exact ⟨by omega, pds_up h.2⟩
  | .tl ds, h => by
    simp only [pd, Bool.and_eq_true, decide_eq_true_eq] at h ⊢
    exact ⟨by omega, pds_up h.2⟩
  | .td ks ds, h => by
    cases ks <;> cases ds <;> first | rfl | (simp [pd] at h)
  | .ty _, h => by simp [pd] at h
  | .glo _, h => by simp [pd] at h
  | .fz _, h => by simp [pd] at h
  | .ti .., h => by simp [pd] at h
  | .obj _, h => by simp [pd] at h
theorem pds_up {k : Nat} : ∀ {l : List D}, pds k l = true → pds (k + 1) l = true
  | [], _ => rfl
  | d :: l, h => by
    simp only [pds, Bool.and_eq_true] at h ⊢
    exact ⟨pd_up h.1, pds_up h.2⟩
end
def Ok1 (k c : Nat) (x : D) : Prop := pd k x = true ∧ cal x ≤ c
theorem ok_tup {k c : Nat} {l : List D} (h : ∀ x ∈ l, Ok1 k c x) (hl : l.length ≤ k) : Ok1 k (c + 1) (.tup l) := by
  refine ⟨?_, ?_⟩
  · simp only [pd, Bool.and_eq_true, decide_eq_true_eq]
    exact ⟨hl, pds_all fun x hx => (h x hx).1⟩
  · simp only [cal]
    have := cals_le (l := l) fun x hx => (h x hx).2
    omega
theorem Ok1.up {k c c' : Nat} {x : D} (h : Ok1 k c x) (l : c ≤ c') : Ok1 (k + 1) c' x := ⟨pd_up h.1, Nat.le_trans h.2 l⟩
theorem cut_take {ds : List D} {v : Int} (h : 0 ≤ v) : cutD ds none (some v) = ds.take v.toNat := by
  unfold cutD HT.sIx
  simp only [Nat.sub_zero, List.drop_zero]
  rw [if_neg (by omega)]
  rw [← List.take_take, List.take_length]
theorem cut_drop {ds : List D} {v : Int} (h : 0 ≤ v) : cutD ds (some v) none = ds.drop v.toNat := by
  unfold cutD HT.sIx
  simp only
  rw [if_neg (by omega)]
  by_cases c : v.toNat ≤ ds.length
  · rw [Nat.min_eq_left c, List.take_of_length_le (by simp)]
  · rw [Nat.min_eq_right (by omega), List.drop_length, List.drop_of_length_le (by omega)]
    simp
theorem addD_t {a b : List D} {G : Gs} (h : a.length + b.length ≤ 2000) : addD (.tup a) (.tup b) G = some (.tup (a ++ b)) := by
  show (if a.length + b.length ≤ sizeLine then some (D.tup (a ++ b)) else none) = _
  rw [if_pos (by rw [sizeLine_eq]; omega)]
theorem w_bent {k o : Nat} {odd : List D} (hk : k ≤ 900) (ho : 2 ≤ o) (h1 : 0 < odd.length) (h2 : odd.length ≤ 1000) (hodd : ∀ y ∈ odd, Ok1 k 13 y) : ∀ (m n : Nat) {thing : D} {G0 G : Gs} {X : Exc → Gs → Prop}, n ≤ m → Pot G → Same G0 G → G[o]? = some (.lst odd) → Ok1 k n thing →
    wR (f__law_bentr m [.obj 1, thing, .obj o] G) X (fun r G' => Ok1 (k + 1) (n + 12) r ∧ Pot G' ∧ Same G0 G')
  | m, 0, thing, G0, G, X, hm, hp, s0, hg, ht => by
    have := ht.2
    cases thing <;> simp [cal] at this
  | 0, n + 1, thing, G0, G, X, hm, hp, s0, hg, ht => by omega
  | m + 1, n + 1, thing, G0, G, X, hm, hp, s0, hg, ht => by
    unfold f__law_bentr b__law_bent
    have any : ∀ {G1 : Gs} {X : Exc → Gs → Prop}, Pot G1 → Same G0 G1 → wR (f__law_any [.obj 1, .obj o] G1) X (fun r G' => Ok1 (k + 1) (n + 1 + 12) r ∧ Pot G' ∧ Same G0 G') := fun {G1 X} p s =>
      wR_imp (w_any p s ho (by rw [s.at_ o ho, ← s0.at_ o ho]; exact hg) h1 h2) (fun _ _ z => z) fun r G' ⟨m, p, q⟩ => ⟨(hodd r m).up (by omega), p, q⟩
    have hT : ∀ G', isiF TT.tf [thing, .ty "tuple"] G' = some (.bl (isB thing "tuple")) := fun G' => isi_pd ht.1 (T := "tuple") (.inr (.inr (.inl rfl)))
    by_cases c : isB thing "tuple" = true
    case neg =>
      have c' : isB thing "tuple" = false := by simpa using c
      simp only [wR_bnd, wR_ret, wR_rd, wR_lo, wR_lof, wR_chk, wR_ite, wR_call, wR_runF, wR_newL, wR_chn, wS_seq, wS_bnd, wS_nxt, wS_ret, wS_set, wS_brk, wS_cnt, wS_rz0, wS_rz, wS_ite, wS_setIx, wS_try, wS_end, startD, List.map_cons, List.map_nil, List.length_cons, List.length_nil, List.replicate, List.cons_append, List.nil_append, List.getElem?_cons_zero, List.getElem?_cons_succ, List.set_cons_zero, List.set_cons_succ, Option.some.injEq, exists_eq_left', Nat.reduceAdd, Nat.reduceSub, D.int.injEq, D.bl.injEq, addD_i, subD_i, mulD_i, fdivD_i, modD_i, ltD_i, leD_i, gtD_i, geD_i, tb_b, toI_i, intF_i, absF_i, ixD_o, ixD_tl, ixD_tup, lenF_o, lenF_tl, lenF_tup, lenF_fz, objL_o, tyOk_o, Option.bind_some, Option.map_some, Option.isSome_some, Prod.mk.injEq, and_assoc, exists_and_left, decide_eq_true_eq, Option.ite_none_right_eq_some, true_and, hT, c', Bool.not_false, if_true]
      exact any hp s0
    obtain ⟨ds, rfl⟩ := isT_tup ht.1 c
    obtain ⟨hl, hds⟩ := pd_tup ht.1
    by_cases c0 : ds.length = 0
    · have c0' : (ds.length : Int) = 0 := by omega
      simp only [wR_bnd, wR_ret, wR_rd, wR_lo, wR_lof, wR_chk, wR_ite, wR_call, wR_runF, wR_newL, wR_chn, wS_seq, wS_bnd, wS_nxt, wS_ret, wS_set, wS_brk, wS_cnt, wS_rz0, wS_rz, wS_ite, wS_setIx, wS_try, wS_end, startD, List.map_cons, List.map_nil, List.length_cons, List.length_nil, List.replicate, List.cons_append, List.nil_append, List.getElem?_cons_zero, List.getElem?_cons_succ, List.set_cons_zero, List.set_cons_succ, Option.some.injEq, exists_eq_left', Nat.reduceAdd, Nat.reduceSub, D.int.injEq, D.bl.injEq, addD_i, subD_i, mulD_i, fdivD_i, modD_i, ltD_i, leD_i, gtD_i, geD_i, tb_b, toI_i, intF_i, absF_i, ixD_o, ixD_tl, ixD_tup, lenF_o, lenF_tl, lenF_tup, lenF_fz, objL_o, tyOk_o, Option.bind_some, Option.map_some, Option.isSome_some, Prod.mk.injEq, and_assoc, exists_and_left, decide_eq_true_eq, Option.ite_none_right_eq_some, true_and, hT, c, Bool.not_true, Bool.false_eq_true, if_false, lenF_tup, eqD_i, c0', decide_true, if_true]
      exact any hp s0
    have c0' : ¬ (ds.length : Int) = 0 := by omega
    simp only [wR_bnd, wR_ret, wR_rd, wR_lo, wR_lof, wR_chk, wR_ite, wR_call, wR_runF, wR_newL, wR_chn, wS_seq, wS_bnd, wS_nxt, wS_ret, wS_set, wS_brk, wS_cnt, wS_rz0, wS_rz, wS_ite, wS_setIx, wS_try, wS_end, startD, List.map_cons, List.map_nil, List.length_cons, List.length_nil, List.replicate, List.cons_append, List.nil_append, List.getElem?_cons_zero, List.getElem?_cons_succ, List.set_cons_zero, List.set_cons_succ, Option.some.injEq, exists_eq_left', Nat.reduceAdd, Nat.reduceSub, D.int.injEq, D.bl.injEq, addD_i, subD_i, mulD_i, fdivD_i, modD_i, ltD_i, leD_i, gtD_i, geD_i, tb_b, toI_i, intF_i, absF_i, ixD_o, ixD_tl, ixD_tup, lenF_o, lenF_tl, lenF_tup, lenF_fz, objL_o, tyOk_o, Option.bind_some, Option.map_some, Option.isSome_some, Prod.mk.injEq, and_assoc, exists_and_left, decide_eq_true_eq, Option.ite_none_right_eq_some, true_and, hT, c, Bool.not_true, Bool.false_eq_true, if_false, lenF_tup, eqD_i, c0', decide_false]
    refine wR_imp (w_draw' hp s0 (by omega) (by omega)) (fun _ _ z => z) fun d G1 ⟨v, e, a, b, p1, s1⟩ => ?_
    subst e
    simp only [eqD_i, startD, List.map_cons, List.map_nil, List.length_cons, List.length_nil, List.replicate, List.cons_append, List.nil_append, List.getElem?_cons_zero, List.getElem?_cons_succ, List.set_cons_zero, List.set_cons_succ, Option.some.injEq, exists_eq_left', Nat.reduceAdd, Nat.reduceSub, D.int.injEq, D.bl.injEq, addD_i, subD_i, mulD_i, fdivD_i, modD_i, ltD_i, leD_i, gtD_i, geD_i, tb_b, toI_i, intF_i, absF_i, ixD_o, ixD_tl, ixD_tup, lenF_o, lenF_tl, lenF_tup, lenF_fz, objL_o, tyOk_o, Option.bind_some, Option.map_some, Option.isSome_some, Prod.mk.injEq, and_assoc, exists_and_left, decide_eq_true_eq, Option.ite_none_right_eq_some, true_and]
    by_cases v0 : v = 0
    · simp only [v0, if_true, wR_bnd, wR_ret, wR_rd, wR_lo, wR_lof, wR_chk, wR_ite, wR_call, wR_runF, wR_newL, wR_chn, wS_seq, wS_bnd, wS_nxt, wS_ret, wS_set, wS_brk, wS_cnt, wS_rz0, wS_rz, wS_ite, wS_setIx, wS_try, wS_end, startD, List.map_cons, List.map_nil, List.length_cons, List.length_nil, List.replicate, List.cons_append, List.nil_append, List.getElem?_cons_zero, List.getElem?_cons_succ, List.set_cons_zero, List.set_cons_succ, Option.some.injEq, exists_eq_left', Nat.reduceAdd, Nat.reduceSub, D.int.injEq, D.bl.injEq, addD_i, subD_i, mulD_i, fdivD_i, modD_i, ltD_i, leD_i, gtD_i, geD_i, tb_b, toI_i, intF_i, absF_i, ixD_o, ixD_tl, ixD_tup, lenF_o, lenF_tl, lenF_tup, lenF_fz, objL_o, tyOk_o, Option.bind_some, Option.map_some, Option.isSome_some, Prod.mk.injEq, and_assoc, exists_and_left, decide_eq_true_eq, Option.ite_none_right_eq_some, true_and, decide_true]
      exact any p1 s1
    simp only [v0, decide_false, Bool.false_eq_true, if_false, wR_bnd, wR_ret, wR_rd, wR_lo, wR_lof, wR_chk, wR_ite, wR_call, wR_runF, wR_newL, wR_chn, wS_seq, wS_bnd, wS_nxt, wS_ret, wS_set, wS_brk, wS_cnt, wS_rz0, wS_rz, wS_ite, wS_setIx, wS_try, wS_end, startD, List.map_cons, List.map_nil, List.length_cons, List.length_nil, List.replicate, List.cons_append, List.nil_append, List.getElem?_cons_zero, List.getElem?_cons_succ, List.set_cons_zero, List.set_cons_succ, Option.some.injEq, exists_eq_left', Nat.reduceAdd, Nat.reduceSub, D.int.injEq, D.bl.injEq, addD_i, subD_i, mulD_i, fdivD_i, modD_i, ltD_i, leD_i, gtD_i, geD_i, tb_b, toI_i, intF_i, absF_i, ixD_o, ixD_tl, ixD_tup, lenF_o, lenF_tl, lenF_tup, lenF_fz, objL_o, tyOk_o, Option.bind_some, Option.map_some, Option.isSome_some, Prod.mk.injEq, and_assoc, exists_and_left, decide_eq_true_eq, Option.ite_none_right_eq_some, true_and, lenF_tup]
    refine wR_imp (w_draw' (many := ds.length) p1 s1 (by omega) (by omega)) (fun _ _ z => z) fun d G2 ⟨at_, e, a2, b2, p2, s2⟩ => ?_
    subst e
    simp only [wR_bnd, wR_ret, wR_rd, wR_lo, wR_lof, wR_chk, wR_ite, wR_call, wR_runF, wR_newL, wR_chn, wS_seq, wS_bnd, wS_nxt, wS_ret, wS_set, wS_brk, wS_cnt, wS_rz0, wS_rz, wS_ite, wS_setIx, wS_try, wS_end, startD, List.map_cons, List.map_nil, List.length_cons, List.length_nil, List.replicate, List.cons_append, List.nil_append, List.getElem?_cons_zero, List.getElem?_cons_succ, List.set_cons_zero, List.set_cons_succ, Option.some.injEq, exists_eq_left', Nat.reduceAdd, Nat.reduceSub, D.int.injEq, D.bl.injEq, addD_i, subD_i, mulD_i, fdivD_i, modD_i, ltD_i, leD_i, gtD_i, geD_i, tb_b, toI_i, intF_i, absF_i, ixD_o, ixD_tl, ixD_tup, lenF_o, lenF_tl, lenF_tup, lenF_fz, objL_o, tyOk_o, Option.bind_some, Option.map_some, Option.isSome_some, Prod.mk.injEq, and_assoc, exists_and_left, decide_eq_true_eq, Option.ite_none_right_eq_some, true_and]
    refine wR_imp (w_draw' (many := 8) p2 s2 (by omega) (by omega)) (fun _ _ z => z) fun d G3 ⟨kind, e, a3, b3, p3, s3⟩ => ?_
    subst e
    have items_ok : ∀ x ∈ ds, Ok1 k n x := fun x hx => ⟨pds_mem hds x hx, by have := cals_mem hx; have := ht.2; simp only [cal] at this; omega⟩
    have up_ok : ∀ x ∈ ds, Ok1 (k + 1) (n + 12) x := fun x hx => (items_ok x hx).up (by omega)
    have lt1 : (ds.take at_.toNat).length ≤ k := by rw [List.length_take]; omega
    have ld1 : (ds.drop (at_ + 1).toNat).length ≤ k := by rw [List.length_drop]; omega
    have lsum : (ds.take at_.toNat).length + (ds.drop (at_ + 1).toNat).length + 1 ≤ k := by rw [List.length_take, List.length_drop]; omega
    have sl1 : slD (.tup ds) none (some at_) = fun _ => some (.tup (ds.take at_.toNat)) := by funext G'; simp only [slD, cut_take a2]
    have sl2 : slD (.tup ds) (some (at_ + 1)) none = fun _ => some (.tup (ds.drop (at_ + 1).toNat)) := by funext G'; simp only [slD, cut_drop (v := at_ + 1) (by omega)]
    have sl3 : slD (.tup ds) none (some 1) = fun _ => some (.tup (ds.take 1)) := by funext G'; simp only [slD, cut_take (v := 1) (by omega)]; rfl
    simp only [wR_bnd, wR_ret, wR_rd, wR_lo, wR_lof, wR_chk, wR_ite, wR_call, wR_runF, wR_newL, wR_chn, wS_seq, wS_bnd, wS_nxt, wS_ret, wS_set, wS_brk, wS_cnt, wS_rz0, wS_rz, wS_ite, wS_setIx, wS_try, wS_end, startD, List.map_cons, List.map_nil, List.length_cons, List.length_nil, List.replicate, List.cons_append, List.nil_append, List.getElem?_cons_zero, List.getElem?_cons_succ, List.set_cons_zero, List.set_cons_succ, Option.some.injEq, exists_eq_left', Nat.reduceAdd, Nat.reduceSub, D.int.injEq, D.bl.injEq, addD_i, subD_i, mulD_i, fdivD_i, modD_i, ltD_i, leD_i, gtD_i, geD_i, tb_b, toI_i, intF_i, absF_i, ixD_o, ixD_tl, ixD_tup, lenF_o, lenF_tl, lenF_tup, lenF_fz, objL_o, tyOk_o, Option.bind_some, Option.map_some, Option.isSome_some, Prod.mk.injEq, and_assoc, exists_and_left, decide_eq_true_eq, Option.ite_none_right_eq_some, true_and, eqD_i]
    by_cases k0 : kind = 0
    · simp only [k0, decide_true, if_true, wR_bnd, wR_ret, wR_rd, wR_lo, wR_lof, wR_chk, wR_ite, wR_call, wR_runF, wR_newL, wR_chn, wS_seq, wS_bnd, wS_nxt, wS_ret, wS_set, wS_brk, wS_cnt, wS_rz0, wS_rz, wS_ite, wS_setIx, wS_try, wS_end, startD, List.map_cons, List.map_nil, List.length_cons, List.length_nil, List.replicate, List.cons_append, List.nil_append, List.getElem?_cons_zero, List.getElem?_cons_succ, List.set_cons_zero, List.set_cons_succ, Option.some.injEq, exists_eq_left', Nat.reduceAdd, Nat.reduceSub, D.int.injEq, D.bl.injEq, addD_i, subD_i, mulD_i, fdivD_i, modD_i, ltD_i, leD_i, gtD_i, geD_i, tb_b, toI_i, intF_i, absF_i, ixD_o, ixD_tl, ixD_tup, lenF_o, lenF_tl, lenF_tup, lenF_fz, objL_o, tyOk_o, Option.bind_some, Option.map_some, Option.isSome_some, Prod.mk.injEq, and_assoc, exists_and_left, decide_eq_true_eq, Option.ite_none_right_eq_some, true_and, sl1, sl2]
      refine ⟨_, addD_t (by omega), ok_tup (c := n + 12) (fun x hx => ?_) (by rw [List.length_append]; omega), p3, s3⟩
      rcases List.mem_append.mp hx with hx | hx
      · exact up_ok x (List.mem_of_mem_take hx)
      · exact up_ok x (List.mem_of_mem_drop hx)
    rw [if_neg k0]
    by_cases k1 : kind = 1
    · rw [if_pos k1]
      refine ⟨_, by rw [sl3], _, addD_t (by rw [List.length_take]; omega), ok_tup (c := n + 12) (fun x hx => ?_) (by rw [List.length_append, List.length_take]; omega), p3, s3⟩
      rcases List.mem_append.mp hx with hx | hx
      · exact up_ok x hx
      · exact up_ok x (List.mem_of_mem_take hx)
    rw [if_neg k1]
    by_cases k2 : kind = 2
    · rw [if_pos k2]
      refine ⟨.tl ds, rfl, ⟨?_, by simp only [cal]; omega⟩, p3, s3⟩
      simp only [pd, Bool.and_eq_true, decide_eq_true_eq]
      exact ⟨by omega, pds_up hds⟩
    rw [if_neg k2]
    have hlt : at_.toNat < ds.length := by omega
    have am : atI ds at_ = some ds[at_.toNat] := atI_of (ixN_pos a2 b2) (by simp [hlt])
    have hg3 : G3[o]? = some (.lst odd) := by rw [s3.at_ o ho, ← s0.at_ o ho]; exact hg
    refine ⟨_, by rw [sl1], _, am, wR_imp (w_bent hk ho h1 h2 hodd m n (by omega) p3 s3 hg3 (items_ok _ (List.getElem_mem hlt))) (fun _ _ z => z) fun r G4 ⟨hr, p4, s4⟩ => ?_⟩
    refine ⟨_, mkT_of (by simp), _, addD_t (by simp only [List.length_cons, List.length_nil]; omega), _, by rw [sl2], _, addD_t (by rw [List.length_append]; simp only [List.length_cons, List.length_nil]; omega), ok_tup (c := n + 12) (fun x hx => ?_) (by rw [List.length_append, List.length_append]; simp only [List.length_cons, List.length_nil]; omega), p4, s4⟩
    rcases List.mem_append.mp hx with hx | hx
    · rcases List.mem_append.mp hx with hx | hx
      · exact up_ok x (List.mem_of_mem_take hx)
      · rw [List.mem_singleton.mp hx]; exact hr
    · exact up_ok x (List.mem_of_mem_drop hx)
end K12
end M3
end L2

set_option Elab.async false
set_option linter.all false
set_option maxRecDepth 100000
set_option maxHeartbeats 2000000
namespace L2
namespace M3
namespace K12
open PySem PySem.Spec PyProof.Rows
section
variable {X : Exc → Gs → Prop}
theorem powD_18 {G : Gs} : powD (.int 10) (.int 18) G = some (.int (10 ^ 18)) := by
  show (if 0 ≤ (18 : Int) ∧ (18 : Int) ≤ 1000000 ∧ (10 : Int).natAbs < 2 ^ 64 then some (D.int ((10 : Int) ^ (18 : Int).toNat)) else none) = _
  rw [if_pos (by decide)]
  rfl
theorem allOf_int : ∀ l : List Int, allOf intD (l.map D.int) = some l
  | [] => rfl
  | x :: l => by simp [allOf, intD, allOf_int l]
theorem sumF_tl {l : List Int} {G : Gs} : sumF [.tl (l.map D.int)] G = some (.int l.sum) := by
  show ((allOf intD (l.map D.int)).map fun ns => D.int ns.sum) = _
  rw [allOf_int]
  rfl
theorem addD_l {a b : List D} {G : Gs} (h : a.length + b.length ≤ 2000) : addD (.tl a) (.tl b) G = some (.tl (a ++ b)) := by
  show (if a.length + b.length ≤ sizeLine then some (D.tl (a ++ b)) else none) = _
  rw [if_pos (by rw [sizeLine_eq]; omega)]
/-- a comprehension that keeps some ints, changed -/
theorem comp_ints {ob : Bool} {i : Nat} {c : M Bool} {e : M D} {vs : List Nat} {s : Src} {ds : Sl} {G : Gs} {cells : List Int} {p : Int → Bool} {f : Int → Int} {Q : D → Gs → Prop} (h0 : items G s = some (cells.map D.int)) (hz : cells.length ≤ 1000)
    (hc : ∀ x, c ((wipeD ds vs).set i (some (.int x))) G = .ok (p x) G) (he : ∀ x, e ((wipeD ds vs).set i (some (.int x))) G = .ok (.int (f x)) G)
    (q : if ob = true then Q (.obj G.length) (G ++ [.lst ((cells.filter p |>.map f).map D.int)]) else Q (.tl ((cells.filter p |>.map f).map D.int)) G) : wR (compD ob (.nm i) c e vs s ds G) X Q := by
  refine wR_comp (its := cells.map D.int) (fun a r G' => G' = G ∧ ∃ u v, cells = u ++ v ∧ r = v.map D.int ∧ a = (u.filter p |>.map f).map D.int) h0 ⟨rfl, [], cells, rfl, rfl, rfl⟩ (fun a r G' h => by rw [h.1]; exact h0) ?_ ?_
  · rintro a x r G' ⟨rfl, u, v, e1, e2, rfl⟩
    cases v with
    | nil => cases e2
    | cons y v =>
      cases e2
      simp only [wS_nm]
      rw [hc y]
      show (if p y = true then _ else _)
      by_cases hp : p y = true
      · rw [if_pos hp, he y]
        exact ⟨rfl, u ++ [y], v, by rw [e1]; simp, rfl, by simp [hp]⟩
      · rw [if_neg hp]
        exact ⟨rfl, u ++ [y], v, by rw [e1]; simp, rfl, by simp [hp]⟩
  · rintro a G' ⟨rfl, u, v, e1, e2, rfl⟩
    have : v = [] := by cases v with | nil => rfl | cons _ _ => cases e2
    subst this
    rw [List.append_nil] at e1
    subst e1
    refine ⟨?_, q⟩
    rw [sizeLine_eq, List.length_map, List.length_map]
    have := List.length_filter_le p cells
    omega
theorem w_pot {ns : List Int} (hn : ns.length ≤ 63) : wR (f__law_pot [.fz (ns.map D.int)] []) X (fun r G' => r = .obj 1 ∧ Pot G' ∧ G'.length = 2) := by
  unfold f__law_pot b__law_pot
  have sl : slD (.fz (ns.map D.int)) none (some 63) = fun _ => some (.tl ((ns.take 63).map D.int)) := by
    funext G'
    show some (D.tl (cutD (ns.map D.int) none (some 63))) = _
    rw [cut_take (by omega), List.map_take]
    rfl
  have hc : (ns.take 63).length ≤ 63 := by rw [List.length_take]; omega
  generalize ns.take 63 = cells at sl hc
  simp only [wR_bnd, wR_ret, wR_rd, wR_lo, wR_lof, wR_chk, wR_ite, wR_call, wR_runF, wR_newL, wR_chn, wS_seq, wS_bnd, wS_nxt, wS_ret, wS_set, wS_brk, wS_cnt, wS_rz0, wS_rz, wS_ite, wS_setIx, wS_try, wS_end, startD, List.map_cons, List.map_nil, List.length_cons, List.length_nil, List.replicate, List.cons_append, List.nil_append, List.getElem?_cons_zero, List.getElem?_cons_succ, List.set_cons_zero, List.set_cons_succ, Option.some.injEq, exists_eq_left', Nat.reduceAdd, Nat.reduceSub, D.int.injEq, D.bl.injEq, addD_i, subD_i, mulD_i, fdivD_i, modD_i, ltD_i, leD_i, gtD_i, geD_i, tb_b, toI_i, intF_i, absF_i, ixD_o, ixD_tl, ixD_tup, lenF_o, lenF_tl, lenF_tup, lenF_fz, objL_o, tyOk_o, Option.bind_some, Option.map_some, Option.isSome_some, Prod.mk.injEq, and_assoc, exists_and_left, decide_eq_true_eq, Option.ite_none_right_eq_some, true_and, sl, toSrc, seqD, lstD]
  refine comp_ints (cells := cells) (p := fun _ => true) (f := id) rfl (by omega) (fun x => eq_of_wR (by simp only [yes, wR_ret, and_self])) (fun x => eq_of_wR (by simp only [wipeD, wR_bnd, wR_ret, wR_rd, wR_lo, wR_lof, wR_chk, wR_ite, wR_call, wR_runF, wR_newL, wR_chn, wS_seq, wS_bnd, wS_nxt, wS_ret, wS_set, wS_brk, wS_cnt, wS_rz0, wS_rz, wS_ite, wS_setIx, wS_try, wS_end, startD, List.map_cons, List.map_nil, List.length_cons, List.length_nil, List.replicate, List.cons_append, List.nil_append, List.getElem?_cons_zero, List.getElem?_cons_succ, List.set_cons_zero, List.set_cons_succ, Option.some.injEq, exists_eq_left', Nat.reduceAdd, Nat.reduceSub, D.int.injEq, D.bl.injEq, addD_i, subD_i, mulD_i, fdivD_i, modD_i, ltD_i, leD_i, gtD_i, geD_i, tb_b, toI_i, intF_i, absF_i, ixD_o, ixD_tl, ixD_tup, lenF_o, lenF_tl, lenF_tup, lenF_fz, objL_o, tyOk_o, Option.bind_some, Option.map_some, Option.isSome_some, Prod.mk.injEq, and_assoc, exists_and_left, decide_eq_true_eq, Option.ite_none_right_eq_some, true_and, id, and_self])) ?_
  rw [if_neg Bool.false_ne_true]
  have ec : ((cells.filter fun _ => true).map id).map D.int = cells.map D.int := by rw [List.map_id, List.filter_eq_self.mpr (by simp)]
  rw [ec]
  simp only [wR_bnd, wR_ret, wR_rd, wR_lo, wR_lof, wR_chk, wR_ite, wR_call, wR_runF, wR_newL, wR_chn, wS_seq, wS_bnd, wS_nxt, wS_ret, wS_set, wS_brk, wS_cnt, wS_rz0, wS_rz, wS_ite, wS_setIx, wS_try, wS_end, startD, List.map_cons, List.map_nil, List.length_cons, List.length_nil, List.replicate, List.cons_append, List.nil_append, List.getElem?_cons_zero, List.getElem?_cons_succ, List.set_cons_zero, List.set_cons_succ, Option.some.injEq, exists_eq_left', Nat.reduceAdd, Nat.reduceSub, D.int.injEq, D.bl.injEq, addD_i, subD_i, mulD_i, fdivD_i, modD_i, ltD_i, leD_i, gtD_i, geD_i, tb_b, toI_i, intF_i, absF_i, ixD_o, ixD_tl, ixD_tup, lenF_o, lenF_tl, lenF_tup, lenF_fz, objL_o, tyOk_o, Option.bind_some, Option.map_some, Option.isSome_some, Prod.mk.injEq, and_assoc, exists_and_left, decide_eq_true_eq, Option.ite_none_right_eq_some, true_and, toSrc, seqD, lstD]
  refine comp_ints (cells := cells) (p := fun x => decide ((10 : Int) ^ 18 ≤ (if x < 0 then -x else x))) (f := fun x => if x < 0 then -x else x) rfl (by omega) (fun x => eq_of_wR ?_) (fun x => eq_of_wR ?_) ?_
  · simp only [wipeD, wR_bnd, wR_ret, wR_rd, wR_lo, wR_lof, wR_chk, wR_ite, wR_call, wR_runF, wR_newL, wR_chn, wS_seq, wS_bnd, wS_nxt, wS_ret, wS_set, wS_brk, wS_cnt, wS_rz0, wS_rz, wS_ite, wS_setIx, wS_try, wS_end, startD, List.map_cons, List.map_nil, List.length_cons, List.length_nil, List.replicate, List.cons_append, List.nil_append, List.getElem?_cons_zero, List.getElem?_cons_succ, List.set_cons_zero, List.set_cons_succ, Option.some.injEq, exists_eq_left', Nat.reduceAdd, Nat.reduceSub, D.int.injEq, D.bl.injEq, addD_i, subD_i, mulD_i, fdivD_i, modD_i, ltD_i, leD_i, gtD_i, geD_i, tb_b, toI_i, intF_i, absF_i, ixD_o, ixD_tl, ixD_tup, lenF_o, lenF_tl, lenF_tup, lenF_fz, objL_o, tyOk_o, Option.bind_some, Option.map_some, Option.isSome_some, Prod.mk.injEq, and_assoc, exists_and_left, decide_eq_true_eq, Option.ite_none_right_eq_some, true_and, powD_18, and_self]
  · simp only [wipeD, wR_bnd, wR_ret, wR_rd, wR_lo, wR_lof, wR_chk, wR_ite, wR_call, wR_runF, wR_newL, wR_chn, wS_seq, wS_bnd, wS_nxt, wS_ret, wS_set, wS_brk, wS_cnt, wS_rz0, wS_rz, wS_ite, wS_setIx, wS_try, wS_end, startD, List.map_cons, List.map_nil, List.length_cons, List.length_nil, List.replicate, List.cons_append, List.nil_append, List.getElem?_cons_zero, List.getElem?_cons_succ, List.set_cons_zero, List.set_cons_succ, Option.some.injEq, exists_eq_left', Nat.reduceAdd, Nat.reduceSub, D.int.injEq, D.bl.injEq, addD_i, subD_i, mulD_i, fdivD_i, modD_i, ltD_i, leD_i, gtD_i, geD_i, tb_b, toI_i, intF_i, absF_i, ixD_o, ixD_tl, ixD_tup, lenF_o, lenF_tl, lenF_tup, lenF_fz, objL_o, tyOk_o, Option.bind_some, Option.map_some, Option.isSome_some, Prod.mk.injEq, and_assoc, exists_and_left, decide_eq_true_eq, Option.ite_none_right_eq_some, true_and, and_self]
  rw [if_pos rfl]
  simp only [wR_bnd, wR_ret, wR_rd, wR_lo, wR_lof, wR_chk, wR_ite, wR_call, wR_runF, wR_newL, wR_chn, wS_seq, wS_bnd, wS_nxt, wS_ret, wS_set, wS_brk, wS_cnt, wS_rz0, wS_rz, wS_ite, wS_setIx, wS_try, wS_end, startD, List.map_cons, List.map_nil, List.length_cons, List.length_nil, List.replicate, List.cons_append, List.nil_append, List.getElem?_cons_zero, List.getElem?_cons_succ, List.set_cons_zero, List.set_cons_succ, Option.some.injEq, exists_eq_left', Nat.reduceAdd, Nat.reduceSub, D.int.injEq, D.bl.injEq, addD_i, subD_i, mulD_i, fdivD_i, modD_i, ltD_i, leD_i, gtD_i, geD_i, tb_b, toI_i, intF_i, absF_i, ixD_o, ixD_tl, ixD_tup, lenF_o, lenF_tl, lenF_tup, lenF_fz, objL_o, tyOk_o, Option.bind_some, Option.map_some, Option.isSome_some, Prod.mk.injEq, and_assoc, exists_and_left, decide_eq_true_eq, Option.ite_none_right_eq_some, true_and, toSrc, seqD, lstD]
  refine comp_ints (cells := cells) (p := fun x => decide ((if x < 0 then -x else x) < (10 : Int) ^ 18)) (f := fun x => x % 1000000007) rfl (by omega) (fun x => eq_of_wR ?_) (fun x => eq_of_wR ?_) ?_
  · simp only [wipeD, wR_bnd, wR_ret, wR_rd, wR_lo, wR_lof, wR_chk, wR_ite, wR_call, wR_runF, wR_newL, wR_chn, wS_seq, wS_bnd, wS_nxt, wS_ret, wS_set, wS_brk, wS_cnt, wS_rz0, wS_rz, wS_ite, wS_setIx, wS_try, wS_end, startD, List.map_cons, List.map_nil, List.length_cons, List.length_nil, List.replicate, List.cons_append, List.nil_append, List.getElem?_cons_zero, List.getElem?_cons_succ, List.set_cons_zero, List.set_cons_succ, Option.some.injEq, exists_eq_left', Nat.reduceAdd, Nat.reduceSub, D.int.injEq, D.bl.injEq, addD_i, subD_i, mulD_i, fdivD_i, modD_i, ltD_i, leD_i, gtD_i, geD_i, tb_b, toI_i, intF_i, absF_i, ixD_o, ixD_tl, ixD_tup, lenF_o, lenF_tl, lenF_tup, lenF_fz, objL_o, tyOk_o, Option.bind_some, Option.map_some, Option.isSome_some, Prod.mk.injEq, and_assoc, exists_and_left, decide_eq_true_eq, Option.ite_none_right_eq_some, true_and, powD_18, and_self]
  · simp only [wipeD, wR_bnd, wR_ret, wR_rd, wR_lo, wR_lof, wR_chk, wR_ite, wR_call, wR_runF, wR_newL, wR_chn, wS_seq, wS_bnd, wS_nxt, wS_ret, wS_set, wS_brk, wS_cnt, wS_rz0, wS_rz, wS_ite, wS_setIx, wS_try, wS_end, startD, List.map_cons, List.map_nil, List.length_cons, List.length_nil, List.replicate, List.cons_append, List.nil_append, List.getElem?_cons_zero, List.getElem?_cons_succ, List.set_cons_zero, List.set_cons_succ, Option.some.injEq, exists_eq_left', Nat.reduceAdd, Nat.reduceSub, D.int.injEq, D.bl.injEq, addD_i, subD_i, mulD_i, fdivD_i, modD_i, ltD_i, leD_i, gtD_i, geD_i, tb_b, toI_i, intF_i, absF_i, ixD_o, ixD_tl, ixD_tup, lenF_o, lenF_tl, lenF_tup, lenF_fz, objL_o, tyOk_o, Option.bind_some, Option.map_some, Option.isSome_some, Prod.mk.injEq, and_assoc, exists_and_left, decide_eq_true_eq, Option.ite_none_right_eq_some, true_and, and_self]
    exact ⟨by omega, trivial⟩
  rw [if_neg Bool.false_ne_true]
  have hgs : ∀ g ∈ ((cells.filter fun x => decide ((10 : Int) ^ 18 ≤ if x < 0 then -x else x)).map fun x => if x < 0 then -x else x), 0 ≤ g := by
    intro g hg
    obtain ⟨x, _, rfl⟩ := List.mem_map.mp hg
    split <;> omega
  have hfl := List.length_filter_le (fun x => decide ((if x < 0 then -x else x) < (10 : Int) ^ 18)) cells
  generalize ((cells.filter fun x => decide ((10 : Int) ^ 18 ≤ if x < 0 then -x else x)).map fun x => if x < 0 then -x else x) = gs at hgs ⊢
  generalize hA : (cells.filter fun x => decide ((if x < 0 then -x else x) < (10 : Int) ^ 18)) = A at hfl ⊢
  obtain ⟨sm, hsm⟩ : ∃ sm, sm = (A.map fun x => x % 1000000007) ++ [(((cells.map D.int).length : Nat) : Int) + 1] := ⟨_, rfl⟩
  have hs1 : sm.length = A.length + 1 := by rw [hsm]; simp
  have e1 : ∀ G', addD (.tl ((A.map fun x => x % 1000000007).map D.int)) (.tl [.int ((((cells.map D.int).length : Nat) : Int) + 1)]) G' = some (.tl (sm.map D.int)) := fun G' => by
    rw [addD_l (by simp; omega), hsm, List.map_append]
    rfl
  refine ⟨_, mkL_of (by simp), _, e1 _, _, sumF_tl, _, rfl, .int (sm.sum % 999983), rfl, by rw [sizeLine_eq]; omega, rfl, ⟨gs, sm, 0, sm.sum % 999983, rfl, hgs, by omega, by omega, rfl⟩, rfl⟩
theorem mulD_t {x : D} {n : Nat} {G : Gs} (h : 2 ≤ n) (h2 : n ≤ 1000) : mulD (.tup [x]) (.int n) G = some (.tup (List.replicate n x)) := by
  show (if [x] ≠ [] ∧ 2 ≤ (n : Int) ∧ (n : Int) ≤ 1000 ∧ [x].length ≤ 1000 then some (D.tup (List.replicate (n : Int).toNat [x]).flatten) else none) = _
  rw [if_pos ⟨by simp, by omega, by omega, by simp⟩]
  have : (List.replicate (n : Int).toNat [x]).flatten = List.replicate n x := by simp
  rw [this]
def greatD (n : Nat) : List D := [.int 0, .tup (List.replicate n (.int 0)), .tup (List.replicate n (.tup [.int 0, .int 0])), .tup (List.replicate n (.tup (List.replicate n (.int 0)))), .non]
theorem w_great {n : Nat} {G : Gs} (h : 2 ≤ n) (h2 : n ≤ 1000) : f__law_great [.int n] G = .ok (.tup (greatD n)) G := by
  refine eq_of_wR ?_
  unfold f__law_great b__law_great
  have m1 : ∀ G' d, mkT [d] G' = some (.tup [d]) := fun G' d => mkT_of (by simp)
  have m2 : ∀ G' a c, mkT [a, c] G' = some (.tup [a, c]) := fun G' a c => mkT_of (by simp)
  have m5 : ∀ G' a c f j l, mkT [a, c, f, j, l] G' = some (.tup [a, c, f, j, l]) := fun G' a c f j l => mkT_of (by simp)
  have mm : ∀ G' x, mulD (.tup [x]) (.int n) G' = some (.tup (List.replicate n x)) := fun G' x => mulD_t h h2
  simp only [wR_bnd, wR_ret, wR_rd, wR_lo, wR_lof, wR_chk, wR_ite, wR_call, wR_runF, wR_newL, wR_chn, wS_seq, wS_bnd, wS_nxt, wS_ret, wS_set, wS_brk, wS_cnt, wS_rz0, wS_rz, wS_ite, wS_setIx, wS_try, wS_end, startD, List.map_cons, List.map_nil, List.length_cons, List.length_nil, List.replicate, List.cons_append, List.nil_append, List.getElem?_cons_zero, List.getElem?_cons_succ, List.set_cons_zero, List.set_cons_succ, Option.some.injEq, exists_eq_left', Nat.reduceAdd, Nat.reduceSub, D.int.injEq, D.bl.injEq, addD_i, subD_i, mulD_i, fdivD_i, modD_i, ltD_i, leD_i, gtD_i, geD_i, tb_b, toI_i, intF_i, absF_i, ixD_o, ixD_tl, ixD_tup, lenF_o, lenF_tl, lenF_tup, lenF_fz, objL_o, tyOk_o, Option.bind_some, Option.map_some, Option.isSome_some, Prod.mk.injEq, and_assoc, exists_and_left, decide_eq_true_eq, Option.ite_none_right_eq_some, true_and, m1, m2, m5, mm, greatD, and_self]
theorem pds_rep {k n : Nat} {x : D} (h : pd k x = true) : pds k (List.replicate n x) = true := pds_all fun y hy => by rw [List.eq_of_mem_replicate hy]; exact h
theorem great_pd {n : Nat} (h : 2 ≤ n) (h2 : n ≤ 401) : (pd 401 (.int 0) && pd 401 (.tup (List.replicate n (.int 0))) && pd 401 (.tup (List.replicate n (.tup [.int 0, .int 0]))) && pd 401 (.tup (List.replicate n (.tup (List.replicate n (.int 0))))) && pd 401 .non) = true := by
  have a : pd 401 (.tup (List.replicate n (.int 0))) = true := by
    simp only [pd, Bool.and_eq_true, decide_eq_true_eq, List.length_replicate]
    exact ⟨h2, pds_rep rfl⟩
  have b : pd 401 (.tup (List.replicate n (.tup [.int 0, .int 0]))) = true := by
    simp only [pd, Bool.and_eq_true, decide_eq_true_eq, List.length_replicate]
    exact ⟨h2, pds_rep (by simp [pd, pds])⟩
  have c : pd 401 (.tup (List.replicate n (.tup (List.replicate n (.int 0))))) = true := by
    simp only [pd, Bool.and_eq_true, decide_eq_true_eq, List.length_replicate]
    exact ⟨h2, pds_rep a⟩
  rw [a, b, c]
  rfl
theorem rep_all {n : Nat} {x : D} {p : D → Bool} (h : p x = true) : (List.replicate n x).all p = true := by
  rw [List.all_eq_true]
  exact fun y hy => by rw [List.eq_of_mem_replicate hy]; exact h
theorem great_wr {n : Nat} (h : 2 ≤ n) : wrB (.int 0) (.tup (List.replicate n (.int 0))) (.tup (List.replicate n (.tup [.int 0, .int 0]))) (.tup (List.replicate n (.tup (List.replicate n (.int 0))))) .non = if n ≤ 400 then none else some "changes" := by
  have hm : manyB (.tup (List.replicate n (.int 0))) = n := by simp [manyB]
  have b0 : btB (.int 0) 0 ((n : Int) - 1) = true := by simp [btB]; omega
  have a1 : areB (.tup (List.replicate n (.int 0))) n n = true := by simp only [areB, rowsB, List.length_replicate, decide_true, Bool.true_and]; exact rep_all b0
  have a2 : rowsB (.tup (List.replicate n (.tup [.int 0, .int 0]))) (fun x => areB x 2 n) n = true := by
    simp only [rowsB, List.length_replicate, decide_true, Bool.true_and]
    exact rep_all (by simp [areB, rowsB, b0])
  have a3 : rowsB (.tup (List.replicate n (.tup (List.replicate n (.int 0))))) (fun x => areB x n n) n = true := by
    simp only [rowsB, List.length_replicate, decide_true, Bool.true_and]
    exact rep_all a1
  have c1 : (1 : Int) ≤ n := by omega
  unfold wrB
  rw [hm, b0, a1, a2, a3]
  by_cases c : n ≤ 400
  · have c2 : (n : Int) ≤ 400 := by omega
    simp [c, c1, c2, isN]
  · have c2 : ¬ (n : Int) ≤ 400 := by omega
    simp [c, c2]
end
end K12
end M3
end L2

set_option Elab.async false
set_option linter.all false
set_option maxRecDepth 100000
set_option maxHeartbeats 2000000
namespace L2
namespace M3
namespace K12
open PySem PySem.Spec PyProof.Rows
section
variable {G : Gs} {X : Exc → Gs → Prop}
theorem cal_bt {d : D} {a b : Int} (h : btB d a b = true) : cal d ≤ 1 := by
  cases d <;> first | (simp [cal]; done) | cases h
theorem cal_wd {d : D} (h : wdB d = true) : cal d ≤ 1 := by
  cases d <;> first | (simp [cal]; done) | cases h
theorem cal_rows {m : Nat} {d : D} {p : D → Bool} {n : Int} (h : rowsB d p n = true) (hp : ∀ x, p x = true → cal x ≤ m) : cal d ≤ m + 1 := by
  cases d with
  | tup ds =>
    simp only [rowsB, Bool.and_eq_true, List.all_eq_true] at h
    simp only [cal]
    have := cals_le (l := ds) fun x hx => hp x (h.2 x hx)
    omega
  | _ => cases h
theorem cal_are {d : D} {m n : Int} (h : areB d m n = true) : cal d ≤ 2 := cal_rows h fun x hx => cal_bt hx
theorem wr_cal {a b c d e : D} (h : wrB a b c d e = none) : cal a ≤ 3 ∧ cal b ≤ 3 ∧ cal c ≤ 3 ∧ cal d ≤ 3 ∧ cal e ≤ 3 := by
  unfold wrB at h
  split at h
  · cases h
  rename_i h1
  split at h
  · cases h
  rename_i h2
  split at h
  · cases h
  rename_i h3
  split at h
  · cases h
  rename_i h4
  split at h
  · cases h
  rename_i h5
  simp only [Bool.not_eq_true', Bool.not_eq_false', Bool.or_eq_true, not_or, Bool.not_eq_true, Bool.not_eq_false, Bool.and_eq_true, not_and, Bool.not_eq_eq_eq_not, Bool.not_true, Bool.not_false] at h1 h2 h3 h4 h5
  have ca : cal a ≤ 1 := cal_bt (by simpa using h2)
  have cb : cal b ≤ 2 := cal_are (by simpa using h1.2)
  have cc : cal c ≤ 3 := cal_rows (by simpa using h3) fun x hx => cal_are hx
  have cd : cal d ≤ 3 := cal_rows (by simpa using h4) fun x hx => cal_are hx
  have ce : cal e ≤ 3 := by
    by_cases l : isN e = true
    · cases e <;> first | (simp [cal]; done) | cases l
    · exact cal_rows (by simpa using h5 (by simpa using l)) fun x hx => cal_rows hx fun z hz => cal_wd hz
  omega
theorem ne_str {s : Str} (h : s ∈ (["let", "changes", "first", "forks", "joins", "looks"] : List Str)) : neD (.str s) (.str s) G = some (.bl false) := by
  refine ne_same (n := 0) ⟨.str s, rfl, ?_, Nat.zero_le _⟩ (by omega) (fun _ => rfl)
  have key : ∀ s ∈ (["let", "changes", "first", "forks", "joins", "looks"] : List Str), (PyData.str s).canLay0 = true := by decide +kernel
  exact key s h
theorem wr_mem {a b c d e : D} : (wrB a b c d e).getD "let" ∈ (["let", "changes", "first", "forks", "joins", "looks"] : List Str) := by
  unfold wrB
  split
  · simp
  split
  · simp
  split
  · simp
  split
  · simp
  split <;> simp
def oddL (many : Int) : List D := [.non, .bl true, .bl false, .int (-1), .int many, .int (many - 1), .int 0, .str "same", .str "newest", .str "", .tup [], .tup [.int 0, .int 0], .tl [], .td [] [], .int (10 ^ 30)]
theorem cal_deep : ∀ n, cal (deepD n) = n + 1
  | 0 => rfl
  | n + 1 => by simp [deepD, cal, cals, cal_deep n]
theorem pd_deep {k : Nat} (h : 1 ≤ k) : ∀ n, pd k (deepD n) = true
  | 0 => by simp [deepD, pd, pds]
  | n + 1 => by simp [deepD, pd, pds, pd_deep h n, h]
theorem odd_ok {many : Int} {k : Nat} (hk : 6 ≤ k) : ∀ y ∈ oddL many ++ [deepD 12], Ok1 k 13 y := by
  intro y hy
  rcases List.mem_append.mp hy with hy | hy
  · simp only [oddL, List.mem_cons, List.not_mem_nil, or_false] at hy
    rcases hy with rfl | rfl | rfl | rfl | rfl | rfl | rfl | rfl | rfl | rfl | rfl | rfl | rfl | rfl | rfl <;> (refine ⟨?_, ?_⟩ <;> simp [pd, pds, cal, cals] <;> omega)
  · rw [List.mem_singleton.mp hy]
    exact ⟨pd_deep (by omega) 12, by rw [cal_deep]; omega⟩
end
end K12
end M3
end L2

set_option Elab.async false
set_option linter.all false
set_option maxRecDepth 100000
set_option maxHeartbeats 2000000
namespace L2
namespace M3
namespace K12
open PySem PySem.Spec PyProof.Rows
section
variable {G : Gs} {X : Exc → Gs → Prop}
theorem five {ds : List D} (h : ds.length = 5) : ∃ a b c d e, ds = [a, b, c, d, e] := by
  match ds, h with
  | [a, b, c, d, e], _ => exact ⟨a, b, c, d, e, rfl⟩
theorem bend_ok {k c : Nat} {ds : List D} {v : Int} {r : D} (h : ds.length = 5) (h0 : 0 ≤ v) (h1 : v < 5) (hd : ∀ x ∈ ds, Ok1 k c x) (hr : Ok1 (k + 1) (c + 12) r) :
    (ds.take v.toNat ++ [r] ++ ds.drop (v + 1).toNat).length = 5 ∧ ∀ x ∈ ds.take v.toNat ++ [r] ++ ds.drop (v + 1).toNat, Ok1 (k + 1) (c + 12) x := by
  refine ⟨by simp only [List.length_append, List.length_take, List.length_drop, List.length_cons, List.length_nil]; omega, fun x hx => ?_⟩
  rcases List.mem_append.mp hx with hx | hx
  · rcases List.mem_append.mp hx with hx | hx
    · exact (hd x (List.mem_of_mem_take hx)).up (by omega)
    · rw [List.mem_singleton.mp hx]; exact hr
  · exact (hd x (List.mem_of_mem_drop hx)).up (by omega)
theorem Pot.app {G : Gs} (h : Pot G) (t : List MO) : Pot (G ++ t) := by
  obtain ⟨gs, sm, a, b, e0, h1, h2, h3, e1⟩ := h.ex
  have l0 := (List.getElem?_eq_some_iff.mp e0).1
  have l1 := (List.getElem?_eq_some_iff.mp e1).1
  exact ⟨gs, sm, a, b, by rw [List.getElem?_append_left l0]; exact e0, h1, h2, h3, by rw [List.getElem?_append_left l1]; exact e1⟩
theorem Pot.setG {G : Gs} (h : Pot G) {i : Nat} (hi : 2 ≤ i) (x : MO) : Pot (G.set i x) := by
  obtain ⟨gs, sm, a, b, e0, h1, h2, h3, e1⟩ := h.ex
  exact ⟨gs, sm, a, b, by rw [List.getElem?_set_ne (by omega)]; exact e0, h1, h2, h3, by rw [List.getElem?_set_ne (by omega)]; exact e1⟩
theorem eq_str {s : Str} (h : s ∈ (["let", "changes"] : List Str)) : eqD (.str s) (.str s) G = some (.bl true) := by
  have key : ∀ s ∈ (["let", "changes"] : List Str), SeqAt.shaped (PyData.str s) = true := by decide +kernel
  show (if SeqAt.shaped (PyData.str s) = true ∧ SeqAt.shaped (PyData.str s) = true then some (D.bl (PyData.eqv (.str s) (.str s))) else none) = _
  rw [if_pos ⟨key s h, key s h⟩]
  simp [PyData.eqv]
theorem law_ok {ns : List Int} (hn : ns.length ≤ 63) : wR (f_law [.fz (ns.map D.int)] []) X (fun r G' => r = .bl true) := by
  unfold f_law b_law
  have hR : ∀ G', toRng1 [.int 10] G' = some (.rng 0 10) := fun G' => toRng (n := 10) (by omega)
  have hR2 : ∀ G', toRng1 [.int 2] G' = some (.rng 0 2) := fun G' => toRng (n := 2) (by omega)
  simp only [wR_runF, wS_seq, wS_bnd, startD, wR_bnd, wR_ret, wR_rd, List.map_cons, List.map_nil, List.length_cons, List.length_nil, List.replicate, List.cons_append, List.nil_append, List.getElem?_cons_zero, Option.some.injEq, exists_eq_left', Nat.reduceAdd, Nat.reduceSub, wR_call, true_and]
  refine wR_imp (w_pot hn) (fun _ _ z => z) fun r G1 ⟨er, p1, l1⟩ => ?_
  subst er
  simp only [wS_set, List.set_cons_zero, List.set_cons_succ, wR_lo, hR, Option.some.injEq, exists_eq_left']
  generalize hits : ((List.range 10).map fun (j : Nat) => D.int (0 + (j : Int))) = its
  have hi : ∀ G', items G' (.rng 0 10) = some its := fun G' => by
    show some ((List.range 10).map fun (j : Nat) => D.int (0 + (j : Int))) = _
    rw [hits]
  generalize hits2 : ((List.range 2).map fun (j : Nat) => D.int (0 + (j : Int))) = its2
  have hi2 : ∀ G', items G' (.rng 0 2) = some its2 := fun G' => by
    show some ((List.range 2).map fun (j : Nat) => D.int (0 + (j : Int))) = _
    rw [hits2]
  apply wS_for (its := its) (fun r l G' => (∃ s a b c d e f g, l = [s, a, b, c, some (.obj 1), d, e, f, g]) ∧ Pot G' ∧ 2 ≤ G'.length) (hi _)
  · exact ⟨⟨_, _, _, _, _, _, _, _, rfl⟩, p1, by omega⟩
  · exact fun r l G' h => hi _
  · rintro x r l G2 ⟨⟨s, a, b, c, d, e, f, g, rfl⟩, p2, l2⟩
    simp only [wS_nm, List.set_cons_succ, List.set_cons_zero]
    simp only [wR_bnd, wR_ret, wR_rd, wR_lo, wR_lof, wR_chk, wR_ite, wR_call, wR_runF, wR_newL, wR_chn, wS_seq, wS_bnd, wS_nxt, wS_ret, wS_set, wS_brk, wS_cnt, wS_rz0, wS_rz, wS_ite, wS_setIx, wS_try, wS_end, startD, List.map_cons, List.map_nil, List.length_cons, List.length_nil, List.replicate, List.cons_append, List.nil_append, List.getElem?_cons_zero, List.getElem?_cons_succ, List.set_cons_zero, List.set_cons_succ, Option.some.injEq, exists_eq_left', Nat.reduceAdd, Nat.reduceSub, D.int.injEq, D.bl.injEq, addD_i, subD_i, mulD_i, fdivD_i, modD_i, ltD_i, leD_i, gtD_i, geD_i, tb_b, toI_i, intF_i, absF_i, ixD_o, ixD_tl, ixD_tup, lenF_o, lenF_tl, lenF_tup, lenF_fz, objL_o, tyOk_o, Option.bind_some, Option.map_some, Option.isSome_some, Prod.mk.injEq, and_assoc, exists_and_left, decide_eq_true_eq, Option.ite_none_right_eq_some, true_and]
    refine wR_imp (w_draw' (many := 6) p2 (Same.rfl' G2) (by omega) (by omega)) (fun _ _ z => z) fun d G3 ⟨v, e, a1, b1, p3, s3⟩ => ?_
    subst e
    obtain ⟨n, hn2⟩ : ∃ n : Nat, 1 + v = n := ⟨(1 + v).toNat, by omega⟩
    simp only [wR_bnd, wR_ret, wR_rd, wR_lo, wR_lof, wR_chk, wR_ite, wR_call, wR_runF, wR_newL, wR_chn, wS_seq, wS_bnd, wS_nxt, wS_ret, wS_set, wS_brk, wS_cnt, wS_rz0, wS_rz, wS_ite, wS_setIx, wS_try, wS_end, startD, List.map_cons, List.map_nil, List.length_cons, List.length_nil, List.replicate, List.cons_append, List.nil_append, List.getElem?_cons_zero, List.getElem?_cons_succ, List.set_cons_zero, List.set_cons_succ, Option.some.injEq, exists_eq_left', Nat.reduceAdd, Nat.reduceSub, D.int.injEq, D.bl.injEq, addD_i, subD_i, mulD_i, fdivD_i, modD_i, ltD_i, leD_i, gtD_i, geD_i, tb_b, toI_i, intF_i, absF_i, ixD_o, ixD_tl, ixD_tup, lenF_o, lenF_tl, lenF_tup, lenF_fz, objL_o, tyOk_o, Option.bind_some, Option.map_some, Option.isSome_some, Prod.mk.injEq, and_assoc, exists_and_left, decide_eq_true_eq, Option.ite_none_right_eq_some, true_and, hn2]
    refine wR_imp (w_draw' (many := 3) p3 s3 (by omega) (by omega)) (fun _ _ z => z) fun d G4 ⟨v2, e, a2, b2, p4, s4⟩ => ?_
    subst e
    simp only [wR_bnd, wR_ret, wR_rd, wR_lo, wR_lof, wR_chk, wR_ite, wR_call, wR_runF, wR_newL, wR_chn, wS_seq, wS_bnd, wS_nxt, wS_ret, wS_set, wS_brk, wS_cnt, wS_rz0, wS_rz, wS_ite, wS_setIx, wS_try, wS_end, startD, List.map_cons, List.map_nil, List.length_cons, List.length_nil, List.replicate, List.cons_append, List.nil_append, List.getElem?_cons_zero, List.getElem?_cons_succ, List.set_cons_zero, List.set_cons_succ, Option.some.injEq, exists_eq_left', Nat.reduceAdd, Nat.reduceSub, D.int.injEq, D.bl.injEq, addD_i, subD_i, mulD_i, fdivD_i, modD_i, ltD_i, leD_i, gtD_i, geD_i, tb_b, toI_i, intF_i, absF_i, ixD_o, ixD_tl, ixD_tup, lenF_o, lenF_tl, lenF_tup, lenF_fz, objL_o, tyOk_o, Option.bind_some, Option.map_some, Option.isSome_some, Prod.mk.injEq, and_assoc, exists_and_left, decide_eq_true_eq, Option.ite_none_right_eq_some, true_and]
    have h1n : 1 ≤ n := by omega
    have h6n : n ≤ 6 := by omega
    refine w_rows2 (X := X) (b := decide (0 < v2)) p4 h1n h6n _ ?_
    intro rr hrr hrw
    rw [hrr]
    refine wR_imp hrw (fun _ _ z => z) ?_
    rintro r5 G5 ⟨ra, rc, rf, rj, rl, er, hw, hpd, p5, s5⟩
    subst er
    simp only [Bool.and_eq_true] at hpd
    obtain ⟨⟨⟨⟨d1, d2⟩, d3⟩, d4⟩, d5⟩ := hpd
    obtain ⟨c1, c2, c3, c4, c5⟩ := wr_cal hw
    have l5 : 2 ≤ G5.length := by rw [s5.len, s4.len]; exact l2
    refine wR_imp (w_told (G := G5) (k := 6) (by omega) d1 d2 d3 d4 d5) (fun _ _ z => z) fun r6 G6 ⟨er, t6, eG⟩ => ?_
    subst er eG
    have p6 := p5.app [t6]
    have nl : ∀ G', neD (.str "let") (.str "let") G' = some (.bl false) := fun G' => ne_str (by simp)
    have ng : ∀ G', negD (.int 1) G' = some (.int (-1)) := fun G' => rfl
    have pw : ∀ G', powD (.int 10) (.int 30) G' = some (.int (10 ^ 30)) := fun G' => by
      show (if 0 ≤ (30 : Int) ∧ (30 : Int) ≤ 1000000 ∧ (10 : Int).natAbs < 2 ^ 64 then some (D.int ((10 : Int) ^ (30 : Int).toNat)) else none) = _
      rw [if_pos ⟨by omega, by omega, by show 10 < 2 ^ 64; omega⟩]
      have : (30 : Int).toNat = 30 := rfl
      rw [this]
    have m0 : ∀ G', mkT [] G' = some (.tup []) := fun G' => mkT_of (by simp)
    have m2 : ∀ G', mkT [.int 0, .int 0] G' = some (.tup [.int 0, .int 0]) := fun G' => mkT_of (by simp)
    have ml : ∀ G', mkL [] G' = some (.tl []) := fun G' => mkL_of (by simp)
    have z15 : 15 ≤ sizeLine := by rw [sizeLine_eq]; omega
    have d0 : ∀ {l : Sl} {G' : Gs} {X : Exc → Gs → Prop} {Q : D → Gs → Prop}, wR (mkD0 l G') X Q = Q (.td [] []) G' := rfl
    simp only [hw, Option.getD_none, nl, wR_bnd, wR_ret, wR_rd, wR_lo, wR_lof, wR_chk, wR_ite, wR_call, wR_runF, wR_newL, wR_chn, wS_seq, wS_bnd, wS_nxt, wS_ret, wS_set, wS_brk, wS_cnt, wS_rz0, wS_rz, wS_ite, wS_setIx, wS_try, wS_end, startD, List.map_cons, List.map_nil, List.length_cons, List.length_nil, List.replicate, List.cons_append, List.nil_append, List.getElem?_cons_zero, List.getElem?_cons_succ, List.set_cons_zero, List.set_cons_succ, Option.some.injEq, exists_eq_left', Nat.reduceAdd, Nat.reduceSub, D.int.injEq, D.bl.injEq, addD_i, subD_i, mulD_i, fdivD_i, modD_i, ltD_i, leD_i, gtD_i, geD_i, tb_b, toI_i, intF_i, absF_i, ixD_o, ixD_tl, ixD_tup, lenF_o, lenF_tl, lenF_tup, lenF_fz, objL_o, tyOk_o, Option.bind_some, Option.map_some, Option.isSome_some, Prod.mk.injEq, and_assoc, exists_and_left, decide_eq_true_eq, Option.ite_none_right_eq_some, true_and, Bool.false_eq_true, if_false, ng, pw, m0, m2, ml, d0, z15]
    obtain ⟨o, ho⟩ : ∃ o, o = (G5 ++ [t6]).length := ⟨_, rfl⟩
    have ho2 : 2 ≤ o := by rw [ho]; simp; omega
    have hol : lstO (G5 ++ [t6] ++ [MO.lst (oddL n)]) o = some (oddL n) := lstO_at (by rw [ho]; simp)
    rw [← ho]
    refine ⟨congrArg Option.isSome hol, ?_⟩
    rw [w_deep, wR_ok]
    have ap : appendF (.obj o) [deepD 12] (G5 ++ [t6] ++ [MO.lst (oddL n)]) = some (.non, (G5 ++ [t6] ++ [MO.lst (oddL n)]).set o (MO.lst (oddL n ++ [deepD 12]))) := by
      unfold appendF
      simp only [objL_o, hol, Option.map_some]
      rw [if_pos (by rw [sizeLine_eq]; simp [oddL])]
    refine ⟨_, ap, .rng 0 2, hR2 _, ?_⟩
    have p7 : Pot ((G5 ++ [t6] ++ [MO.lst (oddL n)]).set o (MO.lst (oddL n ++ [deepD 12]))) := (p6.app _).setG ho2 _
    have g7 : ((G5 ++ [t6] ++ [MO.lst (oddL n)]).set o (MO.lst (oddL n ++ [deepD 12])))[o]? = some (MO.lst (oddL n ++ [deepD 12])) := List.getElem?_set_self (by rw [ho]; simp)
    show wS (forS _ _ _ _ ((G5 ++ [t6] ++ [MO.lst (oddL n)]).set o (MO.lst (oddL n ++ [deepD 12])))) _
    generalize (G5 ++ [t6] ++ [MO.lst (oddL n)]).set o (MO.lst (oddL n ++ [deepD 12])) = G7 at p7 g7 ⊢
    have ok5 : ∀ x ∈ [ra, rc, rf, rj, rl], Ok1 6 3 x := fun x hx => by
      simp only [List.mem_cons, List.not_mem_nil, or_false] at hx
      rcases hx with rfl | rfl | rfl | rfl | rfl
      · exact ⟨d1, c1⟩
      · exact ⟨d2, c2⟩
      · exact ⟨d3, c3⟩
      · exact ⟨d4, c4⟩
      · exact ⟨d5, c5⟩
    have rl5 : [ra, rc, rf, rj, rl].length = 5 := rfl
    generalize [ra, rc, rf, rj, rl] = rows at ok5 rl5 ⊢
    apply wS_for (its := its2) (fun r l G' => (∃ s a b c e, l = [s, a, b, c, some (.obj 1), some (.int n), some (.obj o), some (.tup rows), e]) ∧ Pot G' ∧ G'[o]? = some (MO.lst (oddL n ++ [deepD 12]))) (hi2 _)
    · exact ⟨⟨_, _, _, _, _, rfl⟩, p7, g7⟩
    · exact fun r l G' h => hi2 _
    · rintro x2 r2 l G8 ⟨⟨s, a, b, c, e, rfl⟩, p8, g8⟩
      simp only [wS_nm, List.set_cons_succ, List.set_cons_zero]
      simp only [wR_bnd, wR_ret, wR_rd, wR_lo, wR_lof, wR_chk, wR_ite, wR_call, wR_runF, wR_newL, wR_chn, wS_seq, wS_bnd, wS_nxt, wS_ret, wS_set, wS_brk, wS_cnt, wS_rz0, wS_rz, wS_ite, wS_setIx, wS_try, wS_end, startD, List.map_cons, List.map_nil, List.length_cons, List.length_nil, List.replicate, List.cons_append, List.nil_append, List.getElem?_cons_zero, List.getElem?_cons_succ, List.set_cons_zero, List.set_cons_succ, Option.some.injEq, exists_eq_left', Nat.reduceAdd, Nat.reduceSub, D.int.injEq, D.bl.injEq, addD_i, subD_i, mulD_i, fdivD_i, modD_i, ltD_i, leD_i, gtD_i, geD_i, tb_b, toI_i, intF_i, absF_i, ixD_o, ixD_tl, ixD_tup, lenF_o, lenF_tl, lenF_tup, lenF_fz, objL_o, tyOk_o, Option.bind_some, Option.map_some, Option.isSome_some, Prod.mk.injEq, and_assoc, exists_and_left, decide_eq_true_eq, Option.ite_none_right_eq_some, true_and]
      refine wR_imp (w_draw' (many := 5) p8 (Same.rfl' G8) (by omega) (by omega)) (fun _ _ z => z) fun d G9 ⟨v3, e3, a3, b3, p9, s9⟩ => ?_
      subst e3
      have q1 : ∀ {ds : List D} {v : Int}, 0 ≤ v → ∀ G', slD (.tup ds) none (some v) G' = some (.tup (ds.take v.toNat)) := fun h G' => by simp only [slD, cut_take h]
      have q2 : ∀ {ds : List D} {v : Int}, 0 ≤ v → ∀ G', slD (.tup ds) (some v) none G' = some (.tup (ds.drop v.toNat)) := fun h G' => by simp only [slD, cut_drop h]
      have hv : v3.toNat < rows.length := by omega
      have am : atI rows v3 = some rows[v3.toNat] := atI_of (ixN_pos a3 (by omega)) (by simp [hv])
      simp only [wR_bnd, wR_ret, wR_rd, wR_lo, wR_lof, wR_chk, wR_ite, wR_call, wR_runF, wR_newL, wR_chn, wS_seq, wS_bnd, wS_nxt, wS_ret, wS_set, wS_brk, wS_cnt, wS_rz0, wS_rz, wS_ite, wS_setIx, wS_try, wS_end, startD, List.map_cons, List.map_nil, List.length_cons, List.length_nil, List.replicate, List.cons_append, List.nil_append, List.getElem?_cons_zero, List.getElem?_cons_succ, List.set_cons_zero, List.set_cons_succ, Option.some.injEq, exists_eq_left', Nat.reduceAdd, Nat.reduceSub, D.int.injEq, D.bl.injEq, addD_i, subD_i, mulD_i, fdivD_i, modD_i, ltD_i, leD_i, gtD_i, geD_i, tb_b, toI_i, intF_i, absF_i, ixD_o, ixD_tl, ixD_tup, lenF_o, lenF_tl, lenF_tup, lenF_fz, objL_o, tyOk_o, Option.bind_some, Option.map_some, Option.isSome_some, Prod.mk.injEq, and_assoc, exists_and_left, decide_eq_true_eq, Option.ite_none_right_eq_some, true_and, q1 a3, am]
      have g9 : G9[o]? = some (MO.lst (oddL n ++ [deepD 12])) := by rw [s9.at_ o ho2]; exact g8
      have L1 : 0 < (oddL n ++ [deepD 12]).length := by simp
      have L2 : (oddL n ++ [deepD 12]).length ≤ 1000 := by simp [oddL]
      have tail : ∀ {cs : List D} {k c : Nat} {G12 : Gs} {W : Gs → Prop}, cs.length = 5 → 1 ≤ k → k ≤ 8 → (∀ x ∈ cs, Ok1 k c x) → Pot G12 → G12[o]? = some (MO.lst (oddL n ++ [deepD 12])) → (∀ G1, Pot G1 → G1[o]? = some (MO.lst (oddL n ++ [deepD 12])) → W G1) →
          wR (f__law_told [.tup cs] G12) (fun e G1 => X e G1) fun a G1 => wR (f__law_due [.tup cs] G1) (fun e G1 => X e G1) fun a_1 G1 => ∃ d, neD a a_1 G1 = some d ∧ ∃ d_4, tb d G1 = some d_4 ∧ if d_4 = true then false = true else W G1 := by
        intro cs k c G12 W h5 hk1 hk8 hx hp hg hW
        obtain ⟨u1, u2, u3, u4, u5, rfl⟩ := five h5
        have z1 := (hx u1 (by simp)).1
        have z2 := (hx u2 (by simp)).1
        have z3 := (hx u3 (by simp)).1
        have z4 := (hx u4 (by simp)).1
        have z5 := (hx u5 (by simp)).1
        refine wR_imp (w_told (G := G12) (k := k) (by omega) z1 z2 z3 z4 z5) (fun _ _ z => z) fun r6 G6 ⟨er, t6, eG⟩ => ?_
        subst er eG
        rw [w_due (G := G12 ++ [t6]) (k := k) (by omega) hk1 z1 z2 z3 z4 z5]
        show ∃ d, neD _ _ _ = some d ∧ _
        refine ⟨_, ne_str wr_mem, false, rfl, ?_⟩
        rw [if_neg Bool.false_ne_true]
        have lo := (List.getElem?_eq_some_iff.mp hg).1
        exact hW _ (hp.app [t6]) (by rw [List.getElem?_append_left lo]; exact hg)
      have hb1 := w_bent (k := 6) (o := o) (by omega) ho2 L1 L2 (odd_ok (many := n) (by omega)) 16 3 (X := fun e G1 => X e G1) (by omega) p9 s9 g9 (ok5 _ (List.getElem_mem hv))
      refine wR_imp (show wR (f__law_bent _ _) _ _ from hb1) (fun _ _ z => z) fun r G10 ⟨hr, p10, s10⟩ => ?_
      obtain ⟨n5, h5⟩ := bend_ok rl5 a3 b3 ok5 hr
      have len1 : (rows.take v3.toNat).length ≤ 5 := by rw [List.length_take]; omega
      have len2 : (rows.drop (v3 + 1).toNat).length ≤ 5 := by rw [List.length_drop]; omega
      refine ⟨_, mkT_of (by simp), _, addD_t (by simp only [List.length_cons, List.length_nil]; omega), _, q2 (by omega) _, _, addD_t (by rw [List.length_append]; simp only [List.length_cons, List.length_nil]; omega), ?_⟩
      generalize rows.take v3.toNat ++ [r] ++ rows.drop (v3 + 1).toNat = bs at n5 h5 ⊢
      refine wR_imp (w_draw' (many := 3) p10 s10 (by omega) (by omega)) (fun _ _ z => z) fun d G11 ⟨v4, e4, a4, b4, p11, s11⟩ => ?_
      subst e4
      have g11 : G11[o]? = some (MO.lst (oddL n ++ [deepD 12])) := by rw [s11.at_ o ho2]; exact g8
      simp only [eqD_i, startD, List.map_cons, List.map_nil, List.length_cons, List.length_nil, List.replicate, List.cons_append, List.nil_append, List.getElem?_cons_zero, List.getElem?_cons_succ, List.set_cons_zero, List.set_cons_succ, Option.some.injEq, exists_eq_left', Nat.reduceAdd, Nat.reduceSub, D.int.injEq, D.bl.injEq, addD_i, subD_i, mulD_i, fdivD_i, modD_i, ltD_i, leD_i, gtD_i, geD_i, tb_b, toI_i, intF_i, absF_i, ixD_o, ixD_tl, ixD_tup, lenF_o, lenF_tl, lenF_tup, lenF_fz, objL_o, tyOk_o, Option.bind_some, Option.map_some, Option.isSome_some, Prod.mk.injEq, and_assoc, exists_and_left, decide_eq_true_eq, Option.ite_none_right_eq_some, true_and]
      by_cases w0 : v4 = 0
      case neg =>
        rw [if_neg w0]
        exact tail n5 (by omega) (by omega) h5 p11 g11 fun G1 p q => ⟨⟨_, _, _, _, _, rfl⟩, p, q⟩
      rw [if_pos w0]
      refine wR_imp (w_draw' (many := 5) p11 s11 (by omega) (by omega)) (fun _ _ z => z) fun d G13 ⟨v5, e5, a5, b5, p13, s13⟩ => ?_
      subst e5
      have hv5 : v5.toNat < bs.length := by omega
      have am5 : atI bs v5 = some bs[v5.toNat] := atI_of (ixN_pos a5 (by omega)) (by simp [hv5])
      have g13 : G13[o]? = some (MO.lst (oddL n ++ [deepD 12])) := by rw [s13.at_ o ho2]; exact g8
      refine ⟨some v5, rfl, _, q1 a5 _, bs[v5.toNat], am5, ?_⟩
      have hb2 := w_bent (k := 7) (o := o) (by omega) ho2 L1 L2 (odd_ok (many := n) (by omega)) 16 15 (X := fun e G1 => X e G1) (by omega) p13 s13 g13 (h5 _ (List.getElem_mem hv5))
      refine wR_imp (show wR (f__law_bent _ _) _ _ from hb2) (fun _ _ z => z) fun r' G14 ⟨hr', p14, s14⟩ => ?_
      obtain ⟨n6, h6⟩ := bend_ok n5 a5 b5 h5 hr'
      have len3 : (bs.take v5.toNat).length ≤ 5 := by rw [List.length_take]; omega
      have len4 : (bs.drop (v5 + 1).toNat).length ≤ 5 := by rw [List.length_drop]; omega
      have g14 : G14[o]? = some (MO.lst (oddL n ++ [deepD 12])) := by rw [s14.at_ o ho2]; exact g8
      refine ⟨_, mkT_of (by simp), _, addD_t (by simp only [List.length_cons, List.length_nil]; omega), _, rfl, some (v5 + 1), rfl, _, q2 (by omega) _, _, addD_t (by rw [List.length_append]; simp only [List.length_cons, List.length_nil]; omega), ?_⟩
      generalize bs.take v5.toNat ++ [r'] ++ bs.drop (v5 + 1).toNat = cs at n6 h6 ⊢
      exact tail n6 (by omega) (by omega) h6 p14 g14 fun G1 p q => ⟨⟨_, _, _, _, _, rfl⟩, p, q⟩
    · rintro l G' ⟨⟨s, a, b, c, e, rfl⟩, p, q⟩
      exact ⟨⟨_, _, _, _, _, _, _, _, rfl⟩, p, by have := (List.getElem?_eq_some_iff.mp q).1; omega⟩
  · rintro l G2 ⟨⟨s, a, b, c, d, e, f, g, rfl⟩, p2, l2⟩
    have m0 : ∀ G', mkT [] G' = some (.tup []) := fun G' => mkT_of (by simp)
    have m5 : ∀ G' a c f j l, mkT [a, c, f, j, l] G' = some (.tup [a, c, f, j, l]) := fun G' a c f j l => mkT_of (by simp)
    simp only [wR_bnd, wR_ret, wR_rd, wR_lo, wR_lof, wR_chk, wR_ite, wR_call, wR_runF, wR_newL, wR_chn, wS_seq, wS_bnd, wS_nxt, wS_ret, wS_set, wS_brk, wS_cnt, wS_rz0, wS_rz, wS_ite, wS_setIx, wS_try, wS_end, startD, List.map_cons, List.map_nil, List.length_cons, List.length_nil, List.replicate, List.cons_append, List.nil_append, List.getElem?_cons_zero, List.getElem?_cons_succ, List.set_cons_zero, List.set_cons_succ, Option.some.injEq, exists_eq_left', Nat.reduceAdd, Nat.reduceSub, D.int.injEq, D.bl.injEq, addD_i, subD_i, mulD_i, fdivD_i, modD_i, ltD_i, leD_i, gtD_i, geD_i, tb_b, toI_i, intF_i, absF_i, ixD_o, ixD_tl, ixD_tup, lenF_o, lenF_tl, lenF_tup, lenF_fz, objL_o, tyOk_o, Option.bind_some, Option.map_some, Option.isSome_some, Prod.mk.injEq, and_assoc, exists_and_left, decide_eq_true_eq, Option.ite_none_right_eq_some, true_and, m0, m5]
    have w0 : wrB (.int 0) (.tup []) (.tup []) (.tup []) (.tup []) = some "changes" := by simp [wrB, manyB]
    refine wR_imp (w_told (G := G2) (k := 1) (by omega) rfl rfl rfl rfl rfl) (fun _ _ z => z) fun r6 G6 ⟨er, t6, eG⟩ => ?_
    subst er eG
    rw [w0]
    refine ⟨_, ne_str (s := "changes") (by simp), false, rfl, ?_⟩
    rw [if_neg Bool.false_ne_true]
    have p6 := p2.app [t6]
    refine wR_imp (w_draw' (many := 2) p6 (Same.rfl' _) (by omega) (by omega)) (fun _ _ z => z) fun d2 G7 ⟨v, e1, a1, b1, p7, s7⟩ => ?_
    subst e1
    simp only [startD, List.map_cons, List.map_nil, List.length_cons, List.length_nil, List.replicate, List.cons_append, List.nil_append, List.getElem?_cons_zero, List.getElem?_cons_succ, List.set_cons_zero, List.set_cons_succ, Option.some.injEq, exists_eq_left', Nat.reduceAdd, Nat.reduceSub, D.int.injEq, D.bl.injEq, addD_i, subD_i, mulD_i, fdivD_i, modD_i, ltD_i, leD_i, gtD_i, geD_i, tb_b, toI_i, intF_i, absF_i, ixD_o, ixD_tl, ixD_tup, lenF_o, lenF_tl, lenF_tup, lenF_fz, objL_o, tyOk_o, Option.bind_some, Option.map_some, Option.isSome_some, Prod.mk.injEq, and_assoc, exists_and_left, decide_eq_true_eq, Option.ite_none_right_eq_some, true_and]
    refine wR_imp (w_draw' (many := 10) p7 (Same.rfl' _) (by omega) (by omega)) (fun _ _ z => z) fun d2 G8 ⟨v2, e2, a2, b2, p8, s8⟩ => ?_
    subst e2
    simp only [startD, List.map_cons, List.map_nil, List.length_cons, List.length_nil, List.replicate, List.cons_append, List.nil_append, List.getElem?_cons_zero, List.getElem?_cons_succ, List.set_cons_zero, List.set_cons_succ, Option.some.injEq, exists_eq_left', Nat.reduceAdd, Nat.reduceSub, D.int.injEq, D.bl.injEq, addD_i, subD_i, mulD_i, fdivD_i, modD_i, ltD_i, leD_i, gtD_i, geD_i, tb_b, toI_i, intF_i, absF_i, ixD_o, ixD_tl, ixD_tup, lenF_o, lenF_tl, lenF_tup, lenF_fz, objL_o, tyOk_o, Option.bind_some, Option.map_some, Option.isSome_some, Prod.mk.injEq, and_assoc, exists_and_left, decide_eq_true_eq, Option.ite_none_right_eq_some, true_and]
    by_cases z : 0 < v2
    · rw [if_pos z]; trivial
    rw [if_neg z]
    obtain ⟨m, hm⟩ : ∃ m : Nat, 400 + v = m := ⟨(400 + v).toNat, by omega⟩
    rw [hm, w_great (by omega) (by omega), wR_ok]
    have gp := great_pd (n := m) (by omega) (by omega)
    simp only [Bool.and_eq_true] at gp
    obtain ⟨⟨⟨⟨g1, g2⟩, g3⟩, g4⟩, g5⟩ := gp
    refine wR_imp (w_told (G := G8) (k := 401) (by omega) g1 g2 g3 g4 g5) (fun _ _ z => z) fun r6 G9 ⟨er, _⟩ => ?_
    rw [er, great_wr (by omega)]
    refine ⟨_, mkL_of (by simp), ?_⟩
    by_cases c : m ≤ 400
    · have e0 : (m : Int) - 400 = 0 := by omega
      rw [if_pos c, e0]
      exact ⟨.str "let", rfl, .bl true, eq_str (by simp), rfl⟩
    · have e0 : (m : Int) - 400 = 1 := by omega
      rw [if_neg c, e0]
      exact ⟨.str "changes", rfl, .bl true, eq_str (by simp), rfl⟩
end
theorem pure_law : ∀ ns : List Int, ns.length ≤ 63 → ∃ G, f_law [.fz (ns.map D.int)] [] = .ok (.bl true) G := fun ns hn => by
  have h := law_ok (X := fun _ _ => False) hn
  revert h
  cases f_law [.fz (ns.map D.int)] [] with
  | ok r G => exact fun h => ⟨G, by rw [show r = D.bl true from h]⟩
  | exc e G => exact fun h => h.elim
  | stuck => exact fun h => h.elim
end K12
end M3
end L2

set_option Elab.async false
set_option linter.all false
set_option maxRecDepth 100000
set_option maxHeartbeats 0
namespace L2
namespace M3
namespace K12
open PySem PySem.Spec PyProof.Rows
end K12
end M3
end L2
open PySem PySem.W PySem.Calls PyProof.Rows L2 L2.M3
theorem PySem.Challenge.cw_threecopies_k12_books_judged_holds : PySem.Challenge.rw_threecopies_k12_books_judged.Holds := by
  w_on; o_law
  refine HandSHeadRun.head_any (r := OpenLaw.row PySem.Challenge.rw_threecopies_k12_books_judged) (q := view (OpenLaw.row PySem.Challenge.rw_threecopies_k12_books_judged).prog [31]) (H := K12.hd.hook) (ob := K12.hd.ob) (M := 4000) (loose := K12.nms) (d := HandSHeadRun.topDef (OpenLaw.row PySem.Challenge.rw_threecopies_k12_books_judged).prog 31) (kwd := []) K12.hd.ob_eq
    (by kernel_rfl) (fun s => by kernel_rfl) K12.run (by kernel_rfl) (by kernel_rfl) (by kernel_rfl) (by rfl) (by first | assumption | decide +kernel) (by decide +kernel) ⟨rfl, rfl, rfl, rfl, rfl, by decide +kernel⟩ ?hw ?hc
  case hw => w_witness2
  case hc =>
    exact walk_end (l := PySem.Challenge.rw_threecopies_k12_books_judged) (h := K12.hd) (k := 20) (x := "script") (fm := K12.f_law) rfl (by kernel_rfl) ⟨rfl, by decide, by decide⟩ (by kernel_rfl)
      (fun w mg hp base K c X G => K12.ok_law rfl c X G) (fun mg hp K c X G => K12.g_law rfl c X G) K12.pure_law

