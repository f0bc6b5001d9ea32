import PyProof.Rows.All
import Wide.All
import OpenK.AllK
import Wide.FinOn
import HandS.ForMost
import HandS.Exc
import HandS.TryOnly
import HandS.ExcOwn
import HandS.WordsExc
import HandS.TupAny
import HandS.TupLe
import HandS.IsInst
import HandS.Deep
import HandS.TupMul
import HandS.Flow
import HandS.Style
import HandS.Wide
import HandS.More
import HandS.Zip
import KE.GoesMore
import HandS.Dict
import HandS.Defaults
import HandS.Head2
import HandS.HeadHook2
import HandS.HeadEnd
import PySem.Challenge.RW_townpost_k14_statements_judged
set_option Elab.async false
set_option linter.all false
set_option maxRecDepth 100000
set_option maxHeartbeats 4000000
/-! The deep layer: values as data (tuples by what they hold), a store of what may change, and readings over them. -/
namespace M
open PySem PySem.Spec PyProof.Rows L2

/-- a value as data: a tuple is what it holds; what may change is known by its address -/
inductive DV where
  | non | bl (b : Bool) | int (i : Int) | str (x : Str) | tup (ds : List DV) | rol (ds : List DV) | ref (a : Addr) | ty (n : String)
  deriving Inhabited

/-- a list that nobody writes: known to the object, or of the module's own -/
def RoL (K : PySem.W.Frag) (H : Hp) (a : Addr) (xs : List V) : Prop :=
  (∃ o, H a = some (.frz o (.lst xs))) ∨
    ∃ (o : Obj) (its : Array Value) (n : Nat), K.lookup a = some o ∧ o.cls = .type "list" ∧ o.dict = none ∧ o.data = .seq its n ∧ its.size ≤ sizeLine ∧ Vals xs its.toList
theorem RoL.sq {K : PySem.W.Frag} {H : Hp} {a : Addr} {xs : List V} (h : RoL K H a xs) : SqL K H a xs := by
  rcases h with ⟨o, h⟩ | h
  · exact .inl (.inr ⟨o, h⟩)
  · exact .inr h

mutual
def Rel (K : PySem.W.Frag) (H : Hp) : DV → V → Prop
  | .non, v => v = .non
  | .bl b, v => v = .bl b
  | .int i, v => v = .int i
  | .str x, v => v = .str x
  | .ref a, v => v = .ref a
  | .ty n, v => v = .ty n
  | .tup ds, v => ∃ a vs, v = .ref a ∧ SqT K H a vs ∧ Rels K H ds vs
  | .rol ds, v => ∃ a vs, v = .ref a ∧ RoL K H a vs ∧ Rels K H ds vs
def Rels (K : PySem.W.Frag) (H : Hp) : List DV → List V → Prop
  | [], vs => vs = []
  | d :: ds, vs => ∃ v r, vs = v :: r ∧ Rel K H d v ∧ Rels K H ds r
end

/-- tuples, and what is known to the object, stay -/
structure TLe (H H' : Hp) : Prop where
  tup : ∀ a xs, H a = some (.tup xs) → H' a = some (.tup xs)
  frz : ∀ a o u, H a = some (.frz o u) → H' a = some (.frz o u)
theorem TLe.refl (H : Hp) : TLe H H := ⟨fun _ _ h => h, fun _ _ _ h => h⟩
theorem TLe.trans {H H1 H2 : Hp} (a : TLe H H1) (b : TLe H1 H2) : TLe H H2 := ⟨fun _ _ h => b.tup _ _ (a.tup _ _ h), fun _ _ _ h => b.frz _ _ _ (a.frz _ _ _ h)⟩
theorem TLe.new {H : Hp} {p : Addr} {o : HO} (h : H p = none) : TLe H (upd H p o) := ⟨fun a xs e => by rw [upd_ne (ne_of_none e h)]; exact e, fun a ob u e => by rw [upd_ne (ne_of_none e h)]; exact e⟩
/-- a list, an instance, .. may be written -/
def Wr : HO → Prop
  | .tup _ => False
  | .frz _ _ => False
  | _ => True
theorem TLe.wr {H : Hp} {p : Addr} {o o' : HO} (h : H p = some o) (w : Wr o) : TLe H (upd H p o') := by
  refine ⟨fun a xs e => ?_, fun a ob u e => ?_⟩
  · rw [upd_ne ?_]; exact e
    intro z; subst z; rw [h] at e; cases e; exact w
  · rw [upd_ne ?_]; exact e
    intro z; subst z; rw [h] at e; cases e; exact w
theorem TLe.sqT {K : PySem.W.Frag} {H H' : Hp} {a : Addr} {xs : List V} (t : TLe H H') (h : SqT K H a xs) : SqT K H' a xs := by
  rcases h with (h | ⟨o, h⟩) | h
  · exact .inl (.inl (t.tup _ _ h))
  · exact .inl (.inr ⟨o, t.frz _ _ _ h⟩)
  · exact .inr h
theorem TLe.roL {K : PySem.W.Frag} {H H' : Hp} {a : Addr} {xs : List V} (t : TLe H H') (h : RoL K H a xs) : RoL K H' a xs := by
  rcases h with ⟨o, h⟩ | h
  · exact .inl ⟨o, t.frz _ _ _ h⟩
  · exact .inr h

section
variable {K : PySem.W.Frag} {H H' : Hp}
mutual
theorem Rel.mono (t : TLe H H') : ∀ {d : DV} {v : V}, Rel K H d v → Rel K H' d v
  | .non, _, h => h
  | .bl _, _, h => h
  | .int _, _, h => h
  | .str _, _, h => h
  | .ref _, _, h => h
  | .ty _, _, h => h
  | .tup ds, _, h => by
    obtain ⟨a, vs, e, q, r⟩ := h
    exact ⟨a, vs, e, t.sqT q, Rels.mono t r⟩
  | .rol ds, _, h => by
    obtain ⟨a, vs, e, q, r⟩ := h
    exact ⟨a, vs, e, t.roL q, Rels.mono t r⟩
theorem Rels.mono (t : TLe H H') : ∀ {ds : List DV} {vs : List V}, Rels K H ds vs → Rels K H' ds vs
  | [], _, h => h
  | d :: ds, _, h => by
    obtain ⟨v, r, e, h1, h2⟩ := h
    exact ⟨v, r, e, Rel.mono t h1, Rels.mono t h2⟩
end
theorem Rels.nil : Rels K H [] [] := rfl
theorem Rels.cons {d : DV} {ds : List DV} {v : V} {vs : List V} (h : Rel K H d v) (r : Rels K H ds vs) : Rels K H (d :: ds) (v :: vs) := ⟨v, vs, rfl, h, r⟩
theorem Rels.length : ∀ {ds : List DV} {vs : List V}, Rels K H ds vs → vs.length = ds.length
  | [], _, h => by cases (show _ = _ from h); rfl
  | d :: ds, _, h => by
    obtain ⟨v, r, rfl, h1, h2⟩ := h
    simp [Rels.length h2]
theorem Rels.get : ∀ {ds : List DV} {vs : List V} {i : Nat} {d : DV}, Rels K H ds vs → ds[i]? = some d → ∃ v, vs[i]? = some v ∧ Rel K H d v
  | [], _, _, _, _, e => by simp at e
  | d :: ds, _, 0, _, h, e => by
    obtain ⟨v, r, rfl, h1, h2⟩ := h
    simp at e; subst e
    exact ⟨v, by simp, h1⟩
  | d :: ds, _, i + 1, _, h, e => by
    obtain ⟨v, r, rfl, h1, h2⟩ := h
    obtain ⟨u, e1, e2⟩ := Rels.get (i := i) h2 (by simpa using e)
    exact ⟨u, by simpa using e1, e2⟩
theorem Rels.get' : ∀ {ds : List DV} {vs : List V} {i : Nat} {v : V}, Rels K H ds vs → vs[i]? = some v → ∃ d, ds[i]? = some d ∧ Rel K H d v
  | [], _, _, _, h, e => by cases (show _ = _ from h); simp at e
  | d :: ds, _, 0, _, h, e => by
    obtain ⟨v, r, rfl, h1, h2⟩ := h
    simp at e; subst e
    exact ⟨d, by simp, h1⟩
  | d :: ds, _, i + 1, _, h, e => by
    obtain ⟨v, r, rfl, h1, h2⟩ := h
    obtain ⟨u, e1, e2⟩ := Rels.get' (i := i) h2 (by simpa using e)
    exact ⟨u, by simpa using e1, e2⟩
theorem Rels.append : ∀ {ds es : List DV} {vs us : List V}, Rels K H ds vs → Rels K H es us → Rels K H (ds ++ es) (vs ++ us)
  | [], _, _, _, h, r => by cases (show _ = _ from h); exact r
  | d :: ds, _, _, _, h, r => by
    obtain ⟨v, q, rfl, h1, h2⟩ := h
    exact ⟨v, q ++ _, rfl, h1, Rels.append h2 r⟩
theorem Rels.take : ∀ {ds : List DV} {vs : List V} (n : Nat), Rels K H ds vs → Rels K H (ds.take n) (vs.take n)
  | _, _, 0, _ => by simp; exact .nil
  | [], _, n + 1, h => by cases (show _ = _ from h); exact .nil
  | d :: ds, _, n + 1, h => by
    obtain ⟨v, q, rfl, h1, h2⟩ := h
    exact ⟨v, q.take n, rfl, h1, Rels.take n h2⟩
theorem Rels.drop : ∀ {ds : List DV} {vs : List V} (n : Nat), Rels K H ds vs → Rels K H (ds.drop n) (vs.drop n)
  | _, _, 0, h => by simpa using h
  | [], _, n + 1, h => by cases (show _ = _ from h); exact .nil
  | d :: ds, _, n + 1, h => by
    obtain ⟨v, q, rfl, h1, h2⟩ := h
    simpa using Rels.drop n h2
theorem Rels.set {d : DV} {v : V} (r : Rel K H d v) : ∀ {ds : List DV} {vs : List V} (i : Nat), Rels K H ds vs → Rels K H (ds.set i d) (vs.set i v)
  | [], _, _, h => by cases (show _ = _ from h); exact .nil
  | e :: ds, _, 0, h => by
    obtain ⟨u, q, rfl, h1, h2⟩ := h
    exact ⟨v, q, rfl, r, h2⟩
  | e :: ds, _, i + 1, h => by
    obtain ⟨u, q, rfl, h1, h2⟩ := h
    exact ⟨u, q.set i v, rfl, h1, Rels.set r i h2⟩
theorem Rels.eraseIdx : ∀ {ds : List DV} {vs : List V} (i : Nat), Rels K H ds vs → Rels K H (ds.eraseIdx i) (vs.eraseIdx i)
  | [], _, _, h => by cases (show _ = _ from h); exact .nil
  | e :: ds, _, 0, h => by
    obtain ⟨u, q, rfl, h1, h2⟩ := h
    exact h2
  | e :: ds, _, i + 1, h => by
    obtain ⟨u, q, rfl, h1, h2⟩ := h
    exact ⟨u, q.eraseIdx i, rfl, h1, Rels.eraseIdx i h2⟩
theorem Rels.reverse : ∀ {ds : List DV} {vs : List V}, Rels K H ds vs → Rels K H ds.reverse vs.reverse
  | [], _, h => by cases (show _ = _ from h); exact .nil
  | d :: ds, _, h => by
    obtain ⟨v, q, rfl, h1, h2⟩ := h
    simp only [List.reverse_cons]
    exact Rels.append (Rels.reverse h2) (.cons h1 .nil)
theorem Rels.dropLast : ∀ {ds : List DV} {vs : List V}, Rels K H ds vs → Rels K H ds.dropLast vs.dropLast := fun {ds vs} h => by
  rw [List.dropLast_eq_take, List.dropLast_eq_take, h.length]
  exact h.take _
end

/-! ### the store -/
inductive MO where
  | lst (ds : List DV)
  | ins (C : Addr) (fs : List (Str × DV))
  | dK (kvs : List (Key × DV))
  | dT (kvs : List (List Key × DV))
abbrev Sto := Addr → Option MO
def Sto.upd (S : Sto) (a : Addr) (o : MO) : Sto := fun b => if b = a then some o else S b
@[simp] theorem upd_s {S : Sto} {a : Addr} {o : MO} : S.upd a o a = some o := by unfold Sto.upd; rw [if_pos rfl]
theorem upd_n {S : Sto} {a b : Addr} {o : MO} (h : b ≠ a) : S.upd a o b = S b := by unfold Sto.upd; rw [if_neg h]

/-- the pairs of names and values -/
def RelF (K : PySem.W.Frag) (H : Hp) {α : Type} : List (α × DV) → List (α × V) → Prop
  | [], vs => vs = []
  | d :: ds, vs => ∃ v r, vs = (d.1, v) :: r ∧ Rel K H d.2 v ∧ RelF K H ds r
theorem RelF.mono {K : PySem.W.Frag} {H H' : Hp} {α : Type} (t : TLe H H') : ∀ {ds : List (α × DV)} {vs : List (α × V)}, RelF K H ds vs → RelF K H' ds vs
  | [], _, h => h
  | d :: ds, _, h => by
    obtain ⟨v, r, e, h1, h2⟩ := h
    exact ⟨v, r, e, Rel.mono t h1, RelF.mono t h2⟩
theorem RelF.length {K : PySem.W.Frag} {H : Hp} {α : Type} : ∀ {ds : List (α × DV)} {vs : List (α × V)}, RelF K H ds vs → vs.length = ds.length
  | [], _, h => by cases (show _ = _ from h); rfl
  | d :: ds, _, h => by
    obtain ⟨v, r, rfl, h1, h2⟩ := h
    simp [RelF.length h2]

def MOk (K : PySem.W.Frag) (H : Hp) (a : Addr) : MO → Prop
  | .lst ds => ∃ vs, H a = some (.lst vs) ∧ Rels K H ds vs
  | .ins C fs => ∃ dx gs, H a = some (.ins C dx gs) ∧ RelF K H fs gs
  | .dK kvs => ∃ us, H a = some (.dK us) ∧ RelF K H kvs us
  | .dT kvs => ∃ us, H a = some (.dT us) ∧ RelF K H kvs us
def Conc (K : PySem.W.Frag) (S : Sto) (H : Hp) : Prop := ∀ a o, S a = some o → MOk K H a o

section
variable {K : PySem.W.Frag} {H H' : Hp} {S S' : Sto} {a : Addr} {o : MO}
/-- an object stays while it itself and the tuples stay -/
theorem MOk.stay (t : TLe H H') (k : ∀ u, H a = some u → H' a = some u) (h : MOk K H a o) : MOk K H' a o := by
  cases o with
  | lst ds => obtain ⟨vs, e, r⟩ := h; exact ⟨vs, k _ e, r.mono t⟩
  | ins C fs => obtain ⟨dx, gs, e, r⟩ := h; exact ⟨dx, gs, k _ e, r.mono t⟩
  | dK kvs => obtain ⟨us, e, r⟩ := h; exact ⟨us, k _ e, r.mono t⟩
  | dT kvs => obtain ⟨us, e, r⟩ := h; exact ⟨us, k _ e, r.mono t⟩
theorem Conc.sub (c : Conc K S' H) (h : ∀ a o, S a = some o → S' a = some o) : Conc K S H := fun a o e => c a o (h a o e)
end
end M
set_option maxHeartbeats 4000000
namespace M
open PySem PySem.Spec PyProof.Rows L2

/-! ### what the store says, kept -/
section
variable {K : PySem.W.Frag} {H H' : Hp} {S S' : Sto} {p : Addr} {ho : HO} {o : MO}
theorem MOk.some_ (h : MOk K H p o) : ∃ u, H p = some u ∧ Wr u := by
  cases o with
  | lst ds => obtain ⟨vs, e, r⟩ := h; exact ⟨_, e, trivial⟩
  | ins C fs => obtain ⟨dx, gs, e, r⟩ := h; exact ⟨_, e, trivial⟩
  | dK kvs => obtain ⟨us, e, r⟩ := h; exact ⟨_, e, trivial⟩
  | dT kvs => obtain ⟨us, e, r⟩ := h; exact ⟨_, e, trivial⟩
theorem Conc.free (c : Conc K S H) (h : H p = none) : S p = none := by
  cases e : S p with
  | none => rfl
  | some o =>
    obtain ⟨u, hu, _⟩ := (c p o e).some_
    rw [h] at hu; cases hu
theorem Conc.mono (c : Conc K S H) (t : TLe H H') (k : ∀ a o u, S a = some o → H a = some u → H' a = some u) : Conc K S H' := fun a o e =>
  (c a o e).stay t (fun u hu => k a o u e hu)
/-- something new is laid that the store need not know -/
theorem Conc.lay (c : Conc K S H) (h : H p = none) : Conc K S (upd H p ho) :=
  c.mono (TLe.new h) fun a o u e hu => by rw [upd_ne (ne_of_none hu h)]; exact hu
theorem Conc.new (c : Conc K S H) (h : H p = none) (r : MOk K (upd H p ho) p o) : Conc K (S.upd p o) (upd H p ho) := fun a q e => by
  by_cases ha : a = p
  · subst ha; rw [upd_s] at e; cases e; exact r
  · rw [upd_n ha] at e; exact c.lay h a q e
theorem Conc.write {o' : MO} (c : Conc K S H) (h : S p = some o') (r : MOk K (upd H p ho) p o) : Conc K (S.upd p o) (upd H p ho) := fun a q e => by
  obtain ⟨u, hu, wu⟩ := (c p o' h).some_
  by_cases ha : a = p
  · subst ha; rw [upd_s] at e; cases e; exact r
  · rw [upd_n ha] at e
    exact (c a q e).stay (TLe.wr hu wu) fun v hv => by rw [upd_ne ha]; exact hv
theorem Conc.tle_write {o' : MO} (c : Conc K S H) (h : S p = some o') : TLe H (upd H p ho) := by
  obtain ⟨u, hu, wu⟩ := (c p o' h).some_
  exact TLe.wr hu wu
theorem Conc.lst {a : Addr} {ds : List DV} (c : Conc K S H) (h : S a = some (.lst ds)) : ∃ vs, H a = some (.lst vs) ∧ Rels K H ds vs := c a _ h
end

/-! ### names -/
abbrev Gm := List (Option DV)
def EnvR (K : PySem.W.Frag) (H : Hp) (Γ : Gm) (σ : L2.St) : Prop := Γ.length = σ.length ∧ ∀ (i : Nat) d, Γ[i]? = some (some d) → ∃ v, σ[i]? = some (some v) ∧ Rel K H d v
section
variable {K : PySem.W.Frag} {H H' : Hp} {Γ : Gm} {σ : L2.St}
theorem EnvR.mono (t : TLe H H') (e : EnvR K H Γ σ) : EnvR K H' Γ σ := ⟨e.1, fun i d h => let ⟨v, a, r⟩ := e.2 i d h; ⟨v, a, r.mono t⟩⟩
theorem EnvR.set {d : DV} {v : V} (e : EnvR K H Γ σ) (i : Nat) (r : Rel K H d v) : EnvR K H (Γ.set i (some d)) (σ.set i (some v)) := by
  refine ⟨by simpa using e.1, fun j d' h => ?_⟩
  by_cases hj : i = j
  · subst hj
    by_cases hl : i < Γ.length
    · rw [List.getElem?_set_self hl] at h
      cases h
      exact ⟨v, by rw [List.getElem?_set_self (by rw [← e.1]; exact hl)], r⟩
    · rw [List.getElem?_eq_none (by simpa using hl)] at h; cases h
  · rw [List.getElem?_set_ne hj] at h
    obtain ⟨u, a, q⟩ := e.2 j d' h
    exact ⟨u, by rw [List.getElem?_set_ne hj]; exact a, q⟩
theorem EnvR.unset (e : EnvR K H Γ σ) (i : Nat) (o : Option V) : EnvR K H (Γ.set i none) (σ.set i o) := by
  refine ⟨by simpa using e.1, fun j d' h => ?_⟩
  by_cases hj : i = j
  · subst hj
    by_cases hl : i < Γ.length
    · rw [List.getElem?_set_self hl] at h; cases h
    · rw [List.getElem?_eq_none (by simpa using hl)] at h; cases h
  · rw [List.getElem?_set_ne hj] at h
    obtain ⟨u, a, q⟩ := e.2 j d' h
    exact ⟨u, by rw [List.getElem?_set_ne hj]; exact a, q⟩
/-- the slots of a block's own names forgotten -/
@[simp] def wipeG (Γ : Gm) : List Nat → Gm
  | [] => Γ
  | v :: vs => (wipeG Γ vs).set v none
theorem EnvR.wipe (e : EnvR K H Γ σ) : ∀ vs : List Nat, EnvR K H (wipeG Γ vs) (L2.wipe σ vs)
  | [] => e
  | v :: vs => by
    unfold wipeG L2.wipe
    exact (EnvR.wipe e vs).unset v none
end
def startG (N : List Str) (ds : List DV) : Gm := ds.map some ++ List.replicate (N.length - ds.length) none
theorem startG_rel {K : PySem.W.Frag} {H : Hp} {N : List Str} {ds : List DV} {vs : List V} (r : Rels K H ds vs) : EnvR K H (startG N ds) (L2.start N vs) := by
  have hl := r.length
  refine ⟨by simp [startG, L2.start, hl], fun i d h => ?_⟩
  unfold startG at h
  by_cases hi : i < ds.length
  · rw [List.getElem?_append_left (by simpa using hi), List.getElem?_map] at h
    cases q : ds[i]? with
    | none => rw [q] at h; cases h
    | some d' =>
      rw [q] at h
      cases h
      obtain ⟨v, e, rr⟩ := r.get q
      refine ⟨v, ?_, rr⟩
      unfold L2.start
      rw [List.getElem?_append_left (by simpa [hl] using hi), List.getElem?_map, e]
      rfl
  · rw [List.getElem?_append_right (by simpa using hi), List.getElem?_replicate] at h
    split at h <;> cases h

/-! ### exceptions as data -/
structure DX where
  cls : Value
  fs : List (Str × DV)
def XRel (K : PySem.W.Frag) (H : Hp) (x : DX) (cls : Value) (d : Option Addr) : Prop :=
  cls = x.cls ∧ ((x.fs = [] ∧ d = none) ∨ ∃ dd gs, d = some dd ∧ H dd = some (.xd gs) ∧ RelF K H x.fs gs)

/-! ### readings over data -/
abbrev QV := DV → Sto → Prop
abbrev QX := DX → Sto → Prop
abbrev DE := Gm → Sto → QV → QX → Prop
abbrev DT := Gm → Sto → (Bool → Sto → Prop) → QX → Prop
abbrev DA := Gm → Sto → (List DV → Sto → Prop) → QX → Prop
structure DEnds where
  nx : Gm → Sto → Prop
  rt : QV
  bk : Gm → Sto → Prop := fun _ _ => False
  ct : Gm → Sto → Prop := fun _ _ => False
  xx : DX → Gm → Sto → Prop := fun _ _ _ => False
abbrev DS := DEnds → Gm → Sto → Prop
/-- what a def is worth -/
abbrev Ctr := List DV → Sto → QV → QX → Prop

section
variable (K : PySem.W.Frag)
def PostV (H : Hp) (Q1 : QV) (Q : VK) : Prop := ∀ r S' v H', Q1 r S' → TLe H H' → Conc K S' H' → Rel K H' r v → Q v H'
def PostB (H : Hp) (Q1 : Bool → Sto → Prop) (Q : Bool → Hp → Prop) : Prop := ∀ b S' H', Q1 b S' → TLe H H' → Conc K S' H' → Q b H'
def PostA (H : Hp) (Q1 : List DV → Sto → Prop) (Q : List V → Hp → Prop) : Prop := ∀ ds S' vs H', Q1 ds S' → TLe H H' → Conc K S' H' → Rels K H' ds vs → Q vs H'
def PostX (H : Hp) (σ : L2.St) (X1 : QX) (W : WX) : Prop := ∀ x S' cls d H', X1 x S' → TLe H H' → Conc K S' H' → XRel K H' x cls d → W cls d σ H'
structure PostS (W : WX) (H : Hp) (D1 : DEnds) (D : Ends) : Prop where
  nx : ∀ Γ' S' σ' H', D1.nx Γ' S' → TLe H H' → EnvR K H' Γ' σ' → Conc K S' H' → D.nx σ' H'
  rt : PostV K H D1.rt D.rt
  bk : ∀ Γ' S' σ' H', D1.bk Γ' S' → TLe H H' → EnvR K H' Γ' σ' → Conc K S' H' → D.bk σ' H'
  ct : ∀ Γ' S' σ' H', D1.ct Γ' S' → TLe H H' → EnvR K H' Γ' σ' → Conc K S' H' → D.ct σ' H'
  xx : ∀ x Γ' S' σ' H' cls d, D1.xx x Γ' S' → TLe H H' → EnvR K H' Γ' σ' → Conc K S' H' → XRel K H' x cls d → W cls d σ' H'
def LE (W : WX) (e : DE) : TE := fun σ H Q => ∃ Γ S Q1 X1, EnvR K H Γ σ ∧ Conc K S H ∧ e Γ S Q1 X1 ∧ PostV K H Q1 Q ∧ PostX K H σ X1 W
def LT (W : WX) (e : DT) : TT := fun σ H Q => ∃ Γ S Q1 X1, EnvR K H Γ σ ∧ Conc K S H ∧ e Γ S Q1 X1 ∧ PostB K H Q1 Q ∧ PostX K H σ X1 W
def LA (W : WX) (e : DA) : TA := fun σ H Q => ∃ Γ S Q1 X1, EnvR K H Γ σ ∧ Conc K S H ∧ e Γ S Q1 X1 ∧ PostA K H Q1 Q ∧ PostX K H σ X1 W
def LS (W : WX) (s : DS) : TS := fun D σ H => ∃ Γ S D1, EnvR K H Γ σ ∧ Conc K S H ∧ s D1 Γ S ∧ PostS K W H D1 D
def liftSp (c : Ctr) : Sp := fun vs H Q E => ∃ ds S Q1 X1, Rels K H ds vs ∧ Conc K S H ∧ c ds S Q1 X1 ∧ PostV K H Q1 Q ∧ (∀ x S' cls d H', X1 x S' → TLe H H' → Conc K S' H' → XRel K H' x cls d → E cls d H')
end
section
variable {K : PySem.W.Frag} {H H1 : Hp} {W : WX} {σ : L2.St}
theorem PostV.le {Q1 : QV} {Q : VK} (t : TLe H H1) (p : PostV K H Q1 Q) : PostV K H1 Q1 Q := fun r S' v H' q t' c rr => p r S' v H' q (t.trans t') c rr
theorem PostB.le {Q1 : Bool → Sto → Prop} {Q : Bool → Hp → Prop} (t : TLe H H1) (p : PostB K H Q1 Q) : PostB K H1 Q1 Q := fun r S' H' q t' c => p r S' H' q (t.trans t') c
theorem PostA.le {Q1 : List DV → Sto → Prop} {Q : List V → Hp → Prop} (t : TLe H H1) (p : PostA K H Q1 Q) : PostA K H1 Q1 Q := fun r S' v H' q t' c rr => p r S' v H' q (t.trans t') c rr
theorem PostX.le {X1 : QX} (t : TLe H H1) (p : PostX K H σ X1 W) : PostX K H1 σ X1 W := fun r S' v d H' q t' c rr => p r S' v d H' q (t.trans t') c rr
theorem PostS.le {D1 : DEnds} {D : Ends} (t : TLe H H1) (p : PostS K W H D1 D) : PostS K W H1 D1 D :=
  ⟨fun _ _ _ _ a b => p.nx _ _ _ _ a (t.trans b), p.rt.le t, fun _ _ _ _ a b => p.bk _ _ _ _ a (t.trans b), fun _ _ _ _ a b => p.ct _ _ _ _ a (t.trans b), fun _ _ _ _ _ _ _ a b => p.xx _ _ _ _ _ _ _ a (t.trans b)⟩
end

/-! ### another reading -/
section
variable {X : Cx}
theorem PE.imp {e : Expr} {t t' : TE} (h : PE X e t) (i : ∀ σ H Q, t' σ H Q → t σ H Q) : PE X e t' := ⟨fun pins s σ H Q I q => h.run pins s σ H Q I (i _ _ _ q)⟩
theorem PT.imp {e : Expr} {t t' : TT} (h : PT X e t) (i : ∀ σ H Q, t' σ H Q → t σ H Q) : PT X e t' := ⟨fun pins s σ H Q I q => h.run pins s σ H Q I (i _ _ _ q)⟩
theorem PW.imp {e : Expr} {t t' : TT} (h : PW X e t) (i : ∀ σ H Q, t' σ H Q → t σ H Q) : PW X e t' := ⟨fun w pins s σ H Q I q => h.run w pins s σ H Q I (i _ _ _ q)⟩
theorem PA.imp {es : List Expr} {t t' : TA} (h : PA X es t) (i : ∀ σ H Q, t' σ H Q → t σ H Q) : PA X es t' := ⟨fun pos pins s σ H Q I q => h.run pos pins s σ H Q I (i _ _ _ q)⟩
theorem PS.imp {e : Stmt} {t t' : TS} (h : PS X e t) (i : ∀ D σ H, t' D σ H → t D σ H) : PS X e t' := ⟨fun pins s σ H D I q => h.run pins s σ H D I (i _ _ _ q)⟩
theorem PSs.imp {e : List Stmt} {t t' : TS} (h : PSs X e t) (i : ∀ D σ H, t' D σ H → t D σ H) : PSs X e t' := ⟨fun pins s σ H D I q => h.run pins s σ H D I (i _ _ _ q)⟩
theorem PE.or {e : Expr} {t t' : TE} (h : PE X e t) (h' : PE X e t') : PE X e (fun σ H Q => t σ H Q ∨ t' σ H Q) := ⟨fun pins s σ H Q I q => q.elim (h.run pins s σ H Q I) (h'.run pins s σ H Q I)⟩
end
end M
set_option maxHeartbeats 4000000
namespace M
open PySem PySem.Spec PyProof.Rows L2

/-! ### == of data -/
mutual
def toPy : DV → Option PyData
  | .non => some .none
  | .bl b => some (.bool b)
  | .int i => some (.int i)
  | .str x => some (.str x)
  | .tup ds => (toPys ds).map .tuple
  | .rol ds => (toPys ds).map .list
  | .ref _ => none
  | .ty _ => none
def toPys : List DV → Option (List PyData)
  | [] => some []
  | d :: ds => match toPy d, toPys ds with
    | some p, some ps => some (p :: ps)
    | _, _ => none
end
mutual
theorem toPy_dp {K : PySem.W.Frag} {H : Hp} : ∀ {d : DV} {p : PyData} {v : V}, toPy d = some p → Rel K H d v → Dp K H v p
  | .non, _, _, h, r => by simp only [toPy, Option.some.injEq] at h; subst h; cases (show _ = _ from r); exact .non
  | .bl b, _, _, h, r => by simp only [toPy, Option.some.injEq] at h; subst h; cases (show _ = _ from r); exact .bl _
  | .int b, _, _, h, r => by simp only [toPy, Option.some.injEq] at h; subst h; cases (show _ = _ from r); exact .int _
  | .str b, _, _, h, r => by simp only [toPy, Option.some.injEq] at h; subst h; cases (show _ = _ from r); exact .str _
  | .ref _, _, _, h, _ => by simp [toPy] at h
  | .ty _, _, _, h, _ => by simp [toPy] at h
  | .tup ds, _, _, h, r => by
    simp only [toPy, Option.map_eq_some_iff] at h
    obtain ⟨ps, e, rfl⟩ := h
    obtain ⟨a, vs, rfl, q, rr⟩ := r
    exact .tup q (toPys_dp e rr)
  | .rol ds, _, _, h, r => by
    simp only [toPy, Option.map_eq_some_iff] at h
    obtain ⟨ps, e, rfl⟩ := h
    obtain ⟨a, vs, rfl, q, rr⟩ := r
    exact .lst q.sq (toPys_dp e rr)
theorem toPys_dp {K : PySem.W.Frag} {H : Hp} : ∀ {ds : List DV} {ps : List PyData} {vs : List V}, toPys ds = some ps → Rels K H ds vs → DpAll K H vs ps
  | [], _, _, h, r => by simp only [toPys, Option.some.injEq] at h; subst h; cases (show _ = _ from r); exact .nil
  | d :: ds, _, _, h, r => by
    obtain ⟨v, q, rfl, r1, r2⟩ := r
    simp only [toPys] at h
    cases e1 : toPy d with
    | none => rw [e1] at h; cases h
    | some p =>
      cases e2 : toPys ds with
      | none => rw [e1, e2] at h; cases h
      | some ps' =>
        rw [e1, e2] at h
        cases h
        exact .cons (toPy_dp e1 r1) (toPys_dp e2 r2)
end
/-- it may be compared -/
def okPy (d : DV) : Bool := match toPy d with
  | some p => SeqAt.shaped p
  | none => false
mutual
def dvEq : DV → DV → Bool
  | .non, .non => true
  | .bl a, .bl b => a == b
  | .bl a, .int j => (if a then 1 else 0) == j
  | .int i, .bl b => i == (if b then 1 else 0)
  | .int i, .int j => i == j
  | .str x, .str y => x == y
  | .tup xs, .tup ys => dvEqs xs ys
  | .rol xs, .rol ys => dvEqs xs ys
  | _, _ => false
def dvEqs : List DV → List DV → Bool
  | [], [] => true
  | x :: xs, y :: ys => dvEq x y && dvEqs xs ys
  | _, _ => false
end
mutual
theorem eqv_dv : ∀ {x y : DV} {p q : PyData}, toPy x = some p → toPy y = some q → PyData.eqv p q = dvEq x y
  | .ref _, _, _, _, h, _ => by simp [toPy] at h
  | .ty _, _, _, _, h, _ => by simp [toPy] at h
  | .non, y, _, _, h, h' => by
    simp only [toPy, Option.some.injEq] at h; subst h
    cases y <;> simp only [toPy, Option.some.injEq, Option.map_eq_some_iff, reduceCtorEq] at h' <;> first | (subst h'; rfl) | (obtain ⟨_, _, rfl⟩ := h'; rfl) | cases h'
  | .bl b, y, _, _, h, h' => by
    simp only [toPy, Option.some.injEq] at h; subst h
    cases y <;> simp only [toPy, Option.some.injEq, Option.map_eq_some_iff, reduceCtorEq] at h' <;> first | (subst h'; rfl) | (obtain ⟨_, _, rfl⟩ := h'; rfl) | cases h'
  | .int b, y, _, _, h, h' => by
    simp only [toPy, Option.some.injEq] at h; subst h
    cases y <;> simp only [toPy, Option.some.injEq, Option.map_eq_some_iff, reduceCtorEq] at h' <;> first | (subst h'; rfl) | (obtain ⟨_, _, rfl⟩ := h'; rfl) | cases h'
  | .str b, y, _, _, h, h' => by
    simp only [toPy, Option.some.injEq] at h; subst h
    cases y <;> simp only [toPy, Option.some.injEq, Option.map_eq_some_iff, reduceCtorEq] at h' <;> first | (subst h'; rfl) | (obtain ⟨_, _, rfl⟩ := h'; rfl) | cases h'
  | .tup xs, y, _, _, h, h' => by
    simp only [toPy, Option.map_eq_some_iff] at h
    obtain ⟨ps, e, rfl⟩ := h
    cases y <;> simp only [toPy, Option.some.injEq, Option.map_eq_some_iff, reduceCtorEq] at h'
    case tup ys => obtain ⟨qs, e2, rfl⟩ := h'; simp only [PyData.eqv, dvEq]; exact eqv_dvs e e2
    case rol ys => obtain ⟨qs, e2, rfl⟩ := h'; rfl
    all_goals first | (subst h'; rfl) | cases h'
  | .rol xs, y, _, _, h, h' => by
    simp only [toPy, Option.map_eq_some_iff] at h
    obtain ⟨ps, e, rfl⟩ := h
    cases y <;> simp only [toPy, Option.some.injEq, Option.map_eq_some_iff, reduceCtorEq] at h'
    case tup ys => obtain ⟨qs, e2, rfl⟩ := h'; rfl
    case rol ys => obtain ⟨qs, e2, rfl⟩ := h'; simp only [PyData.eqv, dvEq]; exact eqv_dvs e e2
    all_goals first | (subst h'; rfl) | cases h'
theorem eqv_dvs : ∀ {xs ys : List DV} {ps qs : List PyData}, toPys xs = some ps → toPys ys = some qs → PyData.eqvAll ps qs = dvEqs xs ys
  | [], ys, _, _, h, h' => by
    simp only [toPys, Option.some.injEq] at h; subst h
    cases ys with
    | nil => simp only [toPys, Option.some.injEq] at h'; subst h'; rfl
    | cons y ys =>
      simp only [toPys] at h'
      cases e1 : toPy y <;> cases e2 : toPys ys <;> rw [e1, e2] at h' <;> cases h'
      rfl
  | x :: xs, ys, _, _, h, h' => by
    simp only [toPys] at h
    cases e1 : toPy x <;> cases e2 : toPys xs <;> rw [e1, e2] at h <;> cases h
    cases ys with
    | nil => simp only [toPys, Option.some.injEq] at h'; subst h'; rfl
    | cons y ys =>
      simp only [toPys] at h'
      cases e3 : toPy y <;> cases e4 : toPys ys <;> rw [e3, e4] at h' <;> cases h'
      simp only [PyData.eqvAll, dvEqs]
      rw [eqv_dv e1 e3, eqv_dvs e2 e4]
end

/-! ### operators over data -/
abbrev FO := DV → DV → Sto → QV → Prop
def OpD (K : PySem.W.Frag) (r : R2) (f : FO) : Prop :=
  ∀ (x y : DV) (S : Sto) (v u : V) (H : Hp) (Q1 : QV) (Q : VK), f x y S Q1 → Conc K S H → Rel K H x v → Rel K H y u → PostV K H Q1 Q → r v u H Q

@[simp] def fAdd : FO := fun x y S Q => match x, y with
  | .int i, .int j => Q (.int (i + j)) S
  | .str a, .str b => a.length + b.length ≤ sizeLine ∧ Q (.str (a ++ b)) S
  | .tup a, .tup b => a.length + b.length ≤ sizeLine ∧ Q (.tup (a ++ b)) S
  | .ref a, .ref b => (match S a, S b with
    | some (.lst xs), some (.lst ys) => xs.length + ys.length ≤ sizeLine ∧ ∀ p, S p = none → Q (.ref p) (S.upd p (.lst (xs ++ ys)))
    | _, _ => False)
  | _, _ => False
@[simp] def fSub : FO := fun x y S Q => match x, y with
  | .int i, .int j => Q (.int (i - j)) S
  | _, _ => False
@[simp] def fMul : FO := fun x y S Q => match x, y with
  | .int i, .int j => ((-(2 ^ 64) < i ∧ i < 2 ^ 64) ∨ (-(2 ^ 64) < j ∧ j < 2 ^ 64)) ∧ Q (.int (i * j)) S
  | .ref a, .int k => (match S a with
    | some (.lst xs) => -(2 ^ 63) ≤ k ∧ k < 2 ^ 63 ∧ xs.length * k.toNat ≤ sizeLine ∧ ∀ p, S p = none → Q (.ref p) (S.upd p (.lst (List.replicate k.toNat xs).flatten))
    | _ => False)
  | .tup xs, .int k => xs ≠ [] ∧ 2 ≤ k ∧ k ≤ 1000 ∧ xs.length ≤ 1000 ∧ Q (.tup (List.replicate k.toNat xs).flatten) S
  | _, _ => False
@[simp] def fMod : FO := fun x y S Q => match x, y with
  | .int i, .int j => 0 < j ∧ Q (.int (i % j)) S
  | _, _ => False
@[simp] def fDiv : FO := fun x y S Q => match x, y with
  | .int i, .int j => (0 < j ∧ j < 1073741824) ∧ Q (.int (i / j)) S
  | _, _ => False
@[simp] def fPow : FO := fun x y S Q => match x, y with
  | .int i, .int j => (0 ≤ j ∧ j ≤ 1000000 ∧ i.natAbs < 2 ^ 64) ∧ Q (.int (i ^ j.toNat)) S
  | _, _ => False

@[simp] def dvEqQ (x y : DV) : Option Bool := match x, y with
  | .int i, .int j => some (decide (i = j))
  | .str a, .str b => some (decide (a = b))
  | .bl a, .bl b => some (decide (a = b))
  | .non, .non => some true
  | x, y => if okPy x && okPy y then some (dvEq x y) else none
@[simp] def fEq : FO := fun x y S Q => match dvEqQ x y with
  | some b => Q (.bl b) S
  | none => False
@[simp] def fNe : FO := fun x y S Q => match dvEqQ x y with
  | some b => Q (.bl (!b)) S
  | none => False
@[simp] def fLt : FO := fun x y S Q => match x, y with
  | .int i, .int j => Q (.bl (decide (i < j))) S
  | .str a, .str b => Q (.bl (decide (a.cps.toList < b.cps.toList))) S
  | _, _ => False
@[simp] def fLe : FO := fun x y S Q => match x, y with
  | .int i, .int j => Q (.bl (decide (i ≤ j))) S
  | .str a, .str b => Q (.bl (!decide (b.cps.toList < a.cps.toList))) S
  | _, _ => False
@[simp] def fGt : FO := fun x y S Q => match x, y with
  | .int i, .int j => Q (.bl (decide (j < i))) S
  | .str a, .str b => Q (.bl (decide (b.cps.toList < a.cps.toList))) S
  | _, _ => False
@[simp] def fGe : FO := fun x y S Q => match x, y with
  | .int i, .int j => Q (.bl (decide (j ≤ i))) S
  | .str a, .str b => Q (.bl (!decide (a.cps.toList < b.cps.toList))) S
  | _, _ => False
def isNon : DV → Bool
  | .non => true
  | _ => false
@[simp] def fIs : FO := fun x y S Q => match y with
  | .non => Q (.bl (isNon x)) S
  | .bl b => (match x with
    | .bl a => Q (.bl (decide (a = b))) S
    | _ => False)
  | _ => False
@[simp] def fIsNot : FO := fun x y S Q => match y with
  | .non => Q (.bl (!isNon x)) S
  | .bl b => (match x with
    | .bl a => Q (.bl (!decide (a = b))) S
    | _ => False)
  | _ => False

@[simp] def flatD : DV → Bool
  | .non => true
  | .bl _ => true
  | .int _ => true
  | .str _ => true
  | _ => false
@[simp] def inFlat (x : DV) (ds : List DV) : Option Bool := if flatD x && ds.all flatD then some (ds.any fun d => dvEq d x) else none
def inDeep (x : DV) (ds : List DV) : Option Bool := if okPy x && okPy (.rol ds) then some (ds.any fun d => dvEq d x) else none
def inStr (x : DV) (z : Str) : Option Bool := match x with
  | .str s => (match s.cps.toList with
    | [c] => some (decide (c ∈ z.cps.toList))
    | _ => none)
  | _ => none
@[simp] def dvIn (x y : DV) (S : Sto) : Option Bool := match y with
  | .tup ds => inFlat x ds
  | .str z => inStr x z
  | .ref a => (match S a with
    | some (.lst ds) => (inFlat x ds).or (inDeep x ds)
    | _ => none)
  | _ => none
@[simp] def fIn : FO := fun x y S Q => match dvIn x y S with
  | some b => Q (.bl b) S
  | none => False
@[simp] def fNotIn : FO := fun x y S Q => match dvIn x y S with
  | some b => Q (.bl (!b)) S
  | none => False

section
variable {K : PySem.W.Frag} {H : Hp} {S : Sto}
theorem PostV.new {p : Addr} {mo : MO} {ho : HO} {Q1 : QV} {Q : VK} (P : PostV K H Q1 Q) (c : Conc K S H) (hp : H p = none) (r : MOk K (upd H p ho) p mo) (q : ∀ p, S p = none → Q1 (.ref p) (S.upd p mo)) : Q (.ref p) (upd H p ho) :=
  P (.ref p) _ (.ref p) _ (q p (c.free hp)) (TLe.new hp) (c.new hp r) rfl
theorem PostV.newL {p : Addr} {ds : List DV} {vs : List V} {Q1 : QV} {Q : VK} (P : PostV K H Q1 Q) (c : Conc K S H) (hp : H p = none) (r : Rels K H ds vs) (q : ∀ p, S p = none → Q1 (.ref p) (S.upd p (.lst ds))) : Q (.ref p) (upd H p (.lst vs)) :=
  P.new (mo := .lst ds) c hp ⟨_, upd_same, r.mono (TLe.new hp)⟩ q
theorem PostV.same {d : DV} {v : V} {Q1 : QV} {Q : VK} (P : PostV K H Q1 Q) (c : Conc K S H) (r : Rel K H d v) (q : Q1 d S) : Q v H := P _ _ _ _ q (TLe.refl _) c r
theorem PostV.newT {p : Addr} {ds : List DV} {vs : List V} {Q1 : QV} {Q : VK} (P : PostV K H Q1 Q) (c : Conc K S H) (hp : H p = none) (r : Rels K H ds vs) (q : Q1 (.tup ds) S) : Q (.ref p) (upd H p (.tup vs)) :=
  P (.tup ds) _ (.ref p) _ q (TLe.new hp) (c.lay hp) ⟨p, vs, rfl, SqT.of upd_same, r.mono (TLe.new hp)⟩
theorem Rels.replicate {ds : List DV} {vs : List V} (r : Rels K H ds vs) : ∀ n : Nat, Rels K H (List.replicate n ds).flatten (List.replicate n vs).flatten
  | 0 => .nil
  | n + 1 => by
    simp only [List.replicate_succ, List.flatten_cons]
    exact r.append (Rels.replicate r n)
theorem rel_flat {d : DV} {v : V} (f : flatD d = true) (r : Rel K H d v) : flatV v = true := by
  cases d <;> first | (cases (show _ = _ from r); rfl) | cases f
theorem rel_eqV {d e : DV} {v u : V} (f : flatD d = true) (g : flatD e = true) (r : Rel K H d v) (q : Rel K H e u) : eqV v u = dvEq d e := by
  cases d <;> (try cases f) <;> cases e <;> (try cases g) <;> cases (show _ = _ from r) <;> cases (show _ = _ from q) <;> simp [eqV, dvEq]
theorem rels_flat : ∀ {ds : List DV} {vs : List V}, ds.all flatD = true → Rels K H ds vs → vs.all flatV = true
  | [], _, _, r => by cases (show _ = _ from r); rfl
  | d :: ds, _, f, r => by
    obtain ⟨v, q, rfl, r1, r2⟩ := r
    simp only [List.all_cons, Bool.and_eq_true] at f ⊢
    exact ⟨rel_flat f.1 r1, rels_flat f.2 r2⟩
theorem rels_inV {x : DV} {v : V} (g : flatD x = true) (r : Rel K H x v) : ∀ {ds : List DV} {vs : List V}, ds.all flatD = true → Rels K H ds vs → inV v vs = ds.any fun d => dvEq d x
  | [], _, _, q => by cases (show _ = _ from q); rfl
  | d :: ds, _, f, q => by
    obtain ⟨u, us, rfl, r1, r2⟩ := q
    simp only [List.all_cons, Bool.and_eq_true] at f
    have ih := rels_inV g r f.2 r2
    unfold inV at ih ⊢
    simp only [List.any_cons]
    rw [ih, rel_eqV f.1 g r1 r]
theorem okPy_some {d : DV} (h : okPy d = true) : ∃ p, toPy d = some p ∧ SeqAt.shaped p = true := by
  unfold okPy at h
  cases e : toPy d with
  | none => rw [e] at h; cases h
  | some p => rw [e] at h; exact ⟨p, rfl, h⟩
theorem toPys_any {x : DV} {p : PyData} (h : toPy x = some p) : ∀ {ds : List DV} {ps : List PyData}, toPys ds = some ps → (ps.any fun z => PyData.eqv z p) = ds.any fun d => dvEq d x
  | [], _, e => by simp only [toPys, Option.some.injEq] at e; subst e; rfl
  | d :: ds, _, e => by
    simp only [toPys] at e
    cases e1 : toPy d <;> cases e2 : toPys ds <;> rw [e1, e2] at e <;> cases e
    simp only [List.any_cons]
    rw [toPys_any h e2, eqv_dv e1 h]

def rAddD (K : PySem.W.Frag) : R2 := fun x y H Q => rI0 (fun i j => .int (i + j)) x y H Q ∨ ((fun x y H Q => ∃ i j, x = V.str i ∧ y = V.str j ∧ i.length + j.length ≤ sizeLine ∧ Q (.str (i ++ j)) H : R2) x y H Q ∨ (rCatA K x y H Q ∨ rCat x y H Q))
theorem op_addD {X : Cx} : OpR X (binaryOp .Add) (rAddD X.K) := op_add.or (op_add_str.or (op_catA.or op_cat))
theorem od_add : OpD K (rAddD K) fAdd := by
  intro x y S v u H Q1 Q h c r1 r2 P
  unfold fAdd at h
  split at h
  · cases (show _ = _ from r1); cases (show _ = _ from r2)
    exact .inl ⟨_, _, rfl, rfl, P.same c (show Rel K H (.int _) (.int _) from rfl) h⟩
  · cases (show _ = _ from r1); cases (show _ = _ from r2)
    exact .inr (.inl ⟨_, _, rfl, rfl, h.1, P.same c (show Rel K H (.str _) (.str _) from rfl) h.2⟩)
  · obtain ⟨a, vs, rfl, q1, s1⟩ := r1
    obtain ⟨b, us, rfl, q2, s2⟩ := r2
    refine .inr (.inr (.inl ⟨a, b, vs, us, rfl, rfl, q1, q2, by rw [s1.length, s2.length]; exact h.1, fun e => ?_, fun n e => ?_, fun n1 n2 p hp => ?_⟩))
    · subst e
      have e := s1.length
      have e2 := List.eq_nil_of_length_eq_zero e.symm
      subst e2
      exact P.same c (show Rel K H (.tup _) _ from ⟨b, us, rfl, q2, s2⟩) h.2
    · subst e
      have e := s2.length
      have e2 := List.eq_nil_of_length_eq_zero e.symm
      subst e2
      refine P.same c (show Rel K H (.tup _) _ from ⟨a, vs, rfl, q1, s1⟩) ?_
      have z := h.2
      rw [List.append_nil] at z
      exact z
    · exact P.newT c hp (s1.append s2) h.2
  · cases (show _ = _ from r1); cases (show _ = _ from r2)
    split at h
    · rename_i h1 h2
      obtain ⟨vs, e1, s1⟩ := c.lst h1
      obtain ⟨us, e2, s2⟩ := c.lst h2
      refine .inr (.inr (.inr ⟨_, _, vs, us, rfl, rfl, e1, e2, by rw [s1.length, s2.length]; exact h.1, fun p hp => ?_⟩))
      exact P.newL c hp (s1.append s2) h.2
    · exact h.elim
  · exact h.elim
theorem od_sub : OpD K (rI0 fun i j => .int (i - j)) fSub := by
  intro x y S v u H Q1 Q h c r1 r2 P
  unfold fSub at h
  split at h
  · cases (show _ = _ from r1); cases (show _ = _ from r2)
    exact ⟨_, _, rfl, rfl, P.same c (show Rel K H (.int _) (.int _) from rfl) h⟩
  · exact h.elim
def rMulD (K : PySem.W.Frag) : R2 := fun x y H Q => rI CMul (fun i j => .int (i * j)) x y H Q ∨ (rRep x y H Q ∨ rRepT K x y H Q)
theorem op_mulD {X : Cx} : OpR X (binaryOp .Mult) (rMulD X.K) := op_mul.or (op_rep.or op_repT)
theorem od_mul : OpD K (rMulD K) fMul := by
  intro x y S v u H Q1 Q h c r1 r2 P
  unfold fMul at h
  split at h
  · cases (show _ = _ from r1); cases (show _ = _ from r2)
    exact .inl ⟨_, _, rfl, rfl, h.1, P.same c (show Rel K H (.int _) (.int _) from rfl) h.2⟩
  · cases (show _ = _ from r1); cases (show _ = _ from r2)
    split at h
    · rename_i h1
      obtain ⟨vs, e1, s1⟩ := c.lst h1
      refine .inr (.inl ⟨_, _, vs, rfl, rfl, e1, h.1, h.2.1, by rw [s1.length]; exact h.2.2.1, fun p hp => ?_⟩)
      exact P.newL c hp (Rels.replicate s1 _) h.2.2.2
    · exact h.elim
  · obtain ⟨a, vs, rfl, q1, s1⟩ := r1
    cases (show _ = _ from r2)
    refine .inr (.inr ⟨a, _, vs, rfl, rfl, q1, ?_, h.2.1, h.2.2.1, by rw [s1.length]; exact h.2.2.2.1, fun p hp => P.newT c hp (Rels.replicate s1 _) h.2.2.2.2⟩)
    intro e; subst e
    exact h.1 (List.eq_nil_of_length_eq_zero s1.length.symm)
  · exact h.elim
theorem od_mod : OpD K (rI (fun _ j => 0 < j) fun i j => .int (i % j)) fMod := by
  intro x y S v u H Q1 Q h c r1 r2 P
  unfold fMod at h
  split at h
  · cases (show _ = _ from r1); cases (show _ = _ from r2)
    exact ⟨_, _, rfl, rfl, h.1, P.same c (show Rel K H (.int _) (.int _) from rfl) h.2⟩
  · exact h.elim
theorem od_div : OpD K (rI CDiv fun i j => .int (i / j)) fDiv := by
  intro x y S v u H Q1 Q h c r1 r2 P
  unfold fDiv at h
  split at h
  · cases (show _ = _ from r1); cases (show _ = _ from r2)
    exact ⟨_, _, rfl, rfl, h.1, P.same c (show Rel K H (.int _) (.int _) from rfl) h.2⟩
  · exact h.elim
theorem od_pow : OpD K (rI CPow fun i j => .int (i ^ j.toNat)) fPow := by
  intro x y S v u H Q1 Q h c r1 r2 P
  unfold fPow at h
  split at h
  · cases (show _ = _ from r1); cases (show _ = _ from r2)
    exact ⟨_, _, rfl, rfl, h.1, P.same c (show Rel K H (.int _) (.int _) from rfl) h.2⟩
  · exact h.elim
theorem eqQ_cases {x y : DV} {b : Bool} (h : dvEqQ x y = some b) : (∃ i j, x = .int i ∧ y = .int j ∧ b = decide (i = j)) ∨ (∃ i j, x = .str i ∧ y = .str j ∧ b = decide (i = j)) ∨ (∃ i j, x = .bl i ∧ y = .bl j ∧ b = decide (i = j)) ∨
    (x = .non ∧ y = .non ∧ b = true) ∨ (okPy x = true ∧ okPy y = true ∧ b = dvEq x y) := by
  unfold dvEqQ at h
  split at h
  · exact .inl ⟨_, _, rfl, rfl, (Option.some.inj h).symm⟩
  · exact .inr (.inl ⟨_, _, rfl, rfl, (Option.some.inj h).symm⟩)
  · exact .inr (.inr (.inl ⟨_, _, rfl, rfl, (Option.some.inj h).symm⟩))
  · exact .inr (.inr (.inr (.inl ⟨rfl, rfl, (Option.some.inj h).symm⟩)))
  · split at h
    · rename_i e
      rw [Bool.and_eq_true] at e
      exact .inr (.inr (.inr (.inr ⟨e.1, e.2, (Option.some.inj h).symm⟩)))
    · cases h
def rEqA (K : PySem.W.Frag) : R2 := fun x y H Q => rEq x y H Q ∨ rEqD K x y H Q
def rNeA (K : PySem.W.Frag) : R2 := fun x y H Q => rNe x y H Q ∨ rNeD K x y H Q
theorem op_eqA {X : Cx} (hu : X.A.units + 64 < cLine) : OpR X (compareOp .Eq) (rEqA X.K) := op_eq.or (op_eqD hu)
theorem op_neA {X : Cx} (hu : X.A.units + 64 < cLine) : OpR X (compareOp .NotEq) (rNeA X.K) := op_ne.or (op_neD hu)
theorem od_eq : OpD K (rEqA K) fEq := by
  intro x y S v u H Q1 Q h c r1 r2 P
  unfold fEq at h
  split at h
  · rename_i b e
    rcases eqQ_cases e with ⟨i, j, rfl, rfl, rfl⟩ | ⟨i, j, rfl, rfl, rfl⟩ | ⟨i, j, rfl, rfl, rfl⟩ | ⟨rfl, rfl, rfl⟩ | ⟨o1, o2, rfl⟩
    · cases (show _ = _ from r1); cases (show _ = _ from r2)
      refine .inl ⟨rfl, ?_⟩
      rw [dec_int, Bool.beq_eq_decide_eq]
      exact P.same c (show Rel K H (.bl _) (.bl _) from rfl) h
    · cases (show _ = _ from r1); cases (show _ = _ from r2)
      refine .inl ⟨rfl, ?_⟩
      rw [dec_str, Bool.beq_eq_decide_eq]
      exact P.same c (show Rel K H (.bl _) (.bl _) from rfl) h
    · cases (show _ = _ from r1); cases (show _ = _ from r2)
      refine .inl ⟨rfl, ?_⟩
      rw [dec_bl, Bool.beq_eq_decide_eq]
      exact P.same c (show Rel K H (.bl _) (.bl _) from rfl) h
    · cases (show _ = _ from r1); cases (show _ = _ from r2)
      exact .inr ⟨.none, .none, .non, .non, rfl, rfl, P.same c (show Rel K H (.bl _) (.bl _) from rfl) h⟩
    · obtain ⟨p, e1, s1⟩ := okPy_some o1
      obtain ⟨q, e2, s2⟩ := okPy_some o2
      refine .inr ⟨p, q, toPy_dp e1 r1, toPy_dp e2 r2, s1, s2, ?_⟩
      rw [eqv_dv e1 e2]
      exact P.same c (show Rel K H (.bl _) (.bl _) from rfl) h
  · exact h.elim
theorem od_ne : OpD K (rNeA K) fNe := by
  intro x y S v u H Q1 Q h c r1 r2 P
  unfold fNe at h
  split at h
  · rename_i b e
    rcases eqQ_cases e with ⟨i, j, rfl, rfl, rfl⟩ | ⟨i, j, rfl, rfl, rfl⟩ | ⟨i, j, rfl, rfl, rfl⟩ | ⟨rfl, rfl, rfl⟩ | ⟨o1, o2, rfl⟩
    · cases (show _ = _ from r1); cases (show _ = _ from r2)
      refine .inl ⟨rfl, ?_⟩
      rw [dec_int, Bool.beq_eq_decide_eq]
      exact P.same c (show Rel K H (.bl _) (.bl _) from rfl) h
    · cases (show _ = _ from r1); cases (show _ = _ from r2)
      refine .inl ⟨rfl, ?_⟩
      rw [dec_str, Bool.beq_eq_decide_eq]
      exact P.same c (show Rel K H (.bl _) (.bl _) from rfl) h
    · cases (show _ = _ from r1); cases (show _ = _ from r2)
      refine .inl ⟨rfl, ?_⟩
      rw [dec_bl, Bool.beq_eq_decide_eq]
      exact P.same c (show Rel K H (.bl _) (.bl _) from rfl) h
    · cases (show _ = _ from r1); cases (show _ = _ from r2)
      exact .inr ⟨.none, .none, .non, .non, rfl, rfl, P.same c (show Rel K H (.bl _) (.bl _) from rfl) h⟩
    · obtain ⟨p, e1, s1⟩ := okPy_some o1
      obtain ⟨q, e2, s2⟩ := okPy_some o2
      refine .inr ⟨p, q, toPy_dp e1 r1, toPy_dp e2 r2, s1, s2, ?_⟩
      rw [eqv_dv e1 e2]
      exact P.same c (show Rel K H (.bl _) (.bl _) from rfl) h
  · exact h.elim
def rCmpD (p : Int → Int → Bool) (q : Str → Str → Bool) : R2 := fun x y H Q => rI0 (fun i j => .bl (p i j)) x y H Q ∨ ∃ i j, x = V.str i ∧ y = V.str j ∧ Q (.bl (q i j)) H
theorem od_lt : OpD K (rCmpD (fun i j => decide (i < j)) fun i j => decide (i.cps.toList < j.cps.toList)) fLt := by
  intro x y S v u H Q1 Q h c r1 r2 P
  unfold fLt at h
  split at h
  · cases (show _ = _ from r1); cases (show _ = _ from r2)
    exact .inl ⟨_, _, rfl, rfl, P.same c (show Rel K H (.bl _) (.bl _) from rfl) h⟩
  · cases (show _ = _ from r1); cases (show _ = _ from r2)
    exact .inr ⟨_, _, rfl, rfl, P.same c (show Rel K H (.bl _) (.bl _) from rfl) h⟩
  · exact h.elim
theorem od_le : OpD K (rCmpD (fun i j => decide (i ≤ j)) fun i j => !decide (j.cps.toList < i.cps.toList)) fLe := by
  intro x y S v u H Q1 Q h c r1 r2 P
  unfold fLe at h
  split at h
  · cases (show _ = _ from r1); cases (show _ = _ from r2)
    exact .inl ⟨_, _, rfl, rfl, P.same c (show Rel K H (.bl _) (.bl _) from rfl) h⟩
  · cases (show _ = _ from r1); cases (show _ = _ from r2)
    exact .inr ⟨_, _, rfl, rfl, P.same c (show Rel K H (.bl _) (.bl _) from rfl) h⟩
  · exact h.elim
theorem od_gt : OpD K (rCmpD (fun i j => decide (j < i)) fun i j => decide (j.cps.toList < i.cps.toList)) fGt := by
  intro x y S v u H Q1 Q h c r1 r2 P
  unfold fGt at h
  split at h
  · cases (show _ = _ from r1); cases (show _ = _ from r2)
    exact .inl ⟨_, _, rfl, rfl, P.same c (show Rel K H (.bl _) (.bl _) from rfl) h⟩
  · cases (show _ = _ from r1); cases (show _ = _ from r2)
    exact .inr ⟨_, _, rfl, rfl, P.same c (show Rel K H (.bl _) (.bl _) from rfl) h⟩
  · exact h.elim
theorem od_ge : OpD K (rCmpD (fun i j => decide (j ≤ i)) fun i j => !decide (i.cps.toList < j.cps.toList)) fGe := by
  intro x y S v u H Q1 Q h c r1 r2 P
  unfold fGe at h
  split at h
  · cases (show _ = _ from r1); cases (show _ = _ from r2)
    exact .inl ⟨_, _, rfl, rfl, P.same c (show Rel K H (.bl _) (.bl _) from rfl) h⟩
  · cases (show _ = _ from r1); cases (show _ = _ from r2)
    exact .inr ⟨_, _, rfl, rfl, P.same c (show Rel K H (.bl _) (.bl _) from rfl) h⟩
  · exact h.elim
theorem op_ltD {X : Cx} : OpR X (compareOp .Lt) (rCmpD (fun i j => decide (i < j)) fun i j => decide (i.cps.toList < j.cps.toList)) := op_lt.or op_lt_str
theorem op_leD {X : Cx} : OpR X (compareOp .LtE) (rCmpD (fun i j => decide (i ≤ j)) fun i j => !decide (j.cps.toList < i.cps.toList)) := op_le.or op_le_str
theorem op_gtD {X : Cx} : OpR X (compareOp .Gt) (rCmpD (fun i j => decide (j < i)) fun i j => decide (j.cps.toList < i.cps.toList)) := op_gt.or op_gt_str
theorem op_geD {X : Cx} : OpR X (compareOp .GtE) (rCmpD (fun i j => decide (j ≤ i)) fun i j => !decide (i.cps.toList < j.cps.toList)) := op_ge.or op_ge_str
theorem rel_non {d : DV} {v : V} (r : Rel K H d v) : decide (v = .non) = isNon d := by
  cases d with
  | tup ds => obtain ⟨a, vs, rfl, _⟩ := r; simp [isNon]
  | rol ds => obtain ⟨a, vs, rfl, _⟩ := r; simp [isNon]
  | _ => cases (show _ = _ from r); simp [isNon]
def rIsA : R2 := fun x y H Q => (y = .non ∧ Q (.bl (decide (x = .non))) H) ∨ ∃ a b, x = .bl a ∧ y = .bl b ∧ Q (.bl (decide (a = b))) H
def rIsNotA : R2 := fun x y H Q => (y = .non ∧ Q (.bl (!decide (x = .non))) H) ∨ ∃ a b, x = .bl a ∧ y = .bl b ∧ Q (.bl (!decide (a = b))) H
theorem op_isA {X : Cx} : OpR X (compareOp .Is) rIsA := op_isN.or op_is_bl
theorem op_isNotA {X : Cx} : OpR X (compareOp .IsNot) rIsNotA := op_notN.or op_isnot_bl
theorem od_is : OpD K rIsA fIs := by
  intro x y S v u H Q1 Q h c r1 r2 P
  unfold fIs at h
  split at h
  · cases (show _ = _ from r2)
    refine .inl ⟨rfl, ?_⟩
    rw [rel_non r1]
    exact P.same c (show Rel K H (.bl _) (.bl _) from rfl) h
  · split at h
    · cases (show _ = _ from r1); cases (show _ = _ from r2)
      exact .inr ⟨_, _, rfl, rfl, P.same c (show Rel K H (.bl _) (.bl _) from rfl) h⟩
    · exact h.elim
  · exact h.elim
theorem od_isnot : OpD K rIsNotA fIsNot := by
  intro x y S v u H Q1 Q h c r1 r2 P
  unfold fIsNot at h
  split at h
  · cases (show _ = _ from r2)
    refine .inl ⟨rfl, ?_⟩
    rw [rel_non r1]
    exact P.same c (show Rel K H (.bl _) (.bl _) from rfl) h
  · split at h
    · cases (show _ = _ from r1); cases (show _ = _ from r2)
      exact .inr ⟨_, _, rfl, rfl, P.same c (show Rel K H (.bl _) (.bl _) from rfl) h⟩
    · exact h.elim
  · exact h.elim
def rInA (K : PySem.W.Frag) : R2 := fun x y H Q => rIn K false x y H Q ∨ (rInD K x y H Q ∨ ∃ (c : Nat) (z : Str), x = .str ⟨#[c]⟩ ∧ y = .str z ∧ Q (.bl (decide (c ∈ z.cps.toList))) H)
def rNotInA (K : PySem.W.Frag) : R2 := fun x y H Q => rIn K true x y H Q ∨ (rNotInD K x y H Q ∨ ∃ (c : Nat) (z : Str), x = .str ⟨#[c]⟩ ∧ y = .str z ∧ Q (.bl (!decide (c ∈ z.cps.toList))) H)
theorem op_inA {X : Cx} (hu : X.A.units + 65 < cLine) : OpR X (compareOp .In) (rInA X.K) := op_in_seq.or ((op_inD hu).or op_in_sign)
theorem op_notInA {X : Cx} (hu : X.A.units + 65 < cLine) : OpR X (compareOp .NotIn) (rNotInA X.K) := op_notIn_seq.or ((op_notInD hu).or op_notIn_sign)
theorem inFlat_some {x : DV} {ds : List DV} {b : Bool} (h : inFlat x ds = some b) : flatD x = true ∧ ds.all flatD = true ∧ b = ds.any fun d => dvEq d x := by
  unfold inFlat at h
  split at h
  · rename_i e
    rw [Bool.and_eq_true] at e
    exact ⟨e.1, e.2, (Option.some.inj h).symm⟩
  · cases h
theorem inDeep_some {x : DV} {ds : List DV} {b : Bool} (h : inDeep x ds = some b) : okPy x = true ∧ okPy (.rol ds) = true ∧ b = ds.any fun d => dvEq d x := by
  unfold inDeep at h
  split at h
  · rename_i e
    rw [Bool.and_eq_true] at e
    exact ⟨e.1, e.2, (Option.some.inj h).symm⟩
  · cases h
theorem str_one {s : Str} {k : Nat} (h : s.cps.toList = [k]) : s = ⟨#[k]⟩ := by
  obtain ⟨cp⟩ := s
  have z : cp.toList = [k] := h
  have : cp = #[k] := by rw [← Array.toArray_toList (xs := cp), z]
  rw [this]
theorem in_lists {x y : DV} {b : Bool} {v u : V} (e : dvIn x y S = some b) (c : Conc K S H) (r1 : Rel K H x v) (r2 : Rel K H y u) :
    (∃ p xs, u = .ref p ∧ (SqL K H p xs ∨ SqT K H p xs) ∧ flatV v = true ∧ xs.all flatV = true ∧ inV v xs = b) ∨
    (∃ d ds, Dp K H v d ∧ Dp K H u (.list ds) ∧ SeqAt.shaped d = true ∧ SeqAt.shaped (.list ds) = true ∧ (ds.any fun z => PyData.eqv z d) = b) ∨
    ∃ (c : Nat) (z : Str), v = .str ⟨#[c]⟩ ∧ u = .str z ∧ decide (c ∈ z.cps.toList) = b := by
  unfold dvIn at e
  split at e
  · obtain ⟨a, vs, rfl, q, s⟩ := r2
    obtain ⟨f1, f2, rfl⟩ := inFlat_some e
    exact .inl ⟨a, vs, rfl, .inr q, rel_flat f1 r1, rels_flat f2 s, rels_inV f1 r1 f2 s⟩
  · cases (show _ = _ from r2)
    unfold inStr at e
    split at e
    · cases (show _ = _ from r1)
      split at e
      · rename_i sc k hk
        refine .inr (.inr ⟨k, _, ?_, rfl, Option.some.inj e⟩)
        exact congrArg V.str (str_one hk)
      · cases e
    · cases e
  · cases (show _ = _ from r2)
    split at e
    · rename_i h1
      obtain ⟨vs, e1, s⟩ := c.lst h1
      rw [Option.or_eq_some_iff] at e
      rcases e with e | ⟨_, e⟩
      · obtain ⟨f1, f2, rfl⟩ := inFlat_some e
        exact .inl ⟨_, vs, rfl, .inl (SqL.of e1), rel_flat f1 r1, rels_flat f2 s, rels_inV f1 r1 f2 s⟩
      · obtain ⟨o1, o2, rfl⟩ := inDeep_some e
        obtain ⟨p, ep, sp⟩ := okPy_some o1
        obtain ⟨q, eq, sq⟩ := okPy_some o2
        simp only [toPy, Option.map_eq_some_iff] at eq
        obtain ⟨ps, eq, rfl⟩ := eq
        exact .inr (.inl ⟨p, ps, toPy_dp ep r1, .lst (SqL.of e1) (toPys_dp eq s), sp, sq, toPys_any ep eq⟩)
    · cases e
  · cases e
theorem od_in : OpD K (rInA K) fIn := by
  intro x y S v u H Q1 Q h c r1 r2 P
  unfold fIn at h
  split at h
  · rename_i b e
    have fin : Q (.bl b) H := P.same c (show Rel K H (.bl _) (.bl _) from rfl) h
    rcases in_lists e c r1 r2 with ⟨p, xs, h1, h2, h3, h4, h5⟩ | ⟨d, ds, h1, h2, h3, h4, h5⟩ | ⟨k, z, h1, h2, h3⟩
    · exact .inl ⟨p, xs, h1, h2, h3, h4, by rw [if_neg Bool.false_ne_true, h5]; exact fin⟩
    · exact .inr (.inl ⟨d, ds, h1, h2, h3, h4, by rw [h5]; exact fin⟩)
    · exact .inr (.inr ⟨k, z, h1, h2, by rw [h3]; exact fin⟩)
  · exact h.elim
theorem od_notin : OpD K (rNotInA K) fNotIn := by
  intro x y S v u H Q1 Q h c r1 r2 P
  unfold fNotIn at h
  split at h
  · rename_i b e
    have fin : Q (.bl (!b)) H := P.same c (show Rel K H (.bl _) (.bl _) from rfl) h
    rcases in_lists e c r1 r2 with ⟨p, xs, h1, h2, h3, h4, h5⟩ | ⟨d, ds, h1, h2, h3, h4, h5⟩ | ⟨k, z, h1, h2, h3⟩
    · exact .inl ⟨p, xs, h1, h2, h3, h4, by rw [if_pos rfl, h5]; exact fin⟩
    · exact .inr (.inl ⟨d, ds, h1, h2, h3, h4, by rw [h5]; exact fin⟩)
    · exact .inr (.inr ⟨k, z, h1, h2, by rw [h3]; exact fin⟩)
  · exact h.elim
end
end M
set_option maxHeartbeats 4000000
namespace M
open PySem PySem.Spec PyProof.Rows L2

/-! ### what is known of classes -/
structure Zt where
  kit : DV → DV → Option Bool
  cls : Addr → Bool
  fld : Addr → Str → Bool
def tyVal : DV → Value
  | .ty n => .type n
  | .ref C => .ref C
  | _ => .none
structure InsOk (K : PySem.W.Frag) (C : Addr) : Prop where
  cl : Cls K C
  ha : PySem.W.findIn K (.ref C) "__class__" = some (some (.builtin "object.__class__"))
  hn : PySem.W.specialIn K (.builtin "object.__class__") "__get__" = some (some (.builtin "getset_descriptor.__get__"))
  ht : PySem.W.takesIn K (.builtin "object.__class__") = some true
  hm : PySem.W.mroIn K C (.type "object") = some true
structure ZOk (K : PySem.W.Frag) (Z : Zt) : Prop where
  kit : ∀ t c b, Z.kit t c = some b → PySem.W.kitOne K (tyVal t) (tyVal c) = some b
  cls : ∀ C, Z.cls C = true → InsOk K C
  fld : ∀ C f, Z.fld C f = true → Cls K C ∧ NoAttr K C f

/-! ### names, constants -/
@[simp] def dVar (i : Nat) : DE := fun Γ S Q _ => match Γ[i]? with
  | some (some d) => Q d S
  | _ => False
@[simp] def dC (d : DV) : DE := fun _ S Q _ => Q d S
/-- not to be come to -/
def dNo : DE := fun _ _ _ _ => False
section
variable {X : Cx} {W : WX} {pos : Pos}
theorem je_var {i : Nat} {x : Str} (hN : X.N[i]? = some x) (hv : Vis X.env.scope x) (hd : (x == ("__debug__" : Str)) = false) (hcd : (x == ("__classdict__" : Str)) = false) : PE X (.Name x pos) (LE X.K W (dVar i)) := by
  refine PE.imp (pe_var hN hv hd hcd) fun σ H Q h => ?_
  obtain ⟨Γ, S, Q1, X1, e, c, h, P, PX⟩ := h
  unfold dVar at h
  split at h
  · rename_i d hd
    obtain ⟨v, hv, r⟩ := e.2 i d hd
    exact ⟨v, hv, P.same c r h⟩
  · exact h.elim
theorem je_of_tC {e : Expr} {d : DV} {v : V} (h : PE X e (tC v)) (r : ∀ H, Rel X.K H d v) : PE X e (LE X.K W (dC d)) := by
  refine PE.imp h fun σ H Q h => ?_
  obtain ⟨Γ, S, Q1, X1, e, c, h, P, PX⟩ := h
  exact P.same c (r H) h
theorem je_int {i : Int} {j : Nat} : PE X (.Constant (.int i) j pos) (LE X.K W (dC (.int i))) := je_of_tC pe_int fun _ => rfl
theorem je_bl {b : Bool} {j : Nat} : PE X (.Constant (.bool b) j pos) (LE X.K W (dC (.bl b))) := je_of_tC pe_bl fun _ => rfl
theorem je_non {j : Nat} : PE X (.Constant .none j pos) (LE X.K W (dC .non)) := je_of_tC pe_non fun _ => rfl
theorem je_str {x : Str} {j : Nat} : PE X (.Constant (.str x) j pos) (LE X.K W (dC (.str x))) := je_of_tC pe_str fun _ => rfl
end

/-! ### two in a row -/
@[simp] def dBin (f : FO) (da db : DE) : DE := fun Γ S Q X => da Γ S (fun x S1 => db Γ S1 (fun y S2 => f x y S2 Q) X) X
section
variable {X : Cx} {W : WX} {pos : Pos} {a b c : Expr} {da db dc : DE}
theorem bin_lift {r : R2} {f : FO} (hf : OpD X.K r f) {σ : L2.St} {H : Hp} {Q : VK} (h : LE X.K W (dBin f da db) σ H Q) : tOp r (LE X.K W da) (LE X.K W db) σ H Q := by
  obtain ⟨Γ, S, Q1, X1, e, c, h, P, PX⟩ := h
  refine ⟨Γ, S, _, X1, e, c, h, fun x S1 v H1 q t1 c1 r1 => ?_, PX⟩
  refine ⟨Γ, S1, _, X1, e.mono t1, c1, q, fun y S2 u H2 q2 t2 c2 r2 => ?_, PX.le t1⟩
  exact hf x y S2 v u H2 Q1 Q q2 c2 (r1.mono t2) r2 (P.le (t1.trans t2))
theorem je_bin {op : Operator} {r : R2} {f : FO} (ho : OpR X (binaryOp op) r) (hf : OpD X.K r f) (ha : PE X a (LE X.K W da)) (hb : PE X b (LE X.K W db)) : PE X (.BinOp a op b pos) (LE X.K W (dBin f da db)) :=
  PE.imp (pe_op ho ha hb) fun _ _ _ h => bin_lift hf h
theorem je_cmp {op : CmpOp} {r : R2} {f : FO} (ho : OpR X (compareOp op) r) (hf : OpD X.K r f) (ha : PE X a (LE X.K W da)) (hb : PE X b (LE X.K W db)) (hm : behindInMarks op b = false) : PE X (.Compare a [op] [b] pos) (LE X.K W (dBin f da db)) :=
  PE.imp (pe_cmpR ho ha hb hm) fun _ _ _ h => bin_lift hf h
theorem je_ix {r : R2} {f : FO} (ho : IxR X r) (hf : OpD X.K r f) (ha : PE X a (LE X.K W da)) (hb : PE X b (LE X.K W db)) (hs : PlainIx b) : PE X (.Subscript a b pos) (LE X.K W (dBin f da db)) :=
  PE.imp (pe_ix ho ha hb hs) fun _ _ _ h => bin_lift hf h
/-- a value that is True or False, as a test -/
@[simp] def dtV (d : DE) : DT := fun Γ S Q X => d Γ S (fun x S1 => match x with
  | .bl b => Q b S1
  | _ => False) X
theorem dtV_lift {d : DE} {σ : L2.St} {H : Hp} {Q : Bool → Hp → Prop} (h : LT X.K W (dtV d) σ H Q) : LE X.K W d σ H (fun x H' => ∃ k, x = .bl k ∧ Q k H') := by
  obtain ⟨Γ, S, Q1, X1, e, c, h, P, PX⟩ := h
  refine ⟨Γ, S, _, X1, e, c, h, fun x S1 v H1 q t1 c1 r1 => ?_, PX⟩
  cases x with
  | bl k => exact ⟨k, r1, P _ _ _ q t1 c1⟩
  | _ => exact q.elim
theorem jt_cmp {op : CmpOp} {r : R2} {f : FO} (ho : OpR X (compareOp op) r) (hf : OpD X.K r f) (ha : PE X a (LE X.K W da)) (hb : PE X b (LE X.K W db)) (hm : behindInMarks op b = false) : PT X (.Compare a [op] [b] pos) (LT X.K W (dtV (dBin f da db))) :=
  PT.imp (pt_cmpR ho ha hb hm) fun _ _ _ h => bin_lift hf (dtV_lift h)
def dChain (f g : FO) (da db dc : DE) : DE := fun Γ S Q X => da Γ S (fun x S1 => db Γ S1 (fun y S2 => f x y S2 fun z S3 => match z with
  | .bl true => dc Γ S3 (fun w S4 => g y w S4 Q) X
  | .bl false => Q (.bl false) S3
  | _ => False) X) X
theorem chain_lift {r r' : R2} {f g : FO} (hf : OpD X.K r f) (hg : OpD X.K r' g) {σ : L2.St} {H : Hp} {Q : VK} (h : LE X.K W (dChain f g da db dc) σ H Q) : tChain r r' (LE X.K W da) (LE X.K W db) (LE X.K W dc) σ H Q := by
  obtain ⟨Γ, S, Q1, X1, e, c, h, P, PX⟩ := h
  refine ⟨Γ, S, _, X1, e, c, h, fun x S1 v H1 q t1 c1 r1 => ?_, PX⟩
  refine ⟨Γ, S1, _, X1, e.mono t1, c1, q, fun y S2 u H2 q2 t2 c2 r2 => ?_, PX.le t1⟩
  refine hf x y S2 v u H2 _ _ q2 c2 (r1.mono t2) r2 fun z S3 zv H3 q3 t3 c3 r3 => ?_
  cases z with
  | bl k =>
    refine ⟨k, r3, ?_⟩
    cases k with
    | true =>
      rw [if_pos rfl]
      refine ⟨Γ, S3, _, X1, e.mono (t1.trans (t2.trans t3)), c3, q3, fun w S4 wv H4 q4 t4 c4 r4 => ?_, PX.le (t1.trans (t2.trans t3))⟩
      exact hg y w S4 u wv H4 _ _ q4 c4 (r2.mono (t3.trans t4)) r4 (P.le (t1.trans (t2.trans (t3.trans t4))))
    | false =>
      rw [if_neg Bool.false_ne_true]
      exact P _ _ _ _ q3 (t1.trans (t2.trans t3)) c3 rfl
  | _ => exact q3.elim
theorem je_chain {op op' : CmpOp} {r r' : R2} {f g : FO} (ho : OpR X (compareOp op) r) (hf : OpD X.K r f) (ho' : OpR X (compareOp op') r') (hg : OpD X.K r' g) (ha : PE X a (LE X.K W da)) (hb : PE X b (LE X.K W db)) (hc : PE X c (LE X.K W dc))
    (hm : lastMarks [op, op'] [b, c] = false) : PE X (.Compare a [op, op'] [b, c] pos) (LE X.K W (dChain f g da db dc)) :=
  PE.imp (pe_chain ho ho' ha hb hc hm) fun _ _ _ h => chain_lift hf hg h
theorem jt_chain {op op' : CmpOp} {r r' : R2} {f g : FO} (ho : OpR X (compareOp op) r) (hf : OpD X.K r f) (ho' : OpR X (compareOp op') r') (hg : OpD X.K r' g) (ha : PE X a (LE X.K W da)) (hb : PE X b (LE X.K W db)) (hc : PE X c (LE X.K W dc))
    (hm : lastMarks [op, op'] [b, c] = false) : PT X (.Compare a [op, op'] [b, c] pos) (LT X.K W (dtV (dChain f g da db dc))) :=
  PT.imp (pt_chain ho ho' ha hb hc hm) fun _ _ _ h => chain_lift hf hg (dtV_lift h)
end

/-! ### tests -/
@[simp] def fTru (x : DV) (S : Sto) : Option Bool := match x with
  | .non => some false
  | .bl b => some b
  | .int i => some (i != 0)
  | .tup ds => some (!ds.isEmpty)
  | .rol ds => some (!ds.isEmpty)
  | .str x => if x.length ≤ sizeLine then some ((x.length : Int) != 0) else none
  | .ref a => (match S a with
    | some (.lst ds) => some (!ds.isEmpty)
    | some (.dK kvs) => some (!kvs.isEmpty)
    | _ => none)
  | _ => none
def dtTru (d : DE) : DT := fun Γ S Q X => d Γ S (fun x S1 => match fTru x S1 with
  | some b => Q b S1
  | none => False) X
@[simp] def dtNot (t : DT) : DT := fun Γ S Q X => t Γ S (fun b S1 => Q (!b) S1) X
def dtAnd (t u : DT) : DT := fun Γ S Q X => t Γ S (fun b S1 => match b with
  | true => u Γ S1 Q X
  | false => Q false S1) X
def dtOr (t u : DT) : DT := fun Γ S Q X => t Γ S (fun b S1 => match b with
  | true => Q true S1
  | false => u Γ S1 Q X) X
def dtIf (c t u : DT) : DT := fun Γ S Q X => c Γ S (fun b S1 => match b with
  | true => t Γ S1 Q X
  | false => u Γ S1 Q X) X
/-- values -/
def dAnd (t u : DE) : DE := fun Γ S Q X => t Γ S (fun x S1 => match fTru x S1 with
  | some true => u Γ S1 Q X
  | some false => Q x S1
  | none => False) X
def dOr (t u : DE) : DE := fun Γ S Q X => t Γ S (fun x S1 => match fTru x S1 with
  | some true => Q x S1
  | some false => u Γ S1 Q X
  | none => False) X
def dNot (t : DE) : DE := fun Γ S Q X => t Γ S (fun x S1 => match fTru x S1 with
  | some b => Q (.bl (!b)) S1
  | none => False) X
def dIf (c : DT) (t u : DE) : DE := fun Γ S Q X => c Γ S (fun b S1 => match b with
  | true => t Γ S1 Q X
  | false => u Γ S1 Q X) X
theorem isEmpty_rels {K : PySem.W.Frag} {H : Hp} {ds : List DV} {vs : List V} (r : Rels K H ds vs) : (!vs.isEmpty) = !ds.isEmpty := by
  cases ds with
  | nil => cases (show _ = _ from r); rfl
  | cons d ds => obtain ⟨v, q, rfl, _⟩ := r; rfl
theorem isEmpty_relF {K : PySem.W.Frag} {H : Hp} {α : Type} {ds : List (α × DV)} {vs : List (α × V)} (r : RelF K H ds vs) : (!vs.isEmpty) = !ds.isEmpty := by
  cases ds with
  | nil => cases (show _ = _ from r); rfl
  | cons d ds => obtain ⟨v, q, rfl, _⟩ := r; rfl
theorem tru_of {K : PySem.W.Frag} {H : Hp} {S : Sto} {x : DV} {v : V} {b : Bool} (h : fTru x S = some b) (c : Conc K S H) (r : Rel K H x v) : TruV K v H b := by
  unfold fTru at h
  split at h
  · cases (show _ = _ from r); exact (Option.some.inj h).symm
  · cases (show _ = _ from r); exact (Option.some.inj h).symm
  · cases (show _ = _ from r); exact (Option.some.inj h).symm
  · obtain ⟨a, vs, rfl, q, s⟩ := r
    exact .inr (.inl ⟨vs, q, by rw [isEmpty_rels s]; exact (Option.some.inj h).symm⟩)
  · obtain ⟨a, vs, rfl, q, s⟩ := r
    exact .inl ⟨vs, q.sq, by rw [isEmpty_rels s]; exact (Option.some.inj h).symm⟩
  · split at h
    · rename_i z
      cases (show _ = _ from r)
      exact ⟨z, (Option.some.inj h).symm⟩
    · cases h
  · cases (show _ = _ from r)
    split at h
    · rename_i h1
      obtain ⟨vs, e, s⟩ := c.lst h1
      exact .inl ⟨vs, SqL.of e, by rw [isEmpty_rels s]; exact (Option.some.inj h).symm⟩
    · rename_i h1
      obtain ⟨us, e, s⟩ := c _ _ h1
      exact .inr (.inr ⟨us, e, by rw [isEmpty_relF s]; exact (Option.some.inj h).symm⟩)
    · cases h
  · cases h
section
variable {X : Cx} {W : WX} {pos : Pos} {a b c : Expr} {rest : List Expr} {da db : DE} {ta tb tc : DT}
theorem jt_truth (ha : PE X a (LE X.K W da)) (he : ∀ whole, isTrue a X.env whole = (do let v ← whole; standAt a.pos; holding [v] (truthy v))) : PT X a (LT X.K W (dtTru da)) := by
  refine PT.imp (pt_truth ha he) fun σ H Q h => ?_
  obtain ⟨Γ, S, Q1, X1, e, c, h, P, PX⟩ := h
  refine ⟨Γ, S, _, X1, e, c, h, fun x S1 v H1 q t1 c1 r1 => ?_, PX⟩
  dsimp only at q
  split at q
  · rename_i b hb
    exact ⟨b, tru_of hb c1 r1, P _ _ _ q t1 c1⟩
  · exact q.elim
theorem jt_not (ha : PT X a (LT X.K W ta)) : PT X (.UnaryOp .Not a pos) (LT X.K W (dtNot ta)) := by
  refine PT.imp (pt_not ha) fun σ H Q h => ?_
  obtain ⟨Γ, S, Q1, X1, e, c, h, P, PX⟩ := h
  exact ⟨Γ, S, _, X1, e, c, h, fun b S1 H1 q t1 c1 => P _ _ _ q t1 c1, PX⟩
theorem jw_and1 (ha : PT X a (LT X.K W ta)) : PW X (.BoolOp .And [a] pos) (LT X.K W ta) := pw_and1 ha
theorem jw_or1 (ha : PT X a (LT X.K W ta)) : PW X (.BoolOp .Or [a] pos) (LT X.K W ta) := pw_or1 ha
theorem jw_and (ha : PT X a (LT X.K W ta)) (hb : PW X (.BoolOp .And (b :: rest) pos) (LT X.K W tb)) : PW X (.BoolOp .And (a :: b :: rest) pos) (LT X.K W (dtAnd ta tb)) := by
  refine PW.imp (pw_and ha hb) fun σ H Q h => ?_
  obtain ⟨Γ, S, Q1, X1, e, c, h, P, PX⟩ := h
  refine ⟨Γ, S, _, X1, e, c, h, fun k S1 H1 q t1 c1 => ?_, PX⟩
  cases k with
  | true =>
    rw [if_pos rfl]
    exact ⟨Γ, S1, Q1, X1, e.mono t1, c1, q, P.le t1, PX.le t1⟩
  | false =>
    rw [if_neg Bool.false_ne_true]
    exact P _ _ _ q t1 c1
theorem jw_or (ha : PT X a (LT X.K W ta)) (hb : PW X (.BoolOp .Or (b :: rest) pos) (LT X.K W tb)) : PW X (.BoolOp .Or (a :: b :: rest) pos) (LT X.K W (dtOr ta tb)) := by
  refine PW.imp (pw_or ha hb) fun σ H Q h => ?_
  obtain ⟨Γ, S, Q1, X1, e, c, h, P, PX⟩ := h
  refine ⟨Γ, S, _, X1, e, c, h, fun k S1 H1 q t1 c1 => ?_, PX⟩
  cases k with
  | true =>
    rw [if_pos rfl]
    exact P _ _ _ q t1 c1
  | false =>
    rw [if_neg Bool.false_ne_true]
    exact ⟨Γ, S1, Q1, X1, e.mono t1, c1, q, P.le t1, PX.le t1⟩
theorem je_one {op : BoolOp} (h : PE X a (LE X.K W da)) : PE X (.BoolOp op [a] pos) (LE X.K W da) := pe_one h
theorem je_and (ha : PE X a (LE X.K W da)) (hb : PE X (.BoolOp .And (b :: rest) pos) (LE X.K W db)) : PE X (.BoolOp .And (a :: b :: rest) pos) (LE X.K W (dAnd da db)) := by
  refine PE.imp (pe_andT ha hb) fun σ H Q h => ?_
  obtain ⟨Γ, S, Q1, X1, e, c, h, P, PX⟩ := h
  refine ⟨Γ, S, _, X1, e, c, h, fun x S1 v H1 q t1 c1 r1 => ?_, PX⟩
  dsimp only at q
  split at q
  · rename_i hb
    refine ⟨true, tru_of hb c1 r1, ?_⟩
    rw [if_pos rfl]
    exact ⟨Γ, S1, Q1, X1, e.mono t1, c1, q, P.le t1, PX.le t1⟩
  · rename_i hb
    refine ⟨false, tru_of hb c1 r1, ?_⟩
    rw [if_neg Bool.false_ne_true]
    exact P _ _ _ _ q t1 c1 r1
  · exact q.elim
theorem je_or (ha : PE X a (LE X.K W da)) (hb : PE X (.BoolOp .Or (b :: rest) pos) (LE X.K W db)) : PE X (.BoolOp .Or (a :: b :: rest) pos) (LE X.K W (dOr da db)) := by
  refine PE.imp (pe_orT ha hb) fun σ H Q h => ?_
  obtain ⟨Γ, S, Q1, X1, e, c, h, P, PX⟩ := h
  refine ⟨Γ, S, _, X1, e, c, h, fun x S1 v H1 q t1 c1 r1 => ?_, PX⟩
  dsimp only at q
  split at q
  · rename_i hb
    refine ⟨true, tru_of hb c1 r1, ?_⟩
    rw [if_pos rfl]
    exact P _ _ _ _ q t1 c1 r1
  · rename_i hb
    refine ⟨false, tru_of hb c1 r1, ?_⟩
    rw [if_neg Bool.false_ne_true]
    exact ⟨Γ, S1, Q1, X1, e.mono t1, c1, q, P.le t1, PX.le t1⟩
  · exact q.elim
theorem je_not (ha : PE X a (LE X.K W da)) : PE X (.UnaryOp .Not a pos) (LE X.K W (dNot da)) := by
  refine PE.imp (pe_notT ha) fun σ H Q h => ?_
  obtain ⟨Γ, S, Q1, X1, e, c, h, P, PX⟩ := h
  refine ⟨Γ, S, _, X1, e, c, h, fun x S1 v H1 q t1 c1 r1 => ?_, PX⟩
  dsimp only at q
  split at q
  · rename_i b hb
    exact ⟨b, tru_of hb c1 r1, P _ _ _ _ q t1 c1 rfl⟩
  · exact q.elim
theorem je_ifExp (hc : PT X c (LT X.K W tc)) (ha : PE X a (LE X.K W da)) (hb : PE X b (LE X.K W db)) : PE X (.IfExp c a b pos) (LE X.K W (dIf tc da db)) := by
  refine PE.imp (pe_ifExp hc ha hb) fun σ H Q h => ?_
  obtain ⟨Γ, S, Q1, X1, e, c, h, P, PX⟩ := h
  refine ⟨Γ, S, _, X1, e, c, h, fun k S1 H1 q t1 c1 => ?_, PX⟩
  cases k with
  | true =>
    rw [if_pos rfl]
    exact ⟨Γ, S1, Q1, X1, e.mono t1, c1, q, P.le t1, PX.le t1⟩
  | false =>
    rw [if_neg Bool.false_ne_true]
    exact ⟨Γ, S1, Q1, X1, e.mono t1, c1, q, P.le t1, PX.le t1⟩
end

/-! ### unary minus -/
@[simp] def dNeg (d : DE) : DE := fun Γ S Q X => d Γ S (fun x S1 => match x with
  | .int i => Q (.int (-i)) S1
  | _ => False) X
section
variable {X : Cx} {W : WX} {pos : Pos} {a : Expr} {da : DE}
theorem je_neg (ha : PE X a (LE X.K W da)) : PE X (.UnaryOp .USub a pos) (LE X.K W (dNeg da)) := by
  refine PE.imp (pe_un un_neg ha) fun σ H Q h => ?_
  obtain ⟨Γ, S, Q1, X1, e, c, h, P, PX⟩ := h
  refine ⟨Γ, S, _, X1, e, c, h, fun x S1 v H1 q t1 c1 r1 => ?_, PX⟩
  cases x with
  | int i => exact ⟨i, r1, P _ _ _ _ q t1 c1 rfl⟩
  | _ => exact q.elim
end

/-! ### argument lists, displays -/
@[simp] def daNil : DA := fun _ S Q _ => Q [] S
@[simp] def daCons (d : DE) (r : DA) : DA := fun Γ S Q X => d Γ S (fun x S1 => r Γ S1 (fun xs S2 => Q (x :: xs) S2) X) X
@[simp] def dTup (d : DA) : DE := fun Γ S Q X => d Γ S (fun ds S1 => ds.length ≤ sizeLine ∧ Q (.tup ds) S1) X
@[simp] def dLst (d : DA) : DE := fun Γ S Q X => d Γ S (fun ds S1 => ds.length ≤ sizeLine ∧ ∀ p, S1 p = none → Q (.ref p) (S1.upd p (.lst ds))) X
section
variable {X : Cx} {W : WX} {pos : Pos} {a : Expr} {es : List Expr} {da : DE} {r : DA}
theorem ja_nil : PA X [] (LA X.K W daNil) := PA.imp pa_nil fun σ H Q h => by
  obtain ⟨Γ, S, Q1, X1, e, c, h, P, PX⟩ := h
  exact P _ _ _ _ h (TLe.refl _) c .nil
theorem ja_cons (ha : PE X a (LE X.K W da)) (hr : PA X es (LA X.K W r)) (hs : starEach (a :: es) X.env = (false, eval a X.env) :: starEach es X.env) : PA X (a :: es) (LA X.K W (daCons da r)) := PA.imp (pa_cons ha hr hs) fun σ H Q h => by
  obtain ⟨Γ, S, Q1, X1, e, c, h, P, PX⟩ := h
  refine ⟨Γ, S, _, X1, e, c, h, fun x S1 v H1 q t1 c1 r1 => ?_, PX⟩
  refine ⟨Γ, S1, _, X1, e.mono t1, c1, q, fun ds S2 vs H2 q2 t2 c2 r2 => ?_, PX.le t1⟩
  exact P _ _ _ _ q2 (t1.trans t2) c2 (.cons (r1.mono t2) r2)
theorem je_tup {k : Nat} (h : PA X es (LA X.K W r)) : PE X (.Tuple es k pos) (LE X.K W (dTup r)) := PE.imp (pe_tup h) fun σ H Q h => by
  obtain ⟨Γ, S, Q1, X1, e, c, h, P, PX⟩ := h
  refine ⟨Γ, S, _, X1, e, c, h, fun ds S1 vs H1 q t1 c1 r1 => ⟨by rw [r1.length]; exact q.1, fun p hp => ?_⟩, PX⟩
  exact (P.le t1).newT c1 hp r1 q.2
theorem je_lst (h : PA X es (LA X.K W r)) : PE X (.List es pos) (LE X.K W (dLst r)) := PE.imp (pe_lst h) fun σ H Q h => by
  obtain ⟨Γ, S, Q1, X1, e, c, h, P, PX⟩ := h
  refine ⟨Γ, S, _, X1, e, c, h, fun ds S1 vs H1 q t1 c1 r1 => ⟨by rw [r1.length]; exact q.1, fun p hp => ?_⟩, PX⟩
  exact (P.le t1).newL c1 hp r1 q.2
end

/-! ### subscripts, slices -/
@[simp] def fIx : FO := fun x y S Q => match x, y with
  | .tup ds, .int i => (match atI ds i with
    | some d => Q d S
    | none => False)
  | .rol ds, .int i => (match atI ds i with
    | some d => Q d S
    | none => False)
  | .ref a, .int i => (match S a with
    | some (.lst ds) => (match atI ds i with
      | some d => Q d S
      | none => False)
    | _ => False)
  | .str z, .int i => z.length ≤ sizeLine ∧ (match atI z.cps.toList i with
    | some c => Q (.str ⟨#[c]⟩) S
    | none => False)
  | _, _ => False
theorem rels_atI {K : PySem.W.Frag} {H : Hp} {ds : List DV} {vs : List V} {i : Int} {d : DV} (r : Rels K H ds vs) (h : atI ds i = some d) : ∃ v, atI vs i = some v ∧ Rel K H d v := by
  unfold atI at h ⊢
  rw [r.length]
  cases e : ixN ds.length i with
  | none => rw [e] at h; cases h
  | some j =>
    rw [e] at h
    exact r.get h
theorem od_ix {K : PySem.W.Frag} : OpD K (rIx K) fIx := by
  intro x y S v u H Q1 Q h c r1 r2 P
  unfold fIx at h
  split at h
  · cases (show _ = _ from r2)
    obtain ⟨a, vs, rfl, q, s⟩ := r1
    split at h
    · rename_i d hd
      obtain ⟨w, e, rw_⟩ := rels_atI s hd
      exact .inr (.inl ⟨a, vs, _, w, rfl, rfl, q, e, P.same c rw_ h⟩)
    · exact h.elim
  · cases (show _ = _ from r2)
    obtain ⟨a, vs, rfl, q, s⟩ := r1
    split at h
    · rename_i d hd
      obtain ⟨w, e, rw_⟩ := rels_atI s hd
      exact .inl ⟨a, vs, _, w, rfl, rfl, q.sq, e, P.same c rw_ h⟩
    · exact h.elim
  · cases (show _ = _ from r1); cases (show _ = _ from r2)
    split at h
    · rename_i h1
      obtain ⟨vs, e1, s⟩ := c.lst h1
      split at h
      · rename_i d hd
        obtain ⟨w, e, rw_⟩ := rels_atI s hd
        exact .inl ⟨_, vs, _, w, rfl, rfl, SqL.of e1, e, P.same c rw_ h⟩
      · exact h.elim
    · exact h.elim
  · cases (show _ = _ from r1); cases (show _ = _ from r2)
    obtain ⟨z, h⟩ := h
    split at h
    · rename_i k hk
      exact .inr (.inr ⟨_, _, k, rfl, rfl, z, hk, P.same c (show Rel K H (.str _) (.str _) from rfl) h⟩)
    · exact h.elim
  · exact h.elim

abbrev DO := Gm → Sto → (Option Int → Sto → Prop) → QX → Prop
@[simp] def doNone : DO := fun _ S Q _ => Q none S
@[simp] def doSome (d : DE) : DO := fun Γ S Q X => d Γ S (fun x S1 => match x with
  | .int i => Q (some i) S1
  | _ => False) X
def LO (K : PySem.W.Frag) (W : WX) (e : DO) : TO := fun σ H Q => ∃ Γ S Q1 X1, EnvR K H Γ σ ∧ Conc K S H ∧ e Γ S Q1 X1 ∧ (∀ o S' H', Q1 o S' → TLe H H' → Conc K S' H' → Q o H') ∧ PostX K H σ X1 W
theorem PO.imp {X : Cx} {e : Option Expr} {t t' : TO} (h : PO X e t) (i : ∀ σ H Q, t' σ H Q → t σ H Q) : PO X e t' := ⟨fun pins s σ H Q I q => h.run pins s σ H Q I (i _ _ _ q)⟩
def cutD {α : Type} (xs : List α) (lo hi : Option Int) : List α := (xs.drop (HT.sIx xs.length 0 lo)).take (HT.sIx xs.length xs.length hi - HT.sIx xs.length 0 lo)
theorem rels_cut {K : PySem.W.Frag} {H : Hp} {ds : List DV} {vs : List V} (r : Rels K H ds vs) (lo hi : Option Int) : Rels K H (cutD ds lo hi) (cutV vs lo hi) := by
  unfold cutD cutV
  rw [r.length]
  exact (r.drop _).take _
@[simp] def fSl (x : DV) (lo hi : Option Int) (S : Sto) (Q : QV) : Prop := match x with
  | .tup ds => Q (.tup (cutD ds lo hi)) S
  | .rol ds => ∀ p, S p = none → Q (.ref p) (S.upd p (.lst (cutD ds lo hi)))
  | .ref a => (match S a with
    | some (.lst ds) => ∀ p, S p = none → Q (.ref p) (S.upd p (.lst (cutD ds lo hi)))
    | _ => False)
  | .str z => z.length ≤ sizeLine ∧ Q (.str (cutS z lo hi)) S
  | _ => False
@[simp] def dSl (d : DE) (lo hi : DO) : DE := fun Γ S Q X => d Γ S (fun x S1 => lo Γ S1 (fun l S2 => hi Γ S2 (fun u S3 => fSl x l u S3 Q) X) X) X
def rSlD (K : PySem.W.Frag) : V → Option Int → Option Int → Hp → VK → Prop := fun x lo hi H Q => rSlL K x lo hi H Q ∨ (rSlA K x lo hi H Q ∨ ∃ z, x = .str z ∧ z.length ≤ sizeLine ∧ Q (.str (cutS z lo hi)) H)
theorem cut_whole {α : Type} (xs : List α) (lo hi : Option Int) (h : HT.sIx xs.length 0 lo = 0 ∧ HT.sIx xs.length xs.length hi = xs.length) : cutD xs lo hi = xs := by
  unfold cutD
  rw [h.1, h.2]
  simp
section
variable {X : Cx} {W : WX} {pos p2 : Pos} {a : Expr} {lo hi : Option Expr} {da : DE} {dl dh : DO}
theorem jo_none : PO X none (LO X.K W doNone) := PO.imp po_none fun σ H Q h => by
  obtain ⟨Γ, S, Q1, X1, e, c, h, P, PX⟩ := h
  exact P _ _ _ h (TLe.refl _) c
theorem jo_some (ha : PE X a (LE X.K W da)) : PO X (some a) (LO X.K W (doSome da)) := PO.imp (po_some ha) fun σ H Q h => by
  obtain ⟨Γ, S, Q1, X1, e, c, h, P, PX⟩ := h
  refine ⟨Γ, S, _, X1, e, c, h, fun x S1 v H1 q t1 c1 r1 => ?_, PX⟩
  cases x with
  | int i => exact ⟨i, r1, P _ _ _ q t1 c1⟩
  | _ => exact q.elim
theorem sl_d {x : DV} {l u : Option Int} {S : Sto} {v : V} {H : Hp} {Q1 : QV} {Q : VK} (h : fSl x l u S Q1) (c : Conc X.K S H) (r : Rel X.K H x v) (P : PostV X.K H Q1 Q) : rSlD X.K v l u H Q := by
  unfold fSl at h
  split at h
  · obtain ⟨a, vs, rfl, q, s⟩ := r
    refine .inr (.inl ⟨a, vs, rfl, q, fun w => ?_, fun w p hp => P.newT c hp (rels_cut s l u) h⟩)
    rw [s.length] at w
    rw [cut_whole _ _ _ w] at h
    exact P.same c (show Rel X.K H (.tup _) _ from ⟨a, vs, rfl, q, s⟩) h
  · obtain ⟨a, vs, rfl, q, s⟩ := r
    exact .inl ⟨a, vs, rfl, q.sq, fun p hp => P.newL c hp (rels_cut s l u) h⟩
  · cases (show _ = _ from r)
    split at h
    · rename_i h1
      obtain ⟨vs, e1, s⟩ := c.lst h1
      exact .inl ⟨_, vs, rfl, SqL.of e1, fun p hp => P.newL c hp (rels_cut s l u) h⟩
    · exact h.elim
  · cases (show _ = _ from r)
    exact .inr (.inr ⟨_, rfl, h.1, P.same c (show Rel X.K H (.str _) (.str _) from rfl) h.2⟩)
  · exact h.elim
end
end M
set_option maxHeartbeats 4000000
namespace M
open PySem PySem.Spec PyProof.Rows L2

theorem sl_strD {X : Cx} : SlR X (fun x lo hi H Q => ∃ z, x = V.str z ∧ z.length ≤ sizeLine ∧ Q (.str (cutS z lo hi)) H) := sl_str
theorem sl_all {X : Cx} : SlR X (rSlD X.K) := sl_list.or (sl_tupA.or sl_strD)
section
variable {X : Cx} {W : WX} {pos p2 : Pos} {a : Expr} {lo hi : Option Expr} {da : DE} {dl dh : DO}
theorem je_slice (ha : PE X a (LE X.K W da)) (hl : PO X lo (LO X.K W dl)) (hh : PO X hi (LO X.K W dh)) : PE X (.Subscript a (.Slice lo hi none p2) pos) (LE X.K W (dSl da dl dh)) := by
  refine PE.imp (pe_slice sl_all ha hl hh) fun σ H Q h => ?_
  obtain ⟨Γ, S, Q1, X1, e, c, h, P, PX⟩ := h
  refine ⟨Γ, S, _, X1, e, c, h, fun x S1 v H1 q t1 c1 r1 => ?_, PX⟩
  refine ⟨Γ, S1, _, X1, e.mono t1, c1, q, fun l S2 H2 q2 t2 c2 => ?_, PX.le t1⟩
  refine ⟨Γ, S2, _, X1, e.mono (t1.trans t2), c2, q2, fun u S3 H3 q3 t3 c3 => ?_, PX.le (t1.trans t2)⟩
  exact sl_d q3 c3 (r1.mono (t2.trans t3)) (P.le (t1.trans (t2.trans t3)))
/-- xs[::-1] of a list -/
def dRev (d : DE) : DE := fun Γ S Q X => d Γ S (fun x S1 => match x with
  | .ref a => (match S1 a with
    | some (.lst ds) => ∀ p, S1 p = none → Q (.ref p) (S1.upd p (.lst ds.reverse))
    | _ => False)
  | _ => False) X
theorem je_rev {k : Nat} {p1 p3 p4 : Pos} (ha : PE X a (LE X.K W da)) : PE X (.Subscript a (.Slice none none (some (.UnaryOp .USub (.Constant (.int 1) k p1) p2)) p3) pos) (LE X.K W (dRev da)) := by
  refine PE.imp (pe_revL ha) fun σ H Q h => ?_
  obtain ⟨Γ, S, Q1, X1, e, c, h, P, PX⟩ := h
  refine ⟨Γ, S, _, X1, e, c, h, fun x S1 v H1 q t1 c1 r1 => ?_, PX⟩
  dsimp only at q
  split at q
  · cases (show _ = _ from r1)
    split at q
    · rename_i h1
      obtain ⟨vs, e1, s⟩ := c1.lst h1
      exact ⟨_, vs, rfl, SqL.of e1, fun p hp => (P.le t1).newL c1 hp s.reverse q⟩
    · exact q.elim
  · exact q.elim
end

/-! ### attributes -/
theorem relF_lookup {K : PySem.W.Frag} {H : Hp} {f : Str} : ∀ {fs : List (Str × DV)} {gs : List (Str × V)} {d : DV}, RelF K H fs gs → fs.lookup f = some d → ∃ v, gs.lookup f = some v ∧ Rel K H d v
  | [], _, _, _, h => by simp at h
  | (n, e) :: fs, _, d, r, h => by
    obtain ⟨v, q, rfl, r1, r2⟩ := r
    simp only [List.lookup_cons] at h ⊢
    cases hn : f == n with
    | true => rw [hn] at h; cases h; exact ⟨v, rfl, r1⟩
    | false => rw [hn] at h; exact relF_lookup r2 h
theorem relF_none {K : PySem.W.Frag} {H : Hp} {f : Str} : ∀ {fs : List (Str × DV)} {gs : List (Str × V)}, RelF K H fs gs → fs.lookup f = none → gs.lookup f = none
  | [], _, r, h => by cases (show _ = _ from r); rfl
  | (n, e) :: fs, _, r, h => by
    obtain ⟨v, q, rfl, r1, r2⟩ := r
    simp only [List.lookup_cons] at h ⊢
    cases hn : f == n with
    | true => rw [hn] at h; cases h
    | false => rw [hn] at h; exact relF_none r2 h
def putD (f : Str) (d : DV) : List (Str × DV) → List (Str × DV)
  | [] => [(f, d)]
  | (g, u) :: r => if g = f then (g, d) :: r else (g, u) :: putD f d r
theorem relF_put {K : PySem.W.Frag} {H : Hp} {f : Str} {d : DV} {v : V} (rd : Rel K H d v) : ∀ {fs : List (Str × DV)} {gs : List (Str × V)}, RelF K H fs gs → RelF K H (putD f d fs) (putF f v gs)
  | [], _, r => by cases (show _ = _ from r); exact ⟨v, [], rfl, rd, rfl⟩
  | (n, e) :: fs, _, r => by
    obtain ⟨u, q, rfl, r1, r2⟩ := r
    unfold putD putF
    by_cases h : n = f
    · rw [if_pos h, if_pos h]; exact ⟨v, q, rfl, rd, r2⟩
    · rw [if_neg h, if_neg h]; exact ⟨u, _, rfl, r1, relF_put rd r2⟩
@[simp] def dFld (Z : Zt) (f : Str) (d : DE) : DE := fun Γ S Q X => d Γ S (fun x S1 => match x with
  | .ref a => (match S1 a with
    | some (.ins C fs) => Z.fld C f = true ∧ (match fs.lookup f with
      | some v => Q v S1
      | none => False)
    | _ => False)
  | _ => False) X
section
variable {X : Cx} {W : WX} {pos : Pos} {a : Expr} {da : DE} {Z : Zt} {f : Str}
theorem je_fld (z : ZOk X.K Z) (ha : PE X a (LE X.K W da)) (hb : attributeBase a f X.env (eval a X.env) = eval a X.env) : PE X (.Attribute a f pos) (LE X.K W (dFld Z f da)) := by
  refine PE.imp (pe_fld ha hb) fun σ H Q h => ?_
  obtain ⟨Γ, S, Q1, X1, e, c, h, P, PX⟩ := h
  refine ⟨Γ, S, _, X1, e, c, h, fun x S1 v H1 q t1 c1 r1 => ?_, PX⟩
  dsimp only at q
  split at q
  · cases (show _ = _ from r1)
    split at q
    · rename_i h1
      obtain ⟨dx, gs, e1, s⟩ := c1 _ _ h1
      obtain ⟨z1, q⟩ := q
      obtain ⟨z2, z3⟩ := z.fld _ _ z1
      split at q
      · rename_i d hd
        obtain ⟨w, e2, rw_⟩ := relF_lookup s hd
        exact ⟨_, _, dx, gs, w, rfl, e1, z2, z3, e2, P _ _ _ _ q t1 c1 rw_⟩
      · exact q.elim
    · exact q.elim
  · exact q.elim
end

/-! ### calls of built-in functions -/
abbrev FC := List DV → Sto → QV → Prop
def CallD (K : PySem.W.Frag) (r : List V → Hp → VK → Prop) (f : FC) : Prop :=
  ∀ (ds : List DV) (S : Sto) (vs : List V) (H : Hp) (Q1 : QV) (Q : VK), f ds S Q1 → Conc K S H → Rels K H ds vs → PostV K H Q1 Q → r vs H Q
@[simp] def dCB (f : FC) (d : DA) : DE := fun Γ S Q X => d Γ S (fun ds S1 => f ds S1 Q) X
section
variable {X : Cx} {W : WX} {pos p : Pos} {a : Expr} {es : List Expr} {da : DA} {x : Str} {id T : String} {r : List V → Hp → VK → Prop} {f : FC}
theorem cb_lift (hf : CallD X.K r f) {σ : L2.St} {H : Hp} {Q : VK} (h : LE X.K W (dCB f da) σ H Q) : tCB r (LA X.K W da) σ H Q := by
  obtain ⟨Γ, S, Q1, X1, e, c, h, P, PX⟩ := h
  exact ⟨Γ, S, _, X1, e, c, h, fun ds S1 vs H1 q t1 c1 r1 => hf ds S1 vs H1 Q1 Q q c1 r1 (P.le t1), PX⟩
theorem je_callB (hc : CallR X (.builtin id) r) (hf : CallD X.K r f) (hg : Gl X x) (hm : X.mg x = none) (hv : bootBuiltins x = some (.builtin id)) (ha : PA X (a :: es) (LA X.K W da)) (hn : x ≠ "__name__") (hdb : (x == ("__debug__" : Str)) = false)
    (he : starEach (a :: es) X.env = (false, eval a X.env) :: starEach es X.env) (hpl : (backTo pos (starEach es X.env)).any (·.1) = false) : PE X (.Call (.Name x p) (a :: es) [] pos) (LE X.K W (dCB f da)) :=
  PE.imp (pe_callB hc hg hm hv ha hn hdb he hpl) fun _ _ _ h => cb_lift hf h
theorem je_callTy (hc : CallR X (.type T) r) (hf : CallD X.K r f) (hg : Gl X x) (hm : X.mg x = none) (hv : bootBuiltins x = some (.type T)) (ha : PA X (a :: es) (LA X.K W da)) (hn : x ≠ "__name__") (hdb : (x == ("__debug__" : Str)) = false)
    (he : starEach (a :: es) X.env = (false, eval a X.env) :: starEach es X.env) (hpl : (backTo pos (starEach es X.env)).any (·.1) = false) : PE X (.Call (.Name x p) (a :: es) [] pos) (LE X.K W (dCB f da)) :=
  PE.imp (pe_callTy hc hg hm hv ha hn hdb he hpl) fun _ _ _ h => cb_lift hf h
end
/-- the items of a list or tuple -/
@[simp] def seqOf (x : DV) (S : Sto) : Option (List DV) := match x with
  | .tup ds => some ds
  | .rol ds => some ds
  | .ref a => (match S a with
    | some (.lst ds) => some ds
    | _ => none)
  | _ => none
theorem seqOf_ok {K : PySem.W.Frag} {H : Hp} {S : Sto} {x : DV} {v : V} {ds : List DV} (h : seqOf x S = some ds) (c : Conc K S H) (r : Rel K H x v) : ∃ a vs, v = .ref a ∧ (SqL K H a vs ∨ SqT K H a vs) ∧ Rels K H ds vs := by
  unfold seqOf at h
  split at h
  · obtain ⟨a, vs, rfl, q, s⟩ := r; cases h; exact ⟨a, vs, rfl, .inr q, s⟩
  · obtain ⟨a, vs, rfl, q, s⟩ := r; cases h; exact ⟨a, vs, rfl, .inl q.sq, s⟩
  · cases (show _ = _ from r)
    split at h
    · rename_i h1
      cases h
      obtain ⟨vs, e, s⟩ := c.lst h1
      exact ⟨_, vs, rfl, .inl (SqL.of e), s⟩
    · cases h
  · cases h
/-- of a list alone -/
@[simp] def lstOf (x : DV) (S : Sto) : Option (List DV) := match x with
  | .rol ds => some ds
  | .ref a => (match S a with
    | some (.lst ds) => some ds
    | _ => none)
  | _ => none
theorem lstOf_ok {K : PySem.W.Frag} {H : Hp} {S : Sto} {x : DV} {v : V} {ds : List DV} (h : lstOf x S = some ds) (c : Conc K S H) (r : Rel K H x v) : ∃ a vs, v = .ref a ∧ SqL K H a vs ∧ Rels K H ds vs := by
  unfold lstOf at h
  split at h
  · obtain ⟨a, vs, rfl, q, s⟩ := r; cases h; exact ⟨a, vs, rfl, q.sq, s⟩
  · cases (show _ = _ from r)
    split at h
    · rename_i h1
      cases h
      obtain ⟨vs, e, s⟩ := c.lst h1
      exact ⟨_, vs, rfl, SqL.of e, s⟩
    · cases h
  · cases h
@[simp] def fLen : FC := fun ds S Q => match ds with
  | [.str z] => z.length ≤ sizeLine ∧ Q (.int z.length) S
  | [x] => (match seqOf x S with
    | some xs => Q (.int xs.length) S
    | none => False)
  | _ => False
def rLenD (K : PySem.W.Frag) : List V → Hp → VK → Prop := fun xs H Q => ∃ x n, xs = [x] ∧ LenV K x H n ∧ Q (.int n) H
section
variable {K : PySem.W.Frag}
theorem cd_len : CallD K (rLenD K) fLen := by
  intro ds S vs H Q1 Q h c r P
  unfold fLen at h
  split at h
  · obtain ⟨v, q, rfl, r1, r2⟩ := r
    cases (show _ = _ from r2); cases (show _ = _ from r1)
    exact ⟨_, _, rfl, ⟨h.1, rfl⟩, P.same c (show Rel K H (.int _) (.int _) from rfl) h.2⟩
  · obtain ⟨v, q, rfl, r1, r2⟩ := r
    cases (show _ = _ from r2)
    split at h
    · rename_i xs hx
      obtain ⟨a, us, rfl, sq, s⟩ := seqOf_ok hx c r1
      refine ⟨_, us.length, rfl, ?_, ?_⟩
      · rcases sq with sq | sq
        · exact .inl ⟨us, sq, rfl⟩
        · exact .inr ⟨us, sq, rfl⟩
      · rw [s.length]
        exact P.same c (show Rel K H (.int _) (.int _) from rfl) h
    · exact h.elim
  · exact h.elim
def fAbs : FC := fun ds S Q => match ds with
  | [.int i] => Q (.int (if i < 0 then -i else i)) S
  | _ => False
theorem cd_abs : CallD K (fun xs H Q => ∃ i, xs = [.int i] ∧ Q (.int (if i < 0 then -i else i)) H) fAbs := by
  intro ds S vs H Q1 Q h c r P
  unfold fAbs at h
  split at h
  · obtain ⟨v, q, rfl, r1, r2⟩ := r
    cases (show _ = _ from r2); cases (show _ = _ from r1)
    exact ⟨_, rfl, P.same c (show Rel K H (.int _) (.int _) from rfl) h⟩
  · exact h.elim
def fMax : FC := fun ds S Q => match ds with
  | [.int i, .int j] => Q (.int (if j > i then j else i)) S
  | _ => False
def fMin : FC := fun ds S Q => match ds with
  | [.int i, .int j] => Q (.int (if j < i then j else i)) S
  | _ => False
theorem cd_max : CallD K (fun xs H Q => ∃ i j, xs = [.int i, .int j] ∧ Q (.int (if j > i then j else i)) H) fMax := by
  intro ds S vs H Q1 Q h c r P
  unfold fMax at h
  split at h
  · obtain ⟨v, q, rfl, r1, v2, q2, rfl, r3, r2⟩ := r
    cases (show _ = _ from r2); cases (show _ = _ from r1); cases (show _ = _ from r3)
    exact ⟨_, _, rfl, P.same c (show Rel K H (.int _) (.int _) from rfl) h⟩
  · exact h.elim
theorem cd_min : CallD K (fun xs H Q => ∃ i j, xs = [.int i, .int j] ∧ Q (.int (if j < i then j else i)) H) fMin := by
  intro ds S vs H Q1 Q h c r P
  unfold fMin at h
  split at h
  · obtain ⟨v, q, rfl, r1, v2, q2, rfl, r3, r2⟩ := r
    cases (show _ = _ from r2); cases (show _ = _ from r1); cases (show _ = _ from r3)
    exact ⟨_, _, rfl, P.same c (show Rel K H (.int _) (.int _) from rfl) h⟩
  · exact h.elim
def fInt : FC := fun ds S Q => match ds with
  | [.int i] => Q (.int i) S
  | [.bl k] => Q (.int (if k then 1 else 0)) S
  | _ => False
theorem cd_int : CallD K (fun xs H Q => (∃ i, xs = [.int i] ∧ Q (.int i) H) ∨ ∃ k, xs = [.bl k] ∧ Q (.int (if k then 1 else 0)) H) fInt := by
  intro ds S vs H Q1 Q h c r P
  unfold fInt at h
  split at h
  · obtain ⟨v, q, rfl, r1, r2⟩ := r
    cases (show _ = _ from r2); cases (show _ = _ from r1)
    exact .inl ⟨_, rfl, P.same c (show Rel K H (.int _) (.int _) from rfl) h⟩
  · obtain ⟨v, q, rfl, r1, r2⟩ := r
    cases (show _ = _ from r2); cases (show _ = _ from r1)
    exact .inr ⟨_, rfl, P.same c (show Rel K H (.int _) (.int _) from rfl) h⟩
  · exact h.elim
def fStrI : FC := fun ds S Q => match ds with
  | [.int i] => i.natAbs.log2 < 1920 ∧ Q (.str (toString i)) S
  | _ => False
theorem cd_stri : CallD K (fun xs H Q => ∃ i : Int, xs = [.int i] ∧ i.natAbs.log2 < 1920 ∧ Q (.str (toString i)) H) fStrI := by
  intro ds S vs H Q1 Q h c r P
  unfold fStrI at h
  split at h
  · obtain ⟨v, q, rfl, r1, r2⟩ := r
    cases (show _ = _ from r2); cases (show _ = _ from r1)
    exact ⟨_, rfl, h.1, P.same c (show Rel K H (.str _) (.str _) from rfl) h.2⟩
  · exact h.elim
def fList : FC := fun ds S Q => match ds with
  | [x] => (match seqOf x S with
    | some xs => ∀ p, S p = none → Q (.ref p) (S.upd p (.lst xs))
    | none => False)
  | _ => False
theorem cd_list : CallD K (fun xs H Q => ∃ p ys, xs = [.ref p] ∧ (SqL K H p ys ∨ SqT K H p ys) ∧ ∀ l, H l = none → Q (.ref l) (upd H l (.lst ys))) fList := by
  intro ds S vs H Q1 Q h c r P
  unfold fList at h
  split at h
  · obtain ⟨v, q, rfl, r1, r2⟩ := r
    cases (show _ = _ from r2)
    split at h
    · rename_i xs hx
      obtain ⟨a, us, rfl, sq, s⟩ := seqOf_ok hx c r1
      exact ⟨a, us, rfl, sq, fun l hl => P.newL c hl s h⟩
    · exact h.elim
  · exact h.elim
def fTuple : FC := fun ds S Q => match ds with
  | [x] => (match seqOf x S with
    | some xs => Q (.tup xs) S
    | none => False)
  | _ => False
theorem cd_tuple : CallD K (fun xs H Q => ∃ p ys, xs = [.ref p] ∧ ((SqL K H p ys ∧ ∀ l, H l = none → Q (.ref l) (upd H l (.tup ys))) ∨ (SqT K H p ys ∧ Q (.ref p) H))) fTuple := by
  intro ds S vs H Q1 Q h c r P
  unfold fTuple at h
  split at h
  · obtain ⟨v, q, rfl, r1, r2⟩ := r
    cases (show _ = _ from r2)
    split at h
    · rename_i xs hx
      obtain ⟨a, us, rfl, sq, s⟩ := seqOf_ok hx c r1
      refine ⟨a, us, rfl, ?_⟩
      rcases sq with sq | sq
      · exact .inl ⟨sq, fun l hl => P.newT c hl s h⟩
      · exact .inr ⟨sq, P.same c (show Rel K H (.tup xs) _ from ⟨a, us, rfl, sq, s⟩) h⟩
    · exact h.elim
  · exact h.elim
/-- all bools -/
def blsOf : List DV → Option (List Bool)
  | [] => some []
  | .bl b :: r => (blsOf r).map (b :: ·)
  | _ => none
theorem blsOf_ok {H : Hp} : ∀ {ds : List DV} {bs : List Bool} {vs : List V}, blsOf ds = some bs → Rels K H ds vs → vs = bs.map V.bl
  | [], _, _, h, r => by cases (show _ = _ from r); cases h; rfl
  | .bl b :: ds, _, _, h, r => by
    obtain ⟨v, q, rfl, r1, r2⟩ := r
    cases (show _ = _ from r1)
    simp only [blsOf, Option.map_eq_some_iff] at h
    obtain ⟨bs, e, rfl⟩ := h
    rw [blsOf_ok e r2]; rfl
  | .non :: _, _, _, h, _ => by cases h
  | .int _ :: _, _, _, h, _ => by cases h
  | .str _ :: _, _, _, h, _ => by cases h
  | .tup _ :: _, _, _, h, _ => by cases h
  | .rol _ :: _, _, _, h, _ => by cases h
  | .ref _ :: _, _, _, h, _ => by cases h
  | .ty _ :: _, _, _, h, _ => by cases h
def fAll : FC := fun ds S Q => match ds with
  | [x] => (match (lstOf x S).bind blsOf with
    | some bs => Q (.bl (bs.all id)) S
    | none => False)
  | _ => False
def fAny : FC := fun ds S Q => match ds with
  | [x] => (match (lstOf x S).bind blsOf with
    | some bs => Q (.bl (bs.any id)) S
    | none => False)
  | _ => False
theorem cd_all : CallD K (rAll K) fAll := by
  intro ds S vs H Q1 Q h c r P
  unfold fAll at h
  split at h
  · obtain ⟨v, q, rfl, r1, r2⟩ := r
    cases (show _ = _ from r2)
    split at h
    · rename_i bs hx
      obtain ⟨xs, hx, hb⟩ := Option.bind_eq_some_iff.mp hx
      obtain ⟨a, us, rfl, sq, s⟩ := lstOf_ok hx c r1
      have e := blsOf_ok hb s
      subst e
      exact ⟨a, bs, rfl, sq, P.same c (show Rel K H (.bl _) (.bl _) from rfl) h⟩
    · exact h.elim
  · exact h.elim
theorem cd_any : CallD K (rAny K) fAny := by
  intro ds S vs H Q1 Q h c r P
  unfold fAny at h
  split at h
  · obtain ⟨v, q, rfl, r1, r2⟩ := r
    cases (show _ = _ from r2)
    split at h
    · rename_i bs hx
      obtain ⟨xs, hx, hb⟩ := Option.bind_eq_some_iff.mp hx
      obtain ⟨a, us, rfl, sq, s⟩ := lstOf_ok hx c r1
      have e := blsOf_ok hb s
      subst e
      exact ⟨a, bs, rfl, sq, P.same c (show Rel K H (.bl _) (.bl _) from rfl) h⟩
    · exact h.elim
  · exact h.elim
/-- all ints -/
def intsOf : List DV → Option (List Int)
  | [] => some []
  | .int b :: r => (intsOf r).map (b :: ·)
  | _ => none
theorem intsOf_ok {H : Hp} : ∀ {ds : List DV} {bs : List Int} {vs : List V}, intsOf ds = some bs → Rels K H ds vs → vs = bs.map V.int
  | [], _, _, h, r => by cases (show _ = _ from r); cases h; rfl
  | .int b :: ds, _, _, h, r => by
    obtain ⟨v, q, rfl, r1, r2⟩ := r
    cases (show _ = _ from r1)
    simp only [intsOf, Option.map_eq_some_iff] at h
    obtain ⟨bs, e, rfl⟩ := h
    rw [intsOf_ok e r2]; rfl
  | .non :: _, _, _, h, _ => by cases h
  | .bl _ :: _, _, _, h, _ => by cases h
  | .str _ :: _, _, _, h, _ => by cases h
  | .tup _ :: _, _, _, h, _ => by cases h
  | .rol _ :: _, _, _, h, _ => by cases h
  | .ref _ :: _, _, _, h, _ => by cases h
  | .ty _ :: _, _, _, h, _ => by cases h
def fSum : FC := fun ds S Q => match ds with
  | [x] => (match (lstOf x S).bind intsOf with
    | some bs => Q (.int bs.sum) S
    | none => False)
  | _ => False
theorem cd_sum : CallD K (rSum K) fSum := by
  intro ds S vs H Q1 Q h c r P
  unfold fSum at h
  split at h
  · obtain ⟨v, q, rfl, r1, r2⟩ := r
    cases (show _ = _ from r2)
    split at h
    · rename_i bs hx
      obtain ⟨xs, hx, hb⟩ := Option.bind_eq_some_iff.mp hx
      obtain ⟨a, us, rfl, sq, s⟩ := lstOf_ok hx c r1
      have e := intsOf_ok hb s
      subst e
      exact ⟨a, bs, rfl, sq, P.same c (show Rel K H (.int _) (.int _) from rfl) h⟩
    · exact h.elim
  · exact h.elim
end

/-! ### isinstance -/
def tyD (Z : Zt) (x : DV) (S : Sto) : Option DV := match x with
  | .non => some (.ty "NoneType")
  | .bl _ => some (.ty "bool")
  | .int _ => some (.ty "int")
  | .str _ => some (.ty "str")
  | .tup _ => some (.ty "tuple")
  | .rol _ => some (.ty "list")
  | .ref a => (match S a with
    | some (.lst _) => some (.ty "list")
    | some (.dK _) => some (.ty "dict")
    | some (.dT _) => some (.ty "dict")
    | some (.ins C _) => if Z.cls C then some (.ref C) else none
    | none => none)
  | .ty _ => none
def kitAnyD (Z : Zt) (t : DV) : List DV → Option Bool
  | [] => some false
  | c :: r => match Z.kit t c with
    | some true => some true
    | some false => kitAnyD Z t r
    | none => none
def isCls : DV → Bool
  | .ty _ => true
  | .ref _ => true
  | _ => false
def fIsi (Z : Zt) : FC := fun ds S Q => match ds with
  | [x, .tup cs] => cs.all isCls = true ∧ (match (tyD Z x S).bind fun t => kitAnyD Z t cs with
    | some b => Q (.bl b) S
    | none => False)
  | [x, c] => isCls c = true ∧ (match (tyD Z x S).bind fun t => Z.kit t c with
    | some b => Q (.bl b) S
    | none => False)
  | _ => False
section
variable {K : PySem.W.Frag} {Z : Zt} {H : Hp} {S : Sto}
theorem tyD_ok (z : ZOk K Z) {x t : DV} {v : V} (h : tyD Z x S = some t) (c : Conc K S H) (r : Rel K H x v) : TyX K H v (tyVal t) := by
  unfold tyD at h
  split at h
  · cases (show _ = _ from r); cases h; exact .base .non
  · cases (show _ = _ from r); cases h; exact .base (.bl _)
  · cases (show _ = _ from r); cases h; exact .base (.int _)
  · cases (show _ = _ from r); cases h; exact .base (.str _)
  · obtain ⟨a, vs, rfl, q, s⟩ := r
    cases h
    rcases q with (q | ⟨o, q⟩) | ⟨o, its, n, q, q2, _⟩
    · exact .base (.tup q)
    · exact .fTuple q
    · exact .kTuple q q2
  · obtain ⟨a, vs, rfl, q, s⟩ := r
    cases h
    rcases q with ⟨o, q⟩ | ⟨o, its, n, q, q2, _⟩
    · exact .base (.frz q)
    · exact .kList q q2
  · cases (show _ = _ from r)
    split at h
    · rename_i h1
      obtain ⟨vs, e, s⟩ := c.lst h1
      cases h; exact .base (.lst e)
    · rename_i h1
      obtain ⟨us, e, s⟩ := c _ _ h1
      cases h; exact .base (.dK e)
    · rename_i h1
      obtain ⟨us, e, s⟩ := c _ _ h1
      cases h; exact .base (.dT e)
    · rename_i h1
      obtain ⟨dx, gs, e, s⟩ := c _ _ h1
      split at h
      · rename_i hc
        cases h
        have k := z.cls _ hc
        exact .base (.ins e k.cl k.ha k.hn k.ht k.hm)
      · cases h
    · cases h
  · cases h
theorem clsV_of {c : DV} {v : V} (h : isCls c = true) (r : Rel K H c v) : ClsV v (tyVal c) := by
  cases c <;> (try cases h) <;> cases (show _ = _ from r)
  · exact .own _
  · exact .ty _
theorem clsVs_of : ∀ {cs : List DV} {vs : List V}, cs.all isCls = true → Rels K H cs vs → Paired ClsV vs (cs.map tyVal)
  | [], _, _, r => by cases (show _ = _ from r); exact .nil
  | c :: cs, _, h, r => by
    obtain ⟨v, q, rfl, r1, r2⟩ := r
    simp only [List.all_cons, Bool.and_eq_true] at h
    exact .cons (clsV_of h.1 r1) (clsVs_of h.2 r2)
theorem kitAny_ok (z : ZOk K Z) {t : DV} : ∀ {cs : List DV} {b : Bool}, kitAnyD Z t cs = some b → PySem.W.kitAny K (tyVal t) (cs.map tyVal) = some b
  | [], _, h => h
  | c :: cs, b, h => by
    unfold kitAnyD at h
    split at h
    · rename_i e
      cases h
      exact kitAny_cons (z.kit _ _ _ e) (fun q => nomatch q) fun _ => rfl
    · rename_i e
      exact kitAny_cons (z.kit _ _ _ e) (fun _ => kitAny_ok z h) fun q => nomatch q
    · cases h
/-- isinstance(x, T), T any tuple of classes -/
def rIsiS (K : PySem.W.Frag) : List V → Hp → VK → Prop := fun xs H Q => ∃ (x : V) (tp : Addr) (cs : List V) (t : Value) (us : List Value) (b : Bool), xs = [x, .ref tp] ∧ SqT K H tp cs ∧ Paired ClsV cs us ∧ TyX K H x t ∧ PySem.W.kitAny K t us = some b ∧ Q (.bl b) H
theorem call_isiS {X : Cx} : CallR X (.builtin "isinstance") (rIsiS X.K) := by
  intro pins s σ H xs us Q I r h
  obtain ⟨x, tp, cs, t, ws, b, rfl, hT, k, ty, e, q⟩ := h
  obtain ⟨u1, u2, rfl, r1, r2⟩ := vals2 r
  cases (show u2 = Value.ref tp from r2)
  obtain ⟨P, Z, p, hx⟩ := kit_of I r1 ty
  obtain ⟨its, rv, ⟨o, h1, h2, n, h3⟩, _⟩ := I.tuple hT
  have e3 := ClsV.all k rv
  subst e3
  obtain ⟨oc, od, dt, sl⟩ := o
  simp only at h2 h3
  subst h2 h3
  exact PySem.W.kia_tup Z I.kIn p h1 e hx fun tk => ⟨.bl b, H, I.tok tk, rfl, q⟩
def rIsiD (K : PySem.W.Frag) : List V → Hp → VK → Prop := fun xs H Q => rIsi K xs H Q ∨ rIsiS K xs H Q
theorem call_isiD {X : Cx} : CallR X (.builtin "isinstance") (rIsiD X.K) := call_isi.or call_isiS
theorem cd_isi (z : ZOk K Z) : CallD K (rIsiD K) (fIsi Z) := by
  intro ds S vs H Q1 Q h c r P
  unfold fIsi at h
  split at h
  · obtain ⟨v, q, rfl, r1, v2, q2, rfl, r3, r2⟩ := r
    cases (show _ = _ from r2)
    obtain ⟨hc, h⟩ := h
    split at h
    · rename_i b hb
      obtain ⟨t, ht, hk⟩ := Option.bind_eq_some_iff.mp hb
      obtain ⟨tp, us, rfl, sq, s⟩ := r3
      have fin := P.same c (show Rel K H (.bl b) (.bl b) from rfl) h
      exact .inr ⟨v, tp, us, tyVal t, _, b, rfl, sq, clsVs_of hc s, tyD_ok z ht c r1, kitAny_ok z hk, fin⟩
    · exact h.elim
  · rename_i hnt
    obtain ⟨v, q, rfl, r1, v2, q2, rfl, r3, r2⟩ := r
    cases (show _ = _ from r2)
    obtain ⟨hc, h⟩ := h
    split at h
    · rename_i b hb
      obtain ⟨t, ht, hk⟩ := Option.bind_eq_some_iff.mp hb
      exact .inl ⟨v, v2, tyVal t, _, b, rfl, clsV_of hc r3, tyD_ok z ht c r1, z.kit _ _ _ hk, P.same c (show Rel K H (.bl b) (.bl b) from rfl) h⟩
    · exact h.elim
  · exact h.elim
end
end M
set_option maxHeartbeats 4000000
namespace M
open PySem PySem.Spec PyProof.Rows L2

/-! ### calls of defs, of classes, of methods -/
@[simp] def dCall (c : Ctr) (d : DA) : DE := fun Γ S Q X => d Γ S (fun ds S1 => c ds S1 Q X) X
def dMake (C : Addr) (c : Ctr) (d : DA) : DE := fun Γ S Q X => d Γ S (fun ds S1 => ∀ x, S1 x = none → c (.ref x :: ds) (S1.upd x (.ins C [])) (fun r S2 => r = .non ∧ Q (.ref x) S2) X) X
def dMeth (m : Str) (tab : Addr → Option Ctr) (d : DE) (da : DA) : DE := fun Γ S Q X => d Γ S (fun x S1 => match x with
  | .ref a => (match S1 a with
    | some (.ins C fs) => fs.lookup m = none ∧ (match tab C with
      | some c => da Γ S1 (fun ds S2 => c (.ref a :: ds) S2 Q X) X
      | none => False)
    | _ => False)
  | _ => False) X
section
variable {X : Cx} {W : WX} {pos p apos : Pos} {a o : Expr} {es : List Expr} {da : DA} {d : DE} {x m : Str} {k : Nat} {f C : Addr} {fd : FuncData} {ps : List Str} {c : Ctr}
theorem je_call (F : FnOk X.prog X.w X.K X.mg X.base (L2.CX X.prog X.w) k f fd ps (liftSp X.K c)) (hr : Room k X.A) (hg : Gl X x) (hm : X.mg x = some (.ref f)) (hk : PySem.W.keepIn X.K (.ref f) = true) (hb : Binds X.K fd ps []) (tk : Takes X W)
    (ha : PA X (a :: es) (LA X.K W da)) (hdb : (x == ("__debug__" : Str)) = false) (he : starEach (a :: es) X.env = (false, eval a X.env) :: starEach es X.env) (hpl : (backTo pos (starEach es X.env)).any (·.1) = false) :
    PE X (.Call (.Name x p) (a :: es) [] pos) (LE X.K W (dCall c da)) := by
  refine PE.imp (pe_callS (E := WE W) F hr hg hm hk hb (fun σ => passAt tk σ) ha hdb he hpl) fun σ H Q h => ?_
  obtain ⟨Γ, S, Q1, X1, e, cc, h, P, PX⟩ := h
  exact ⟨Γ, S, _, X1, e, cc, h, fun ds S1 vs H1 q t1 c1 r1 => ⟨ds, S1, Q1, X1, r1, c1, q, P.le t1, fun x S' cls d H' hx t' c' xr => PX x S' cls d H' hx (t1.trans t') c' xr⟩, PX⟩
theorem je_call0 (F : FnOk X.prog X.w X.K X.mg X.base (L2.CX X.prog X.w) k f fd ps (liftSp X.K c)) (hr : Room k X.A) (hg : Gl X x) (hm : X.mg x = some (.ref f)) (hk : PySem.W.keepIn X.K (.ref f) = true) (hb : Binds X.K fd ps []) (tk : Takes X W)
    (hdb : (x == ("__debug__" : Str)) = false) : PE X (.Call (.Name x p) [] [] pos) (LE X.K W (dCall c daNil)) := by
  refine ⟨fun pins s σ H Q I h => ?_⟩
  obtain ⟨Γ, S, Q1, X1, e, cc, h, P, PX⟩ := h
  refine wpAny_Call_Name_kw (ld_glob I hg hm ?_ hdb)
  exact PySem.W.callWith_K0 I.kIn hk (run_fnS (E := WE W) (us := []) (vs := []) F hr hb (passAt tk σ) I .nil ⟨[], S, Q1, X1, .nil, cc, h, P, PX⟩)
theorem run_makeS {pins : List (Addr × Obj)} {σ : L2.St} {H : Hp} {s : Shared} {Q : VK} {E : XK} {us : List Value} {vs : List V} {sp : Sp} (M : Mk X.K C f) (F : FnOk X.prog X.w X.K X.mg X.base (L2.CX X.prog X.w) k f fd ps sp) (hr : Room (k + 1) X.A) (hb : Binds X.K fd ps [])
    (hx : PassesAt (L2.CX X.prog X.w) X σ E) (I : Inv X pins σ H s) (r : Vals vs us)
    (h : ∀ x dx, H x = none → H dx = none → dx ≠ x → sp (.ref x :: vs) (upd (upd H dx (.own x)) x (.ins C dx [])) (fun v H2 => v = .non ∧ Q (.ref x) H2) E) :
    wpAny (model X.prog X.w) X.A (call (.ref C) us) (EP X pins σ Q) X.xe s := by
  have hq := h (s.heap.objs.size + 1) s.heap.objs.size (I.hok.fresh (Nat.le_succ _)) (I.hok.fresh (Nat.le_refl _)) (Nat.ne_of_lt (Nat.lt_succ_self _))
  have I2 := Inv.made (C := C) I
  have r2 : Vals (V.ref (s.heap.objs.size + 1) :: vs) (Value.ref (s.heap.objs.size + 1) :: us) := .cons rfl r
  have hl : (Value.ref (s.heap.objs.size + 1) :: us).length = ps.length := by
    have e := r2.length
    rw [F.len _ _ _ _ hq] at e
    exact e.symm
  have b := hb _ (Value.ref (s.heap.objs.size + 1) :: us) I2.kIn (by rw [List.append_nil]; exact hl)
  rw [List.append_nil] at b
  refine wpAny_call (make_map (f := f) I.kIn M.makes M.init (beq_iff_eq.mp M.fn) (codeAny_mono (F.run _ X.stack _ _ ⟨Value.ref (s.heap.objs.size + 1) :: us, []⟩ (Value.ref (s.heap.objs.size + 1) :: us) _ _ E (hr.make C us [])
    (I2.env0.make C us []) b r2 hq) fun r s' hq' => ?_))
  cases r with
  | error e => exact hx pins _ _ e s' I2 hq'
  | ok fl =>
    cases fl with
    | ret u =>
      obtain ⟨v, H', I3, rv, ev, q3⟩ := I2.after hq'
      subst ev
      exact ⟨rv, ⟨V.ref (s.heap.objs.size + 1), H', I3, rfl, q3⟩⟩
    | next => exact False.elim hq'
    | brk => exact False.elim hq'
    | cont => exact False.elim hq'
theorem make_sp {K : PySem.W.Frag} {H1 : Hp} {S1 : Sto} {ds : List DV} {vs : List V} {Q1 : QV} {X1 : QX} {Q : VK} {σ : L2.St} {xx dx : Addr} (q : ∀ x, S1 x = none → c (.ref x :: ds) (S1.upd x (.ins C [])) (fun r S2 => r = .non ∧ Q1 (.ref x) S2) X1)
    (c1 : Conc K S1 H1) (r1 : Rels K H1 ds vs) (P : PostV K H1 Q1 Q) (PX : PostX K H1 σ X1 W) (h1 : H1 xx = none) (h2 : H1 dx = none) (ne : dx ≠ xx) :
    liftSp K c (.ref xx :: vs) (upd (upd H1 dx (.own xx)) xx (.ins C dx [])) (fun v H2 => v = .non ∧ Q (.ref xx) H2) (WE W σ) := by
  have t0 : TLe H1 (upd H1 dx (.own xx)) := TLe.new h2
  have n2 : upd H1 dx (.own xx) xx = none := by rw [upd_ne (Ne.symm ne)]; exact h1
  have t1 : TLe H1 (upd (upd H1 dx (.own xx)) xx (.ins C dx [])) := t0.trans (TLe.new n2)
  refine ⟨.ref xx :: ds, S1.upd xx (.ins C []), _, X1, .cons rfl (r1.mono t1), (c1.lay h2).new (o := .ins C []) n2 ⟨dx, [], upd_same, rfl⟩, q xx (c1.free h1), fun r S' v H' qq t' c' rr => ?_, fun x S' cls d H' hx t' c' xr => PX x S' cls d H' hx (t1.trans t') c' xr⟩
  obtain ⟨e, qq⟩ := qq
  subst e
  exact ⟨rr, P _ _ _ _ qq (t1.trans t') c' rfl⟩
theorem je_make (M : Mk X.K C f) (F : FnOk X.prog X.w X.K X.mg X.base (L2.CX X.prog X.w) k f fd ps (liftSp X.K c)) (hr : Room (k + 1) X.A) (hg : Gl X x) (hm : X.mg x = some (.ref C)) (hb : Binds X.K fd ps []) (tk : Takes X W)
    (ha : PA X (a :: es) (LA X.K W da)) (hdb : (x == ("__debug__" : Str)) = false) (he : starEach (a :: es) X.env = (false, eval a X.env) :: starEach es X.env) (hpl : (backTo pos (starEach es X.env)).any (·.1) = false) :
    PE X (.Call (.Name x p) (a :: es) [] pos) (LE X.K W (dMake C c da)) := by
  refine ⟨fun pins s σ H Q I h => ?_⟩
  obtain ⟨Γ, S, Q1, X1, e, cc, h, P, PX⟩ := h
  refine wpAny_Call_Name_kw (ld_glob I hg hm ?_ hdb)
  refine PySem.W.callWith_K (h₀ := X.base) I.ok.mod.kin M.kp (thn (ha.run pos pins s σ H (fun vs H1 => ∀ x dx, H1 x = none → H1 dx = none → dx ≠ x → liftSp X.K c (.ref x :: vs) (upd (upd H1 dx (.own x)) x (.ins C dx [])) (fun v H2 => v = .non ∧ Q (.ref x) H2) (WE W σ)) I
    ⟨Γ, S, _, X1, e, cc, h, fun ds S1 vs H1 q t1 c1 r1 xx dx h1 h2 ne => make_sp q c1 r1 (P.le t1) (PX.le t1) h1 h2 ne, PX⟩) fun us s1 ⟨vs, H1, I1, r, q⟩ => ⟨I1.kIn, ?_⟩) he hpl
  exact run_makeS M F hr hb (passAt tk σ) I1 r q
theorem je_make0 (M : Mk X.K C f) (F : FnOk X.prog X.w X.K X.mg X.base (L2.CX X.prog X.w) k f fd ps (liftSp X.K c)) (hr : Room (k + 1) X.A) (hg : Gl X x) (hm : X.mg x = some (.ref C)) (hb : Binds X.K fd ps []) (tk : Takes X W)
    (hdb : (x == ("__debug__" : Str)) = false) : PE X (.Call (.Name x p) [] [] pos) (LE X.K W (dMake C c daNil)) := by
  refine ⟨fun pins s σ H Q I h => ?_⟩
  obtain ⟨Γ, S, Q1, X1, e, cc, h, P, PX⟩ := h
  refine wpAny_Call_Name_kw (ld_glob I hg hm ?_ hdb)
  exact PySem.W.callWith_K0 I.kIn M.kp (run_makeS (us := []) (vs := []) M F hr hb (passAt tk σ) I .nil fun xx dx h1 h2 ne => make_sp (σ := σ) h cc .nil P PX h1 h2 ne)

/-- the form of a method's call -/
theorem methcall_any {args : List Expr} {pins : List (Addr × Obj)} {s : Shared} {σ : L2.St} {H : Hp} {Q : Value → Shared → Prop} {te : TE} (he : PE X o te) (I : Inv X pins σ H s)
    (hbase : attributeBase o m X.env (eval o X.env) = eval o X.env)
    (hfew : methodCallForm (args.length + ([] : List Keyword).length) (backTo pos (starEach args X.env)) (backToKw pos (keywordEach [] X.env)) = true) (hline : (apos.endLine == pos.line) = true)
    (h : te σ H fun x H1 => ∀ s1 u, Inv X pins σ H1 s1 → RelV x u → wpAny (model X.prog X.w) X.A (getMethod u m (do return (← importBound o X.env).getD true)) (fun fx s2 => wpAny (model X.prog X.w) X.A (callWith pos fx.1 fx.2 (backTo pos (starEach args X.env)) (backToKw pos (keywordEach [] X.env))) Q X.xe s2) X.xe s1) :
    wpAny (model X.prog X.w) X.A (eval (.Call (.Attribute o m apos) args [] pos) X.env) Q X.xe s := by
  rw [arm_eval_Call, hbase]
  refine wpAny_bind (thn (he.run pins s σ H _ I h) fun u s1 ⟨x, H1, I1, rx, q⟩ => ?_)
  refine wpAny_bind (wpAny_standAt ?_)
  have q1 := q s1 u I1 rx
  unfold methodCall calleeOf methodCallPos
  simp only [hfew, hline, if_true, Bool.not_true, Bool.or_true, Bool.false_or]
  refine wpAny_bind (wpAny_holding (thn q1 fun fx s2 q2 => ?_))
  exact wpAny_bind (wpAny_pure q2)

/-- the methods that are known -/
def MTab (X : Cx) (k : Nat) (m : Str) (tab : Addr → Option Ctr) : Prop :=
  ∀ C c, tab C = some c → ∃ f fd ps, Cls X.K C ∧ Meth X.K C m f ∧ FnOk X.prog X.w X.K X.mg X.base (L2.CX X.prog X.w) k f fd ps (liftSp X.K c) ∧ Binds X.K fd ps []
theorem je_meth {tab : Addr → Option Ctr} (T : MTab X k m tab) (hr : Room k X.A) (tk : Takes X W) (ho : PE X o (LE X.K W d)) (ha : PA X (a :: es) (LA X.K W da))
    (hbase : attributeBase o m X.env (eval o X.env) = eval o X.env)
    (hfew : methodCallForm ((a :: es).length + ([] : List Keyword).length) (backTo pos (starEach (a :: es) X.env)) (backToKw pos (keywordEach [] X.env)) = true) (hline : (apos.endLine == pos.line) = true)
    (he : starEach (a :: es) X.env = (false, eval a X.env) :: starEach es X.env) (hpl : (backTo pos (starEach es X.env)).any (·.1) = false) :
    PE X (.Call (.Attribute o m apos) (a :: es) [] pos) (LE X.K W (dMeth m tab d da)) := by
  refine ⟨fun pins s σ H Q I h => ?_⟩
  obtain ⟨Γ, S, Q1, X1, e, cc, h, P, PX⟩ := h
  refine methcall_any ho I hbase hfew hline ⟨Γ, S, _, X1, e, cc, h, fun x S1 v H1 q t1 c1 r1 s1 u I1 ru => ?_, PX⟩
  dsimp only at q
  split at q
  · cases (show _ = _ from r1)
    split at q
    · rename_i h1
      obtain ⟨dx, gs, e1, s⟩ := c1 _ _ h1
      obtain ⟨l, q⟩ := q
      split at q
      · rename_i c' hc
        obtain ⟨f, fd, ps, cl, mt, F, hb⟩ := T _ _ hc
        obtain rfl : u = Value.ref _ := ru
        refine getmeth_ok I1 e1 cl mt (relF_none s l) ?_
        refine PySem.W.callWith_K (first := [.ref _]) (h₀ := X.base) I.ok.mod.kin mt.kp (thn (ha.run pos pins s1 σ H1 (fun vs H2 => liftSp X.K c' (.ref _ :: vs) H2 Q (WE W σ)) I1 ⟨Γ, S1, _, X1, e.mono t1, c1, q, fun ds S2 vs H2 q2 t2 c2 r2 =>
          ⟨.ref _ :: ds, S2, Q1, X1, .cons rfl r2, c2, q2, P.le (t1.trans t2), fun x S' cls d H' hx t' c' xr => PX x S' cls d H' hx ((t1.trans t2).trans t') c' xr⟩, PX.le t1⟩) fun us s2 ⟨vs, H2, I2, r, q2⟩ => ⟨I2.kIn, ?_⟩) he hpl
        exact run_fnS (E := WE W) (us := .ref _ :: us) (vs := .ref _ :: vs) F hr hb (passAt tk σ) I2 (.cons rfl r) q2
      · exact q.elim
    · exact q.elim
  · exact q.elim
theorem je_meth0 {tab : Addr → Option Ctr} (T : MTab X k m tab) (hr : Room k X.A) (tk : Takes X W) (ho : PE X o (LE X.K W d))
    (hbase : attributeBase o m X.env (eval o X.env) = eval o X.env) (hline : (apos.endLine == pos.line) = true) :
    PE X (.Call (.Attribute o m apos) [] [] pos) (LE X.K W (dMeth m tab d daNil)) := by
  refine ⟨fun pins s σ H Q I h => ?_⟩
  obtain ⟨Γ, S, Q1, X1, e, cc, h, P, PX⟩ := h
  refine methcall_any ho I hbase rfl hline ⟨Γ, S, _, X1, e, cc, h, fun x S1 v H1 q t1 c1 r1 s1 u I1 ru => ?_, PX⟩
  dsimp only at q
  split at q
  · cases (show _ = _ from r1)
    split at q
    · rename_i h1
      obtain ⟨dx, gs, e1, s⟩ := c1 _ _ h1
      obtain ⟨l, q⟩ := q
      split at q
      · rename_i c' hc
        obtain ⟨f, fd, ps, cl, mt, F, hb⟩ := T _ _ hc
        obtain rfl : u = Value.ref _ := ru
        refine getmeth_ok I1 e1 cl mt (relF_none s l) ?_
        exact PySem.W.callWith_K0 (first := [.ref _]) I1.kIn mt.kp (run_fnS (E := WE W) (us := [.ref _]) (vs := [.ref _]) F hr hb (passAt tk σ) I1 (.cons rfl .nil)
          ⟨[.ref _], S1, Q1, X1, .cons rfl .nil, c1, q, P.le t1, fun x S' cls d H' hx t' c' xr => PX x S' cls d H' hx (t1.trans t') c' xr⟩)
      · exact q.elim
    · exact q.elim
  · exact q.elim

/-! ### methods of built-in types -/
/-- g: what must be so of the receiver ahead of the arguments -/
abbrev FMt := DV → Sto → List DV → QV → Prop
@[simp] def dMt (g : DV → Sto → Bool) (f : FMt) (d : DE) (da : DA) : DE := fun Γ S Q X => d Γ S (fun x S1 => g x S1 = true ∧ da Γ S1 (fun ds S2 => f x S2 ds Q) X) X
def MtDyn (X : Cx) (m : Str) (g : DV → Sto → Bool) (f : FMt) : Prop := ∀ (x : DV) (S : Sto) (v : V) (H : Hp), g x S = true → Conc X.K S H → Rel X.K H x v →
  ∃ T id r, PlainAttrs T ∧ Slot T m id ∧ typeOf (.builtin id) = pure (.type "method_descriptor") ∧ MtR X id r ∧ tyV X.K T v H ∧
    ∀ (ds : List DV) (S2 : Sto) (vs : List V) (H2 : Hp) (Q1 : QV) (Q : VK), f x S2 ds Q1 → Conc X.K S2 H2 → Rel X.K H2 x v → Rels X.K H2 ds vs → PostV X.K H2 Q1 Q → r v vs H2 Q
theorem je_mt {g : DV → Sto → Bool} {f : FMt} (T : MtDyn X m g f) (ho : PE X o (LE X.K W d)) (ha : PA X (a :: es) (LA X.K W da))
    (hbase : attributeBase o m X.env (eval o X.env) = eval o X.env)
    (hfew : ((backTo pos (starEach (a :: es) X.env)).all (fun x => !x.1) && (backToKw pos (keywordEach [] X.env)).all (fun x => x.1.isSome)
      && decide ((a :: es).length + ([] : List Keyword).length + (if ([] : List Keyword).isEmpty then 0 else 1) < 30)) = true)
    (hline : (apos.endLine == pos.line) = true) (he : starEach (a :: es) X.env = (false, eval a X.env) :: starEach es X.env) (hpl : (backTo pos (starEach es X.env)).any (·.1) = false) :
    PE X (.Call (.Attribute o m apos) (a :: es) [] pos) (LE X.K W (dMt g f d da)) := by
  refine ⟨fun pins s σ H Q I h => ?_⟩
  obtain ⟨Γ, S, Q1, X1, e, cc, h, P, PX⟩ := h
  refine wpAny_Call_method_late hbase hfew hline rfl (thn (ho.run pins s σ H (fun x H1 => ∃ T id r, PlainAttrs T ∧ Slot T m id ∧ typeOf (.builtin id) = pure (.type "method_descriptor") ∧ MtR X id r ∧ tyV X.K T x H1 ∧ LA X.K W da σ H1 fun vs H2 => r x vs H2 Q) I
    ⟨Γ, S, _, X1, e, cc, h, fun x S1 v H1 q t1 c1 r1 => ?_, PX⟩) fun v s1 ⟨x, H1, I1, r1, T, id, r, pa, slot, hty, hm, ty, q⟩ => ?_)
  · obtain ⟨hg, q⟩ := q
    obtain ⟨T, id, r, pa, slot, hty, hm, ty, k⟩ := T x S1 v H1 hg c1 r1
    exact ⟨T, id, r, pa, slot, hty, hm, ty, Γ, S1, _, X1, e.mono t1, c1, q, fun ds S2 vs H2 q2 t2 c2 r2 => k ds S2 vs H2 Q1 Q q2 c2 (r1.mono t2) r2 (P.le (t1.trans t2)), PX.le t1⟩
  · obtain ⟨h1, h2⟩ := tyV_is I1 r1 ty
    refine ⟨T, id, pa, slot, hty, h1, h2, ?_⟩
    have hA := ha.run pos pins s1 σ H1 _ I1 q
    rw [he] at hA ⊢
    refine Calls.callWith_builtin (by show (false || (backTo pos (starEach es X.env)).any (·.1)) = false; rw [hpl] <;> rfl) (Calls.evalArgs_plain ?_)
    exact thn hA fun us s2 ⟨vs, H2, I2, r2, q2⟩ => hm pins s2 σ H2 x vs v us Q I2 r1 r2 q2
theorem je_mt0 {g : DV → Sto → Bool} {f : FMt} (T : MtDyn X m g f) (ho : PE X o (LE X.K W d))
    (hbase : attributeBase o m X.env (eval o X.env) = eval o X.env) (hline : (apos.endLine == pos.line) = true) :
    PE X (.Call (.Attribute o m apos) [] [] pos) (LE X.K W (dMt g f d daNil)) := by
  refine ⟨fun pins s σ H Q I h => ?_⟩
  obtain ⟨Γ, S, Q1, X1, e, cc, h, P, PX⟩ := h
  refine wpAny_Call_method0_late hbase hline (thn (ho.run pins s σ H (fun x H1 => ∃ T id r, PlainAttrs T ∧ Slot T m id ∧ typeOf (.builtin id) = pure (.type "method_descriptor") ∧ MtR X id r ∧ tyV X.K T x H1 ∧ r x [] H1 Q) I
    ⟨Γ, S, _, X1, e, cc, h, fun x S1 v H1 q t1 c1 r1 => ?_, PX⟩) fun v s1 ⟨x, H1, I1, r1, T, id, r, pa, slot, hty, hm, ty, q⟩ => ?_)
  · obtain ⟨hg, q⟩ := q
    obtain ⟨T, id, r, pa, slot, hty, hm, ty, k⟩ := T x S1 v H1 hg c1 r1
    exact ⟨T, id, r, pa, slot, hty, hm, ty, k [] S1 [] H1 Q1 Q q c1 r1 .nil (P.le t1)⟩
  · obtain ⟨h1, h2⟩ := tyV_is I1 r1 ty
    exact ⟨T, id, pa, slot, hty, h1, h2, Calls.callWith_builtin rfl (PySem.evalArgs_none (hm pins s1 σ H1 x [] v [] Q I1 r1 .nil q))⟩
def isLst (x : DV) (S : Sto) : Bool := match x with
  | .ref a => (match S a with
    | some (.lst _) => true
    | _ => false)
  | _ => false
def isStrD (x : DV) (_ : Sto) : Bool := match x with
  | .str _ => true
  | _ => false
theorem isLst_ok {K : PySem.W.Frag} {S : Sto} {H : Hp} {x : DV} {v : V} (h : isLst x S = true) (c : Conc K S H) (r : Rel K H x v) : ∃ a ds vs, x = .ref a ∧ v = .ref a ∧ S a = some (.lst ds) ∧ H a = some (.lst vs) ∧ Rels K H ds vs := by
  unfold isLst at h
  split at h
  · split at h
    · rename_i h1
      cases (show _ = _ from r)
      obtain ⟨vs, e, s⟩ := c.lst h1
      exact ⟨_, _, vs, rfl, rfl, h1, e, s⟩
    · cases h
  · cases h
def mAppend : FMt := fun x S ds Q => match x, ds with
  | .ref a, [d] => (match S a with
    | some (.lst xs) => xs.length < sizeLine ∧ Q .non (S.upd a (.lst (xs ++ [d])))
    | _ => False)
  | _, _ => False
theorem PostV.wr {K : PySem.W.Frag} {H : Hp} {S : Sto} {p : Addr} {mo mo' : MO} {ho : HO} {Q1 : QV} {Q : VK} {d : DV} {v : V} (P : PostV K H Q1 Q) (c : Conc K S H) (hp : S p = some mo') (r : MOk K (upd H p ho) p mo) (rd : Rel K H d v) (q : Q1 d (S.upd p mo)) : Q v (upd H p ho) :=
  P d _ v _ q (c.tle_write hp) (c.write hp r) (rd.mono (c.tle_write hp))
theorem PostV.wrL {K : PySem.W.Frag} {H : Hp} {S : Sto} {p : Addr} {mo' : MO} {ds : List DV} {vs : List V} {Q1 : QV} {Q : VK} {d : DV} {v : V} (P : PostV K H Q1 Q) (c : Conc K S H) (hp : S p = some mo') (r : Rels K H ds vs) (rd : Rel K H d v) (q : Q1 d (S.upd p (.lst ds))) : Q v (upd H p (.lst vs)) :=
  P.wr (mo := .lst ds) c hp ⟨vs, upd_same, r.mono (c.tle_write hp)⟩ rd q
theorem md_append : MtDyn X "append" isLst mAppend := by
  intro x S v H g c r
  obtain ⟨a, ds, vs, rfl, rfl, h1, e, s⟩ := isLst_ok g c r
  refine ⟨_, _, _, PySem.F.plainAttrs_list, PySem.F.slot_list_append, PySem.F.type_list_append, mt_append, .inl ⟨rfl, vs, SqL.of e⟩, fun ds S2 vs H2 Q1 Q h c2 r2 rs P => ?_⟩
  unfold mAppend at h
  split at h
  · rename_i a' d' hh
    cases hh
    obtain ⟨w, q, rfl, r3, r4⟩ := rs
    cases (show _ = _ from r4)
    split at h
    · rename_i xs hx
      obtain ⟨ws, e2, s2⟩ := c2.lst hx
      exact ⟨_, ws, w, rfl, rfl, e2, by rw [s2.length]; exact h.1, P.wrL c2 hx (s2.append (.cons r3 .nil)) (show Rel X.K H2 .non .non from rfl) h.2⟩
    · exact h.elim
  · exact h.elim
def mExtend : FMt := fun x S ds Q => match x, ds with
  | .ref a, [.ref b] => (match S a, S b with
    | some (.lst xs), some (.lst ys) => xs.length + ys.length ≤ sizeLine ∧ Q .non (S.upd a (.lst (xs ++ ys)))
    | _, _ => False)
  | _, _ => False
theorem md_extend : MtDyn X "extend" isLst mExtend := by
  intro x S v H g c r
  obtain ⟨a, ds, vs, rfl, rfl, h1, e, s⟩ := isLst_ok g c r
  refine ⟨_, _, _, PySem.F.plainAttrs_list, PySem.F.slot_list_extend, PySem.F.type_list_extend, mt_extend, .inl ⟨rfl, vs, SqL.of e⟩, fun ds S2 vs H2 Q1 Q h c2 r2 rs P => ?_⟩
  unfold mExtend at h
  split at h
  · rename_i a' d' hh
    cases hh
    obtain ⟨w, q, rfl, r3, r4⟩ := rs
    cases (show _ = _ from r4); cases (show _ = _ from r3)
    split at h
    · rename_i xs ys hx hy
      obtain ⟨ws, e2, s2⟩ := c2.lst hx
      obtain ⟨zs, e3, s3⟩ := c2.lst hy
      exact ⟨_, _, ws, zs, rfl, rfl, e2, e3, by rw [s2.length, s3.length]; exact h.1, P.wrL c2 hx (s2.append s3) (show Rel X.K H2 .non .non from rfl) h.2⟩
    · exact h.elim
  · exact h.elim
/-- pop() and pop(i) of a list -/
def mPop : FMt := fun x S ds Q => match x, ds with
  | .ref a, [] => (match S a with
    | some (.lst xs) => (match xs[xs.length - 1]? with
      | some d => Q d (S.upd a (.lst xs.dropLast))
      | none => False)
    | _ => False)
  | .ref a, [.int i] => (match S a with
    | some (.lst xs) => -(2 ^ 63) ≤ i ∧ i < 2 ^ 63 ∧ (match ixN xs.length i with
      | some j => (match xs[j]? with
        | some d => Q d (S.upd a (.lst (xs.eraseIdx j)))
        | none => False)
      | none => False)
    | _ => False)
  | _, _ => False
theorem mtr_or {id : String} {r r' : V → List V → Hp → VK → Prop} (h : MtR X id r) (h' : MtR X id r') : MtR X id (fun x xs H Q => r x xs H Q ∨ r' x xs H Q) := MtR.or h h'
theorem md_pop : MtDyn X "pop" isLst mPop := by
  intro x S v H g c r
  obtain ⟨a, ds, vs, rfl, rfl, h1, e, s⟩ := isLst_ok g c r
  refine ⟨_, _, _, PySem.F.plainAttrs_list, PySem.F.slot_list_pop, PySem.F.type_list_pop, mtr_or mt_pop mt_popAt, .inl ⟨rfl, vs, SqL.of e⟩, fun ds S2 vs H2 Q1 Q h c2 r2 rs P => ?_⟩
  unfold mPop at h
  split at h
  · rename_i a' hh
    cases hh
    cases (show _ = _ from rs)
    split at h
    · rename_i xs hx
      split at h
      · rename_i d hd
        obtain ⟨ws, e2, s2⟩ := c2.lst hx
        rw [← s2.length] at hd
        obtain ⟨w, ew, rw_⟩ := s2.get hd
        exact .inl ⟨_, ws, w, rfl, rfl, e2, ew, P.wrL c2 hx s2.dropLast rw_ h⟩
      · exact h.elim
    · exact h.elim
  · rename_i a' i hh
    cases hh
    obtain ⟨w, q, rfl, r3, r4⟩ := rs
    cases (show _ = _ from r4); cases (show _ = _ from r3)
    split at h
    · rename_i xs hx
      obtain ⟨b1, b2, h⟩ := h
      split at h
      · rename_i j hj
        split at h
        · rename_i d hd
          obtain ⟨ws, e2, s2⟩ := c2.lst hx
          obtain ⟨w, ew, rw_⟩ := s2.get hd
          exact .inr ⟨_, ws, i, j, w, rfl, rfl, e2, b1, b2, by rw [s2.length]; exact (ixN_seq hj).1, ew, P.wrL c2 hx (s2.eraseIdx j) rw_ h⟩
        · exact h.elim
      · exact h.elim
    · exact h.elim
  · exact h.elim
def mInsert : FMt := fun x S ds Q => match x, ds with
  | .ref a, [.int i, d] => (match S a with
    | some (.lst xs) => xs.length < sizeLine ∧ 0 ≤ i ∧ i < 2 ^ 63 ∧ Q .non (S.upd a (.lst (xs.take i.toNat ++ [d] ++ xs.drop i.toNat)))
    | _ => False)
  | _, _ => False
theorem md_insert : MtDyn X "insert" isLst mInsert := by
  intro x S v H g c r
  obtain ⟨a, ds, vs, rfl, rfl, h1, e, s⟩ := isLst_ok g c r
  refine ⟨_, _, _, PySem.F.plainAttrs_list, PySem.F.slot_list_insert, PySem.F.type_list_insert, mt_insert, .inl ⟨rfl, vs, SqL.of e⟩, fun ds S2 vs H2 Q1 Q h c2 r2 rs P => ?_⟩
  unfold mInsert at h
  split at h
  · rename_i a' i d hh
    cases hh
    obtain ⟨w, q, rfl, r3, w2, q2, rfl, r4, r5⟩ := rs
    cases (show _ = _ from r5); cases (show _ = _ from r3)
    split at h
    · rename_i xs hx
      obtain ⟨ws, e2, s2⟩ := c2.lst hx
      exact ⟨_, ws, i, w2, rfl, rfl, e2, by rw [s2.length]; exact h.1, h.2.1, h.2.2.1, P.wrL c2 hx (((s2.take _).append (.cons r4 .nil)).append (s2.drop _)) (show Rel X.K H2 .non .non from rfl) h.2.2.2⟩
    · exact h.elim
  · exact h.elim
/-- texts -/
def strsOf : List DV → Option (List Str)
  | [] => some []
  | .str b :: r => (strsOf r).map (b :: ·)
  | _ => none
theorem strsOf_ok {K : PySem.W.Frag} {H : Hp} : ∀ {ds : List DV} {bs : List Str} {vs : List V}, strsOf ds = some bs → Rels K H ds vs → vs = bs.map V.str
  | [], _, _, h, r => by cases (show _ = _ from r); cases h; rfl
  | .str b :: ds, _, _, h, r => by
    obtain ⟨v, q, rfl, r1, r2⟩ := r
    cases (show _ = _ from r1)
    simp only [strsOf, Option.map_eq_some_iff] at h
    obtain ⟨bs, e, rfl⟩ := h
    rw [strsOf_ok e r2]; rfl
  | .non :: _, _, _, h, _ => by cases h
  | .bl _ :: _, _, _, h, _ => by cases h
  | .int _ :: _, _, _, h, _ => by cases h
  | .tup _ :: _, _, _, h, _ => by cases h
  | .rol _ :: _, _, _, h, _ => by cases h
  | .ref _ :: _, _, _, h, _ => by cases h
  | .ty _ :: _, _, _, h, _ => by cases h
def mJoin : FMt := fun x S ds Q => match x, ds with
  | .str z, [y] => (match (seqOf y S).bind strsOf with
    | some ys => (ys.map (·.length)).sum + ys.length * z.length ≤ 16777216 ∧ Q (.str (Txt.join z ys)) S
    | none => False)
  | _, _ => False
theorem md_join : MtDyn X "join" isStrD mJoin := by
  intro x S v H g c r
  unfold isStrD at g
  split at g
  · cases (show _ = _ from r)
    refine ⟨_, _, _, PySem.F.plainAttrs_str, PySem.F.slot_str_join, PySem.F.type_str_join, mt_join, rfl, fun ds S2 vs H2 Q1 Q h c2 r2 rs P => ?_⟩
    unfold mJoin at h
    split at h
    · rename_i z y hh
      cases hh
      obtain ⟨w, q, rfl, r3, r4⟩ := rs
      cases (show _ = _ from r4)
      split at h
      · rename_i ys hy
        obtain ⟨xs, hx, hs⟩ := Option.bind_eq_some_iff.mp hy
        obtain ⟨p, us, rfl, sq, s⟩ := seqOf_ok hx c2 r3
        have e := strsOf_ok hs s
        subst e
        exact ⟨_, p, ys, rfl, rfl, sq, h.1, P.same c2 (show Rel X.K H2 (.str _) (.str _) from rfl) h.2⟩
      · exact h.elim
    · exact h.elim
  · cases g
end
end M
set_option maxHeartbeats 4000000
namespace M
open PySem PySem.Spec PyProof.Rows L2

/-! ### blocks -/
@[simp] def dsNext : DS := fun D Γ S => D.nx Γ S
@[simp] def dsSeq (s t : DS) : DS := fun D Γ S => s { D with nx := t D } Γ S
@[simp] def dsBreak : DS := fun D Γ S => D.bk Γ S
@[simp] def dsCont : DS := fun D Γ S => D.ct Γ S
@[simp] def dsDrop (e : DE) : DS := fun D Γ S => e Γ S (fun _ S1 => D.nx Γ S1) (fun x S1 => D.xx x Γ S1)
@[simp] def dsRet (e : DE) : DS := fun D Γ S => e Γ S D.rt (fun x S1 => D.xx x Γ S1)
@[simp] def dsRetN : DS := fun D _ S => D.rt .non S
def dsIf (c : DT) (s t : DS) : DS := fun D Γ S => c Γ S (fun b S1 => match b with
  | true => s D Γ S1
  | false => t D Γ S1) (fun x S1 => D.xx x Γ S1)
@[simp] def dsNo : DS := fun _ _ _ => False
section
variable {X : Cx} {W : WX} {st : Stmt} {rest : List Stmt} {s t : DS} {e : Expr} {d : DE} {pos : Pos}
theorem PostS.px {K : PySem.W.Frag} {H : Hp} {D1 : DEnds} {D : Ends} {Γ : Gm} {σ : L2.St} (P : PostS K W H D1 D) (e : EnvR K H Γ σ) : PostX K H σ (fun x S1 => D1.xx x Γ S1) W :=
  fun x S' cls d H' q t c xr => P.xx x Γ S' σ H' cls d q t (e.mono t) c xr
theorem jss_nil : PSs X [] (LS X.K W dsNext) := PSs.imp pss_nil fun D σ H h => by
  obtain ⟨Γ, S, D1, e, c, h, P⟩ := h
  exact P.nx _ _ _ _ h (TLe.refl _) e c
theorem jss_cons (h1 : PS X st (LS X.K W s)) (h2 : PSs X rest (LS X.K W t)) : PSs X (st :: rest) (LS X.K W (dsSeq s t)) := PSs.imp (pss_cons h1 h2) fun D σ H h => by
  obtain ⟨Γ, S, D1, e, c, h, P⟩ := h
  refine ⟨Γ, S, _, e, c, h, ⟨fun Γ' S' σ' H' q t e' c' => ⟨Γ', S', D1, e', c', q, P.le t⟩, P.rt, P.bk, P.ct, P.xx⟩⟩
theorem jss_one (h1 : PS X st (LS X.K W s)) : PSs X [st] (LS X.K W s) := pss_one h1
theorem js_pass : PS X (.Pass pos) (LS X.K W dsNext) := PS.imp ps_pass fun D σ H h => by
  obtain ⟨Γ, S, D1, e, c, h, P⟩ := h
  exact P.nx _ _ _ _ h (TLe.refl _) e c
theorem js_break : PS X (.Break pos) (LS X.K W dsBreak) := PS.imp ps_break fun D σ H h => by
  obtain ⟨Γ, S, D1, e, c, h, P⟩ := h
  exact P.bk _ _ _ _ h (TLe.refl _) e c
theorem js_cont : PS X (.Continue pos) (LS X.K W dsCont) := PS.imp ps_continue fun D σ H h => by
  obtain ⟨Γ, S, D1, e, c, h, P⟩ := h
  exact P.ct _ _ _ _ h (TLe.refl _) e c
theorem js_expr (he : PE X e (LE X.K W d)) (hs : swapsWith e none pos.line X.env = pure false) : PS X (.Expr e pos) (LS X.K W (dsDrop d)) := PS.imp (ps_expr he hs) fun D σ H h => by
  obtain ⟨Γ, S, D1, e, c, h, P⟩ := h
  exact ⟨Γ, S, _, _, e, c, h, fun r S' v H' q t c' _ => P.nx _ _ _ _ q t (e.mono t) c', P.px e⟩
theorem js_ret (he : PE X e (LE X.K W d)) : PS X (.Return (some e) pos) (LS X.K W (dsRet d)) := PS.imp (ps_ret he) fun D σ H h => by
  obtain ⟨Γ, S, D1, e, c, h, P⟩ := h
  exact ⟨Γ, S, _, _, e, c, h, P.rt, P.px e⟩
theorem js_retN : PS X (.Return none pos) (LS X.K W dsRetN) := PS.imp ps_retN fun D σ H h => by
  obtain ⟨Γ, S, D1, e, c, h, P⟩ := h
  exact P.rt .non S .non H h (TLe.refl _) c rfl
theorem js_if {c : Expr} {a b : List Stmt} {tc : DT} (hc : PT X c (LT X.K W tc)) (ha : PSs X a (LS X.K W s)) (hb : PSs X b (LS X.K W t)) : PS X (.If c a b pos) (LS X.K W (dsIf tc s t)) := PS.imp (ps_if hc ha hb) fun D σ H h => by
  obtain ⟨Γ, S, D1, e, c, h, P⟩ := h
  refine ⟨Γ, S, _, _, e, c, h, fun k S1 H1 q t1 c1 => ?_, P.px e⟩
  cases k with
  | true =>
    rw [if_pos rfl]
    exact ⟨Γ, S1, D1, e.mono t1, c1, q, P.le t1⟩
  | false =>
    rw [if_neg Bool.false_ne_true]
    exact ⟨Γ, S1, D1, e.mono t1, c1, q, P.le t1⟩
theorem js_never : PS X st (LS X.K W dsNo) := PS.imp ps_never fun D σ H h => by
  obtain ⟨Γ, S, D1, e, c, h, P⟩ := h
  exact h
end

/-! ### targets -/
abbrev QG := Gm → Sto → Prop
abbrev DG := DV → Gm → Sto → QG → QX → Prop
abbrev DGs := List DV → Gm → Sto → QG → QX → Prop
def PostG (K : PySem.W.Frag) (H : Hp) (Q1 : QG) (Q : L2.St → Hp → Prop) : Prop := ∀ Γ' S' σ' H', Q1 Γ' S' → TLe H H' → EnvR K H' Γ' σ' → Conc K S' H' → Q σ' H'
def LG (K : PySem.W.Frag) (W : WX) (g : DG) : TG := fun v σ H Q => ∃ d Γ S Q1 X1, Rel K H d v ∧ EnvR K H Γ σ ∧ Conc K S H ∧ g d Γ S Q1 X1 ∧ PostG K H Q1 Q ∧ PostX K H σ X1 W
def LGs (K : PySem.W.Frag) (W : WX) (g : DGs) : TGs := fun vs σ H Q => ∃ ds Γ S Q1 X1, Rels K H ds vs ∧ EnvR K H Γ σ ∧ Conc K S H ∧ g ds Γ S Q1 X1 ∧ PostG K H Q1 Q
theorem PostG.le {K : PySem.W.Frag} {H H1 : Hp} {Q1 : QG} {Q : L2.St → Hp → Prop} (t : TLe H H1) (p : PostG K H Q1 Q) : PostG K H1 Q1 Q := fun _ _ _ _ a b => p _ _ _ _ a (t.trans b)
theorem PG.imp {X : Cx} {e : Expr} {t t' : TG} (h : PG X e t) (i : ∀ v σ H Q, t' v σ H Q → t v σ H Q) : PG X e t' := ⟨fun pins s σ H v u Q I r q => h.run pins s σ H v u Q I r (i _ _ _ _ q)⟩
theorem PGs.imp {X : Cx} {e : List Expr} {t t' : TGs} (h : PGs X e t) (i : ∀ v σ H Q, t' v σ H Q → t v σ H Q) : PGs X e t' := ⟨fun pins s σ H v u Q I r q => h.run pins s σ H v u Q I r (i _ _ _ _ q)⟩
@[simp] def dgName (i : Nat) : DG := fun d Γ S Q _ => Q (Γ.set i (some d)) S
@[simp] def dgNil : DGs := fun ds Γ S Q _ => ds = [] ∧ Q Γ S
@[simp] def dgCons (g : DG) (r : DGs) : DGs := fun ds Γ S Q _ => match ds with
  | d :: ds => g d Γ S (fun Γ1 S1 => r ds Γ1 S1 Q fun _ _ => False) fun _ _ => False
  | [] => False
@[simp] def dgTup (n : Nat) (g : DGs) : DG := fun d Γ S Q _ => match d with
  | .tup ds => ds.length = n ∧ g ds Γ S Q fun _ _ => False
  | _ => False
/-- o[i] = .., by values -/
abbrev FS := DV → DV → DV → Sto → (Sto → Prop) → Prop
def SetD (K : PySem.W.Frag) (r : TSet) (f : FS) : Prop := ∀ (o i d : DV) (S : Sto) (vo vi v : V) (H : Hp) (Q1 : Sto → Prop) (Q : Hp → Prop), f o i d S Q1 → Conc K S H → Rel K H o vo → Rel K H i vi → Rel K H d v → (∀ S' H', Q1 S' → TLe H H' → Conc K S' H' → Q H') → r vo vi v H Q
@[simp] def dgSub (f : FS) (o i : DE) : DG := fun d Γ S Q X => o Γ S (fun x S1 => i Γ S1 (fun y S2 => f x y d S2 fun S3 => Q Γ S3) X) X
def fSetL : FS := fun o i d S Q => match o, i with
  | .ref a, .int k => (match S a with
    | some (.lst xs) => (match ixN xs.length k with
      | some j => Q (S.upd a (.lst (xs.set j d)))
      | none => False)
    | _ => False)
  | _, _ => False
section
variable {X : Cx} {W : WX} {pos : Pos} {K : PySem.W.Frag}
theorem noX {H : Hp} {σ : L2.St} : PostX K H σ (fun _ _ => False) W := fun _ _ _ _ _ q _ _ _ => q.elim
theorem jg_name {i : Nat} {x : Str} (hN : X.N.Nodup) (hi : X.N[i]? = some x) (hx : Loc X.env.scope x) (hf : X.fn x = true ∨ X.env.scope.names.lookup x = some .local) : PG X (.Name x pos) (LG X.K W (dgName i)) := PG.imp (pg_name hN hi hx hf) fun v σ H Q h => by
  obtain ⟨d, Γ, S, Q1, X1, r, e, c, h, P, PX⟩ := h
  exact P _ _ _ _ h (TLe.refl _) (e.set i r) c
theorem jgs_nil : PGs X [] (LGs X.K W dgNil) := PGs.imp pgs_nil fun v σ H Q h => by
  obtain ⟨d, Γ, S, Q1, X1, r, e, c, h, P⟩ := h
  obtain ⟨rfl, h⟩ := h
  cases (show _ = _ from r)
  exact ⟨rfl, P _ _ _ _ h (TLe.refl _) e c⟩
theorem jgs_cons {e : Expr} {es : List Expr} {t : DG} {u : DGs} (h1 : PG X e (LG X.K W t)) (h2 : PGs X es (LGs X.K W u)) (hs : (assignEach (e :: es) X.env).map (·.2) = assign e X.env :: (assignEach es X.env).map (·.2)) : PGs X (e :: es) (LGs X.K W (dgCons t u)) :=
  PGs.imp (pgs_cons h1 h2 hs) fun v σ H Q h => by
    obtain ⟨ds, Γ, S, Q1, X1, r, e, c, h, P⟩ := h
    unfold dgCons at h
    split at h
    · obtain ⟨v0, vr, rfl, r1, r2⟩ := r
      refine ⟨v0, vr, rfl, _, Γ, S, _, _, r1, e, c, h, fun Γ1 S1 σ1 H1 q t1 e1 c1 => ?_, noX⟩
      exact ⟨_, Γ1, S1, Q1, _, r2.mono t1, e1, c1, q, P.le t1⟩
    · exact h.elim
theorem jg_tup {es : List Expr} {k : Nat} {t : DGs} {n : Nat} (hc : X.calm = true) (h : PGs X es (LGs X.K W t)) (hn : (assignEach es X.env).length = n) (hst : (assignEach es X.env).findIdx? (·.1) = none) : PG X (.Tuple es k pos) (LG X.K W (dgTup n t)) :=
  PG.imp (pg_tup hc h hn hst) fun v σ H Q h => by
    obtain ⟨d, Γ, S, Q1, X1, r, e, c, h, P, PX⟩ := h
    unfold dgTup at h
    split at h
    · obtain ⟨a, vs, rfl, q, s⟩ := r
      exact ⟨a, vs, rfl, q, by rw [s.length]; exact h.1, _, Γ, S, Q1, _, s, e, c, h.2, P⟩
    · exact h.elim
theorem jg_sub {o i : Expr} {da db : DE} {t : TSet} {f : FS} (ho : PE X o (LE X.K W da)) (hi : PE X i (LE X.K W db)) (hs : PSet X t) (hf : SetD X.K t f)
    (ha : ∀ v, assign (.Subscript o i pos) X.env v = (do
      let ov ← holding [v] (eval o X.env)
      let iv ← holding [v, ov] (eval i X.env)
      standAt pos
      holding [v, ov, iv] (setItem ov iv v)
      release [v, ov, iv] [])) : PG X (.Subscript o i pos) (LG X.K W (dgSub f da db)) := PG.imp (pg_sub ho hi hs ha) fun v σ H Q h => by
  obtain ⟨d, Γ, S, Q1, X1, r, e, c, h, P, PX⟩ := h
  refine ⟨Γ, S, _, X1, e, c, h, fun x S1 v1 H1 q1 t1 c1 r1 => ?_, PX⟩
  refine ⟨Γ, S1, _, X1, e.mono t1, c1, q1, fun y S2 v2 H2 q2 t2 c2 r2 => ?_, PX.le t1⟩
  exact hf x y d S2 v1 v2 v H2 _ _ q2 c2 (r1.mono t2) r2 (r.mono (t1.trans t2)) fun S3 H3 q3 t3 c3 => P _ _ _ _ q3 ((t1.trans t2).trans t3) (e.mono ((t1.trans t2).trans t3)) c3
theorem sd_list : SetD K rSetL fSetL := by
  intro o i d S vo vi v H Q1 Q h c r1 r2 r3 P
  unfold fSetL at h
  split at h
  · cases (show _ = _ from r1); cases (show _ = _ from r2)
    split at h
    · rename_i xs hx
      obtain ⟨ws, e, s⟩ := c.lst hx
      split at h
      · rename_i j hj
        refine ⟨_, ws, _, j, rfl, rfl, e, by rw [s.length]; exact hj, P _ _ h (c.tle_write hx) (c.write (o := .lst (_)) hx ⟨_, upd_same, (Rels.set r3 j s).mono (c.tle_write hx)⟩)⟩
      · exact h.elim
    · exact h.elim
  · exact h.elim
end

/-! ### assignments -/
@[simp] def dsAsg (d : DE) (g : DG) : DS := fun D Γ S => d Γ S (fun x S1 => g x Γ S1 D.nx fun x S2 => D.xx x Γ S2) (fun x S1 => D.xx x Γ S1)
@[simp] def dsPar (i j : Nat) (d : DA) : DS := fun D Γ S => d Γ S (fun ds S1 => match ds with
  | [a, b] => D.nx ((Γ.set i (some a)).set j (some b)) S1
  | _ => False) (fun x S1 => D.xx x Γ S1)
@[simp] def dsPar3 (i j l : Nat) (d : DA) : DS := fun D Γ S => d Γ S (fun ds S1 => match ds with
  | [a, b, c] => D.nx (((Γ.set i (some a)).set j (some b)).set l (some c)) S1
  | _ => False) (fun x S1 => D.xx x Γ S1)
@[simp] def dsFld (Z : Zt) (f : Str) (o d : DE) : DS := fun D Γ S => d Γ S (fun y S1 => o Γ S1 (fun x S2 => match x with
  | .ref a => (match S2 a with
    | some (.ins C fs) => Z.fld C f = true ∧ fs.length < 1000 ∧ D.nx Γ (S2.upd a (.ins C (putD f y fs)))
    | _ => False)
  | _ => False) (fun x S1 => D.xx x Γ S1)) (fun x S1 => D.xx x Γ S1)
def dsAug (i : Nat) (d : DE) (f : FO) : DS := fun D Γ S => match Γ[i]? with
  | some (some x) => d Γ S (fun y S1 => f x y S1 fun z S2 => D.nx (Γ.set i (some z)) S2) (fun x S1 => D.xx x Γ S1)
  | _ => False
def dsAugF (Z : Zt) (f : Str) (o d : DE) (g : FO) : DS := fun D Γ S => o Γ S (fun x S1 => match x with
  | .ref a => (match S1 a with
    | some (.ins C fs) => Z.fld C f = true ∧ (match fs.lookup f with
      | some v => d Γ S1 (fun y S2 => g v y S2 fun z S3 => match S3 a with
        | some (.ins C' fs') => C' = C ∧ fs'.length < 1000 ∧ D.nx Γ (S3.upd a (.ins C (putD f z fs')))
        | _ => False) (fun x S1 => D.xx x Γ S1)
      | none => False)
    | _ => False)
  | _ => False) (fun x S1 => D.xx x Γ S1)
def dsAugS (fg : FO) (g : FO) (fs : FS) (o i d : DE) : DS := fun D Γ S => o Γ S (fun x S1 => i Γ S1 (fun y S2 => fg x y S2 fun v S3 => d Γ S3 (fun u S4 => g v u S4 fun z S5 => fs x y z S5 fun S6 => D.nx Γ S6) (fun x S1 => D.xx x Γ S1)) (fun x S1 => D.xx x Γ S1)) (fun x S1 => D.xx x Γ S1)
section
variable {X : Cx} {W : WX} {pos tpos : Pos} {e o i : Expr} {d db dc : DE} {Z : Zt} {f : Str}
theorem js_asg {tg : Expr} {g : DG} (he : PE X e (LE X.K W d)) (hg : PG X tg (LG X.K W g)) (hs : swapsWithSole [tg] e pos.line X.env = pure false) (hw : swappedStores [tg] e X.env = pure none)
    (h1 : (assignEach [tg] X.env).map (·.2) = [assign tg X.env]) : PS X (.Assign [tg] e pos) (LS X.K W (dsAsg d g)) := PS.imp (ps_asg he hg hs hw h1) fun D σ H h => by
  obtain ⟨Γ, S, D1, e, c, h, P⟩ := h
  refine ⟨Γ, S, _, _, e, c, h, fun x S1 v H1 q t1 c1 r1 => ?_, P.px e⟩
  exact ⟨x, Γ, S1, _, _, r1, e.mono t1, c1, q, fun Γ' S' σ' H' a b => (P.le t1).nx _ _ _ _ a b, (P.le t1).px (e.mono t1)⟩
theorem js_set {x : Str} {i : Nat} {pos' : Pos} (hN : X.N.Nodup) (hi : X.N[i]? = some x) (hx : Loc X.env.scope x) (he : PE X e (LE X.K W d)) (hs : swapsWith e (some (.Name x pos')) pos.line X.env = pure false) (hf : X.fn x = true ∨ X.env.scope.names.lookup x = some .local) :
    PS X (.Assign [.Name x pos'] e pos) (LS X.K W (dsAsg d (dgName i))) := PS.imp (ps_set hN hi hx he hs hf) fun D σ H h => by
  obtain ⟨Γ, S, D1, e, c, h, P⟩ := h
  refine ⟨Γ, S, _, _, e, c, h, fun x S1 v H1 q t1 c1 r1 => ?_, P.px e⟩
  exact P.nx _ _ _ _ q t1 ((e.mono t1).set i r1) c1
theorem js_par {i j : Nat} {x y : Str} {a b : Expr} {da : DA} {px py pt : Pos} {kt k2 pt2} (hc : X.calm = true) (hN : X.N.Nodup) (hi : X.N[i]? = some x) (hj : X.N[j]? = some y) (hij : i ≠ j)
    (hx : X.env.scope.names.lookup x = some .local) (hy : X.env.scope.names.lookup y = some .local) (ha : PA X [a, b] (LA X.K W da))
    (hw : swappedStores [.Tuple [.Name x px, .Name y py] kt pt] (.Tuple [a, b] k2 pt2) X.env = pure (some [x, y])) :
    PS X (.Assign [.Tuple [.Name x px, .Name y py] kt pt] (.Tuple [a, b] k2 pt2) pos) (LS X.K W (dsPar i j da)) := PS.imp (ps_par hc hN hi hj hij hx hy ha hw) fun D σ H h => by
  obtain ⟨Γ, S, D1, e, c, h, P⟩ := h
  refine ⟨Γ, S, _, _, e, c, h, fun ds S1 vs H1 q t1 c1 r1 => ?_, P.px e⟩
  dsimp only at q
  split at q
  · obtain ⟨v1, q1, rfl, r2, v2, q2, rfl, r3, r4⟩ := r1
    cases (show _ = _ from r4)
    exact ⟨v1, v2, rfl, P.nx _ _ _ _ q t1 (((e.mono t1).set i r2).set j r3) c1⟩
  · exact q.elim
theorem js_par3 {i j l : Nat} {x y z : Str} {a b c : Expr} {da : DA} {px py pz pt : Pos} {kt k2 pt2} (hc : X.calm = true) (hN : X.N.Nodup) (hi : X.N[i]? = some x) (hj : X.N[j]? = some y) (hl : X.N[l]? = some z) (hij : i ≠ j) (hil : i ≠ l) (hjl : j ≠ l)
    (hx : X.env.scope.names.lookup x = some .local) (hy : X.env.scope.names.lookup y = some .local) (hz : X.env.scope.names.lookup z = some .local) (ha : PA X [a, b, c] (LA X.K W da))
    (hw : swappedStores [.Tuple [.Name x px, .Name y py, .Name z pz] kt pt] (.Tuple [a, b, c] k2 pt2) X.env = pure (some [x, y, z])) :
    PS X (.Assign [.Tuple [.Name x px, .Name y py, .Name z pz] kt pt] (.Tuple [a, b, c] k2 pt2) pos) (LS X.K W (dsPar3 i j l da)) := PS.imp (ps_par3 hc hN hi hj hl hij hil hjl hx hy hz ha hw) fun D σ H h => by
  obtain ⟨Γ, S, D1, e, c, h, P⟩ := h
  refine ⟨Γ, S, _, _, e, c, h, fun ds S1 vs H1 q t1 c1 r1 => ?_, P.px e⟩
  dsimp only at q
  split at q
  · obtain ⟨v1, q1, rfl, r2, v2, q2, rfl, r3, v3, q3, rfl, r4, r5⟩ := r1
    cases (show _ = _ from r5)
    exact ⟨v1, v2, v3, rfl, P.nx _ _ _ _ q t1 ((((e.mono t1).set i r2).set j r3).set l r4) c1⟩
  · exact q.elim
theorem js_fld {pos' : Pos} (z : ZOk X.K Z) (ho : PE X o (LE X.K W db)) (he : PE X e (LE X.K W d)) (hs : swapsWith e (some (.Attribute o f pos')) pos.line X.env = pure false) : PS X (.Assign [.Attribute o f pos'] e pos) (LS X.K W (dsFld Z f db d)) := PS.imp (ps_fld ho he hs) fun D σ H h => by
  obtain ⟨Γ, S, D1, e, c, h, P⟩ := h
  refine ⟨Γ, S, _, _, e, c, h, fun y S1 v H1 q t1 c1 r1 => ?_, P.px e⟩
  refine ⟨Γ, S1, _, _, e.mono t1, c1, q, fun x S2 u H2 q2 t2 c2 r2 => ?_, (P.le t1).px (e.mono t1)⟩
  dsimp only at q2
  split at q2
  · cases (show _ = _ from r2)
    split at q2
    · rename_i C fs h1
      obtain ⟨dx, gs, e1, s⟩ := c2 _ _ h1
      obtain ⟨z2, z3⟩ := z.fld _ _ q2.1
      refine ⟨_, C, dx, gs, rfl, e1, z2, z3, by rw [s.length]; exact q2.2.1, ?_⟩
      have tw := c2.tle_write (ho := .ins C dx (putF f v gs)) h1
      exact P.nx _ _ _ _ q2.2.2 ((t1.trans t2).trans tw) (e.mono ((t1.trans t2).trans tw)) (c2.write (o := .ins C (putD f y fs)) h1 ⟨dx, _, upd_same, (relF_put (r1.mono t2) s).mono tw⟩)
    · exact q2.elim
  · exact q2.elim
theorem js_aug {x : Str} {i : Nat} {op : Operator} {pos' : Pos} {r : R2} {g : FO} (hN : X.N.Nodup) (hi : X.N[i]? = some x) (hx : Loc X.env.scope x) (he : PE X e (LE X.K W d)) (ho : OpR X (inplaceOp op) r) (hg : OpD X.K r g) (hf : X.fn x = true ∨ X.env.scope.names.lookup x = some .local) :
    PS X (.AugAssign (.Name x pos') op e pos) (LS X.K W (dsAug i d g)) := PS.imp (ps_aug (ti := r) hN hi hx he ho hf) fun D σ H h => by
  obtain ⟨Γ, S, D1, e, c, h, P⟩ := h
  unfold dsAug at h
  split at h
  · rename_i v hv
    obtain ⟨u, hu, ru⟩ := e.2 _ _ hv
    refine ⟨u, hu, Γ, S, _, _, e, c, h, fun y S1 w H1 q t1 c1 r1 => ?_, P.px e⟩
    exact hg v y S1 u w H1 _ _ q c1 (ru.mono t1) r1 fun z S2 zv H2 q2 t2 c2 r2 => P.nx _ _ _ _ q2 (t1.trans t2) ((e.mono (t1.trans t2)).set i r2) c2
  · exact h.elim
theorem js_augF {op : Operator} {r : R2} {g : FO} (z : ZOk X.K Z) (ho : PE X o (LE X.K W db)) (he : PE X e (LE X.K W d)) (hop : OpR X (inplaceOp op) r) (hg : OpD X.K r g) : PS X (.AugAssign (.Attribute o f tpos) op e pos) (LS X.K W (dsAugF Z f db d g)) :=
  PS.imp (ps_fldaug (rd := r) ho he fun pins s σ H x y u v Q => hop pins s σ H x y u v Q) fun D σ H h => by
    obtain ⟨Γ, S, D1, e, c, h, P⟩ := h
    refine ⟨Γ, S, _, _, e, c, h, fun x S1 u H1 q t1 c1 r1 => ?_, P.px e⟩
    dsimp only at q
    split at q
    · cases (show _ = _ from r1)
      split at q
      · rename_i C fs h1
        obtain ⟨dx, gs, e1, s⟩ := c1 _ _ h1
        obtain ⟨z1, q⟩ := q
        obtain ⟨z2, z3⟩ := z.fld _ _ z1
        split at q
        · rename_i v hv
          obtain ⟨w, e2, rw_⟩ := relF_lookup s hv
          refine ⟨_, C, dx, gs, w, rfl, e1, z2, z3, e2, Γ, S1, _, _, e.mono t1, c1, q, fun y S2 yv H2 q2 t2 c2 r2 => ?_, (P.le t1).px (e.mono t1)⟩
          refine hg v y S2 w yv H2 _ _ q2 c2 (rw_.mono t2) r2 fun zz S3 zv H3 q3 t3 c3 r3 => ?_
          skip
          split at q3
          · rename_i C' fs' h3
            obtain ⟨dx', gs', e3, s3⟩ := c3 _ _ h3
            obtain ⟨rfl, hl, q3⟩ := q3
            refine ⟨dx', gs', e3, by rw [s3.length]; exact hl, ?_⟩
            have tw := c3.tle_write (ho := .ins C' dx' (putF f zv gs')) h3
            exact P.nx _ _ _ _ q3 (((t1.trans t2).trans t3).trans tw) (e.mono (((t1.trans t2).trans t3).trans tw)) (c3.write (o := .ins C' (putD f zz fs')) h3 ⟨dx', _, upd_same, (relF_put r3 s3).mono tw⟩)
          · exact q3.elim
        · exact q.elim
      · exact q.elim
    · exact q.elim
theorem js_augS {op : Operator} {rg : V → V → Hp → VK → Prop} {r : R2} {ts : TSet} {fg g : FO} {fs : FS} (ho : PE X o (LE X.K W db)) (hi : PE X i (LE X.K W dc)) (hgt : PGet X rg) (hfg : OpD X.K rg fg) (he : PE X e (LE X.K W d)) (hop : OpR X (inplaceOp op) r) (hg : OpD X.K r g) (hs : PSet X ts) (hfs : SetD X.K ts fs)
    (ha : ∀ ov iv new, augStore i ov iv new = (do holding [new, ov, iv] (setItem ov iv new); release [new, ov, iv] []; pure .next)) : PS X (.AugAssign (.Subscript o i tpos) op e pos) (LS X.K W (dsAugS fg g fs db dc d)) :=
  PS.imp (ps_augS (tip := r) ho hi hgt he hop hs ha) fun D σ H h => by
    obtain ⟨Γ, S, D1, e, c, h, P⟩ := h
    refine ⟨Γ, S, _, _, e, c, h, fun x S1 vx H1 q1 t1 c1 r1 => ?_, P.px e⟩
    refine ⟨Γ, S1, _, _, e.mono t1, c1, q1, fun y S2 vy H2 q2 t2 c2 r2 => ?_, (P.le t1).px (e.mono t1)⟩
    refine hfg x y S2 vx vy H2 _ _ q2 c2 (r1.mono t2) r2 fun v S3 vv H3 q3 t3 c3 r3 => ?_
    have t13 := (t1.trans t2).trans t3
    refine ⟨Γ, S3, _, _, e.mono t13, c3, q3, fun u S4 vu H4 q4 t4 c4 r4 => ?_, (P.le t13).px (e.mono t13)⟩
    refine hg v u S4 vv vu H4 _ _ q4 c4 (r3.mono t4) r4 fun zz S5 vz H5 q5 t5 c5 r5 => ?_
    have t35 := (t3.trans t4).trans t5
    refine hfs x y zz S5 vx vy vz H5 _ _ q5 c5 (r1.mono (t2.trans t35)) (r2.mono t35) r5 fun S6 H6 q6 t6 c6 => ?_
    have tt := (t1.trans t2).trans (t35.trans t6)
    exact P.nx _ _ _ _ q6 tt (e.mono tt) c6
end

/-! ### while -/
def dsWhile (c : DT) (b : DS) : DS := fun D Γ S => ∃ I : Nat → Gm → Sto → Prop, (∃ m, I m Γ S) ∧ ∀ m Γ S, I m Γ S →
  c Γ S (fun k S1 => match k with
    | true => b { D with nx := fun Γ' S' => ∃ m', m' < m ∧ I m' Γ' S', ct := fun Γ' S' => ∃ m', m' < m ∧ I m' Γ' S', bk := D.nx } Γ S1
    | false => D.nx Γ S1) (fun x S1 => D.xx x Γ S1)
theorem js_while {X : Cx} {W : WX} {pos : Pos} {c : Expr} {body : List Stmt} {tc : DT} {b : DS} (hp : PassesOwn (model X.prog X.w) X.A X.env X.xe) (hc : PT X c (LT X.K W tc)) (hb : PSs X body (LS X.K W b)) : PS X (.While c body [] pos) (LS X.K W (dsWhile tc b)) :=
  PS.imp (ps_while hp hc hb) fun D σ H h => by
    obtain ⟨Γ, S, D1, e, c, h, P⟩ := h
    obtain ⟨I, ⟨m0, i0⟩, turn⟩ := h
    refine ⟨fun m σ' H' => ∃ Γ' S', TLe H H' ∧ EnvR X.K H' Γ' σ' ∧ Conc X.K S' H' ∧ I m Γ' S', ⟨m0, Γ, S, TLe.refl _, e, c, i0⟩, ?_⟩
    rintro m σ1 H1 ⟨Γ1, S1, t1, e1, c1, i1⟩
    refine ⟨Γ1, S1, _, _, e1, c1, turn m Γ1 S1 i1, fun k S2 H2 q t2 c2 => ?_, (P.le t1).px e1⟩
    cases k with
    | true =>
      rw [if_pos rfl]
      refine ⟨fun σ' H' => ∃ Γ' S', TLe H H' ∧ EnvR X.K H' Γ' σ' ∧ Conc X.K S' H' ∧ ∃ m', m' < m ∧ I m' Γ' S', fun σ' H' ⟨Γ', S', a1, a2, a3, m', a4, a5⟩ => ⟨m', a4, Γ', S', a1, a2, a3, a5⟩, ?_⟩
      have t12 := t1.trans t2
      exact ⟨Γ1, S2, _, e1.mono t2, c2, q, ⟨fun Γ' S' σ' H' a b e' c' => ⟨Γ', S', t12.trans b, e', c', a⟩, (P.le t12).rt, fun Γ' S' σ' H' a b => (P.le t12).nx _ _ _ _ a b, fun Γ' S' σ' H' a b e' c' => ⟨Γ', S', t12.trans b, e', c', a⟩, (P.le t12).xx⟩⟩
    | false =>
      rw [if_neg Bool.false_ne_true]
      exact P.nx _ _ _ _ q (t1.trans t2) (e1.mono t2) c2
end M
set_option maxHeartbeats 4000000
namespace PySem
open Sem (wp)
open AutoSeq1 (wpAny_loadPart')
theorem m_enumerate_newT (l : Addr) (items : Array Value) (n : Nat) (dct : Option Addr) (sl : Array (Option Value)) :
    Meets (Builtin.«enumerate.__new__» ⟨[.type "enumerate", .ref l], []⟩) (fun _ R s => s.heap.get? l = some { cls := .type "tuple", dict := dct, data := .seq items n, slots := sl } ∧
      R (.ok (.ret (.ref (s.heap.push { cls := .type "tuple_iterator", data := .fields #[.ref l, .int 0 0] }).objs.size)))
        { s with heap := (s.heap.push { cls := .type "tuple_iterator", data := .fields #[.ref l, .int 0 0] }).push { cls := .type "enumerate", data := .fields #[.none, .bool false, .ref s.heap.objs.size, rawInt 0, .none, .none] } }) :=
  .of_wp fun prog w A R s h => by
    obtain ⟨hp, g, d, tk, os⟩ := s; obtain ⟨hl, h⟩ := h
    have hsub := sub_enumerate
    have hL : Heap.IsTuple (Shared.heap ⟨hp, g, d, tk, os⟩) l items := ⟨_, hl, rfl, n, rfl⟩
    wp_walk using wpAny_loadPart' hl
    refine wpAny_stack_any fun st => wpAny_pure ?_
    split
    · rename_i c _ _ _ _ _
      cases (c == Value.type "enumerate")
      · wp_walk using wpAny_loadPart' hl, wpAny_pyIter_tuple hL
        exact ⟨_, rfl, h⟩
      · wp_walk using wpAny_loadPart' hl, wpAny_pyIter_tuple hL
        exact ⟨_, rfl, h⟩
    · wp_walk using wpAny_loadPart' hl, wpAny_pyIter_tuple hL
      exact ⟨_, rfl, h⟩
theorem m_call_enumerate_tuple {prog : Program} {w : World} {A : Around} {E : Value → Shared → Prop} {s : Shared} {l : Addr} {items : Array Value} {Q : Value → Shared → Prop} (hL : s.heap.IsTuple l items)
    (h : ∀ h', IsEnum h' (s.heap.objs.size + 1) s.heap.objs.size 0 .none → h'.IsTupleIter s.heap.objs.size l 0 → h'.objs.size = s.heap.objs.size + 2 →
      (∀ b o, s.heap.get? b = some o → h'.get? b = some o) → Q (.ref (s.heap.objs.size + 1)) { s with heap := h' }) :
    wpAny (model prog w) A (call (.type "enumerate") [.ref l]) Q E s := by
  obtain ⟨⟨c, dct, dt, sl⟩, hl, hc, n, hd⟩ := hL
  replace hc : c = .type "tuple" := hc
  replace hd : dt = .seq items n := hd
  subst hc hd
  refine callType_new F.called_enumerate (by decide) (F.typeCall_enumerate_1 _) (F.newCall_enumerate_1 _) (fun obj => F.args_object_init_2 obj _) F.entry_enumerate_new
    (m_enumerate_newT l items n dct sl) ⟨hl, ?_⟩
  have hz : (s.heap.push { cls := .type "tuple_iterator", data := .fields #[.ref l, .int 0 0] }).objs.size = s.heap.objs.size + 1 := Heap.size_push ..
  show _ ∧ _
  rw [hz]
  have he : IsEnum ((s.heap.push { cls := .type "tuple_iterator", data := .fields #[.ref l, .int 0 0] }).push
      { cls := .type "enumerate", data := .fields #[.none, .bool false, .ref s.heap.objs.size, rawInt 0, .none, .none] }) (s.heap.objs.size + 1) s.heap.objs.size 0 .none := by
    have := Heap.get?_push_size (s.heap.push { cls := .type "tuple_iterator", data := .fields #[.ref l, .int 0 0] })
      (o := { cls := .type "enumerate", data := .fields #[.none, .bool false, .ref s.heap.objs.size, rawInt 0, .none, .none] }) rfl
    rw [hz] at this; exact this
  refine ⟨⟨_, he, rfl⟩, h _ he ⟨_, Heap.get?_push_of_some _ (Heap.get?_push_size _ rfl), rfl, rfl⟩ (by rw [Heap.size_push, hz]) fun b o x => Heap.get?_push_of_some _ (Heap.get?_push_of_some _ x)⟩
end PySem
namespace M
open PySem PySem.Spec PyProof.Rows L2

/-! ### enumerate(tuple) -/
def IteT (K : PySem.W.Frag) (a : Addr) : It :=
  ⟨fun i H => ∃ (xs : List V) (x : V), SqT K H a xs ∧ xs[i]? = some x, fun i H v H' => ∃ T x, v = .ref T ∧ H T = none ∧ H' = upd H T (.tup [.int (i : Nat), x]) ∧ ∀ xs, SqT K H a xs → xs[i]? = some x, fun i H => ∃ xs : List V, SqT K H a xs ∧ xs.length = i⟩
theorem turn_enumT {P : Program} {w : World} {K : PySem.W.Frag} {elts : List Expr} {kk : Nat} {tpos : Pos} (a e it : Addr) :
    Turn P w K (.Tuple elts kk tpos) (IteT K a) [e, it] e (fun i h => (∃ old, IsEnum h e it ((i : Nat) : Int) old) ∧ h.IsTupleIter it a i ∧ e ≠ it) where
  mem := by simp
  obj := fun i h st b hb => by
    obtain ⟨⟨old, he⟩, ⟨o, ho, hc, hd⟩, _⟩ := st
    have e' : b = e ∨ b = it := by simpa using hb
    rcases e' with z | z
    · rw [z]; exact ⟨_, he, fun v q => nomatch q⟩
    · rw [z]; exact ⟨o, ho, fun v q => by rw [hd] at q; cases q⟩
  keep := fun i h h' st k => let ⟨⟨old, he⟩, hi, hne⟩ := st; ⟨⟨old, k e (by simp) _ he⟩, hi.at fun o q => k it (by simp) o q, hne⟩
  item := by
    intro X hP hw hK hc i pins s σ H E I hf st hg
    subst hP hw hK
    obtain ⟨⟨old, he⟩, hit, hne⟩ := st
    obtain ⟨xs, x, hq, hx⟩ := hg
    obtain ⟨its, rv, p, hz⟩ := I.tuple hq
    obtain ⟨u, hu, ru⟩ := rv.get hx
    have hel : e < s.heap.objs.size := Heap.lt_size he
    have hil : it < s.heap.objs.size := by obtain ⟨_, q, _⟩ := hit; exact Heap.lt_size q
    have hai : a ≠ it := fun z => by
      obtain ⟨o, q1, q2, _⟩ := p
      obtain ⟨o', q3, q4, _⟩ := hit
      rw [z, q3] at q1; cases q1; rw [q4] at q2; exact absurd q2 (by decide)
    have hae : e ≠ a := fun z => by
      obtain ⟨o, q1, q2, _⟩ := p
      have q3 : s.heap.get? e = some _ := he
      rw [z, q1] at q3; cases q3; exact absurd (show Value.type "enumerate" = Value.type "tuple" from q2) (by decide)
    have D := Draws.tuple (prog := X.prog) (w := X.w) (A := X.A.in1) (by exact (I.ok.hd hc)) it a hai its.toArray
    refine wpAny_pyNext_enum_itemD (i := i) D he ⟨hit, p⟩ (by simp; exact (List.getElem?_eq_some_iff.mp hu).1) hne (by simp; exact ⟨hne, hae⟩) fun y h' tk hy ho hit' hT hsz hk => ?_
    have ey : y = u := by
      have q : its.toArray[i]? = some y := hy
      simp only [List.getElem?_toArray] at q
      rw [hu] at q; exact (Option.some.inj q).symm
    subst ey
    refine ⟨_, rfl, wpAny_letOwnedTupleGo_enum (s := { s with heap := h', toks := tk + 1 }) ho fun h'' he' sb => ?_⟩
    have hT2 : h''.get? s.heap.objs.size = some { cls := .type "tuple", data := .seq #[.int i tk, y] } := (sb.2 _ (Nat.ne_of_gt hel)).trans hT
    have new : ObjOk X.prog X.w (upd H s.heap.objs.size (.tup [.int (i : Nat), x])) h'' s.heap.objs.size (.tup [.int (i : Nat), x]) :=
      ⟨by show 2 ≤ sizeLine; decide, [.int i tk, y], .cons ⟨_, rfl⟩ (.cons ru .nil), ⟨_, hT2, rfl, _, rfl⟩⟩
    have I1 : Inv X pins σ (upd H s.heap.objs.size (.tup [.int (i : Nat), x])) { s with heap := h'', toks := tk + 1 } :=
      I.turnedNew (ch := [e, it]) (fun b ob hb q => (sb.2 b (fun z => hb (by simp [z]))).trans (hk b ob (fun z => hb (by simp [z])) (fun z => hb (by simp [z])) q)) hf (Nat.le_refl _) new
    refine ⟨.ref s.heap.objs.size, _, I1, rfl, ⟨_, x, rfl, I.hok.fresh (Nat.le_refl _), rfl, fun ys hy => by rw [I.tuple_inj hy hq]; exact hx⟩, ⟨⟨y, ?_⟩, hit'.1.at fun o q => (sb.2 it (Ne.symm hne)).trans q, hne⟩, fun b hb => ?_⟩
    · have e1 : ((i + 1 : Nat) : Int) = (i : Int) + 1 := by omega
      rw [e1]; exact he'
    · have hb' : b < s.heap.objs.size := by
        have e' : b = e ∨ b = it := by simpa using hb
        rcases e' with z | z
        · rw [z]; exact hel
        · rw [z]; exact hil
      rw [upd_ne (Nat.ne_of_lt hb')]
      exact (hf b hb).1
  done := by
    intro X hP hw hK hc i pins s σ H E I hf st hg
    subst hP hw hK
    obtain ⟨⟨old, he⟩, hit, hne⟩ := st
    obtain ⟨xs, hq, hx⟩ := hg
    obtain ⟨its, rv, p, hz⟩ := I.tuple hq
    obtain ⟨f0, f1, f2, f3, f4, f5⟩ := hf it (by simp)
    have hai : a ≠ it := fun z => by
      obtain ⟨o, q1, q2, _⟩ := p
      obtain ⟨o', q3, q4, _⟩ := hit
      rw [z, q3] at q1; cases q1; rw [q4] at q2; exact absurd q2 (by decide)
    have D := Draws.tuple (prog := X.prog) (w := X.w) (A := X.A.in1) (by exact (I.ok.hd hc)) it a hai its.toArray
    have hl := rv.length
    have e1 : i = its.toArray.size := by simp; omega
    subst e1
    exact wpAny_pyNext_enum_endD D he ⟨hit, p⟩ fun h' eb => ⟨rfl, I.turned (t' := s.toks) (fun b o hb q => eb b o hb q) f0 f1 f3 f4 f5⟩
  self := fun A i s Q E st h => let ⟨⟨_, he⟩, _⟩ := st; wpAny_pyIter_enum he h
def iEnumA (K : PySem.W.Frag) (ta : TA) : TI := fun σ H R => ta σ H fun vs H1 => ∃ a xs, vs = [.ref a] ∧ ((SqL K H1 a xs ∧ R (Ite K a) H1) ∨ (SqT K H1 a xs ∧ R (IteT K a) H1))
theorem pi_enumA {X : Cx} {e : Expr} {ta : TA} {p pos tpos : Pos} {elts : List Expr} {kk : Nat} (hg : Gl X "enumerate") (hm : X.mg "enumerate" = none) (ha : PA X [e] ta) (hs : starEach [e] X.env = [(false, eval e X.env)]) :
    PI X (.Tuple elts kk tpos) (.Call (.Name "enumerate" p) [e] [] pos) (iEnumA X.K ta) := by
  refine ⟨fun pins s σ H R I h => ?_⟩
  refine Call_ (ld_blt I hg hm boot_enumerate (PyProof.Rows.callWith_type1 (thn (ha.run pos pins s σ H _ I h) fun us s1 ⟨vs, H1, I1, r1, q1⟩ => ?_) hs rfl))
  obtain ⟨a, xs, ex, q⟩ := q1
  subst ex
  have fre : ∀ b ∈ [s1.heap.objs.size + 1, s1.heap.objs.size], FpOk X pins H1 b := fun b hb => by
    have e' : b = s1.heap.objs.size + 1 ∨ b = s1.heap.objs.size := by simpa using hb
    have hle : s1.heap.objs.size ≤ b := by
      rcases e' with z | z
      · rw [z]; exact Nat.le_add_right _ _
      · rw [z]; exact Nat.le_refl _
    exact I1.fpOk hle (I1.hok.fresh hle)
  cases r1 with
  | cons r rr =>
    cases rr
    cases r
    rcases q with ⟨hq, q⟩ | ⟨hq, q⟩
    · obtain ⟨its, rv, p', hz⟩ := I1.list hq
      refine call_enumerate_list p'.isList fun h' he hit hsz hk => wpAny_pyIter_enum he ?_
      have I2 : Inv X pins σ H1 { s1 with heap := h' } := I1.kept (t' := s1.toks) hk
      exact ⟨s1.heap.objs.size + 1, [s1.heap.objs.size + 1, s1.heap.objs.size], _, _, H1, rfl, I2, turn_enum a (s1.heap.objs.size + 1) s1.heap.objs.size, ⟨⟨.none, he⟩, hit, Nat.succ_ne_self _⟩, fre, q⟩
    · obtain ⟨its, rv, p', hz⟩ := I1.tuple hq
      refine m_call_enumerate_tuple (show s1.heap.IsTuple a its.toArray from p') fun h' he hit hsz hk => wpAny_pyIter_enum he ?_
      have I2 : Inv X pins σ H1 { s1 with heap := h' } := I1.kept (t' := s1.toks) hk
      exact ⟨s1.heap.objs.size + 1, [s1.heap.objs.size + 1, s1.heap.objs.size], _, _, H1, rfl, I2, turn_enumT a (s1.heap.objs.size + 1) s1.heap.objs.size, ⟨⟨.none, he⟩, hit, Nat.succ_ne_self _⟩, fre, q⟩

/-! ### a list, a tuple, a text, as it comes -/
def iSeq (K : PySem.W.Frag) (tl : TE) : TI := fun σ H R => tl σ H fun x H1 => (∃ a xs, x = .ref a ∧ SqL K H1 a xs ∧ R (Itl K a) H1) ∨ (∃ a xs, x = .ref a ∧ SqT K H1 a xs ∧ R (Itt K a) H1) ∨ ∃ z, x = .str z ∧ R (Its z) H1
theorem pi_seq {X : Cx} {tg l : Expr} {tl : TE} (hl : PE X l tl) : PI X tg l (iSeq X.K tl) := by
  refine ⟨fun pins s σ H R I h => ?_⟩
  refine thn (hl.run pins s σ H _ I h) fun v s1 ⟨x, H1, I1, r1, q1⟩ => ?_
  have one : ∀ b ∈ [s1.heap.objs.size], FpOk X pins H1 b := fun b hb => by
    have e : b = s1.heap.objs.size := by simpa using hb
    subst e
    exact I1.fpOk (Nat.le_refl _) (I1.hok.fresh (Nat.le_refl _))
  rcases q1 with ⟨a, xs, rfl, hq, q⟩ | ⟨a, xs, rfl, hq, q⟩ | ⟨z, rfl, q⟩
  · cases r1
    obtain ⟨its, rv, p, hz⟩ := I1.list hq
    refine wpAny_pyIter_list p.isList ?_
    exact ⟨s1.heap.objs.size, [s1.heap.objs.size], _, _, H1, rfl, I1.kept (t' := s1.toks) fun b o e => Heap.get?_push_of_some _ e, turn_list a _, ⟨_, Heap.get?_push_size _ rfl, rfl, rfl⟩, one, q⟩
  · cases r1
    obtain ⟨its, rv, p, hz⟩ := I1.tuple hq
    refine wpAny_pyIter_tuple (show s1.heap.IsTuple a its.toArray from p) ?_
    exact ⟨s1.heap.objs.size, [s1.heap.objs.size], _, _, H1, rfl, I1.kept (t' := s1.toks) fun b o e => Heap.get?_push_of_some _ e, turn_tuple a _, ⟨_, Heap.get?_push_size _ rfl, rfl, rfl⟩, one, q⟩
  · obtain ⟨t, rfl⟩ := r1
    have hty : strIterType z = "str_ascii_iterator" ∨ strIterType z = "str_iterator" := by
      unfold strIterType
      split
      · exact .inl rfl
      · exact .inr rfl
    refine wpAny_pyIter_strU ?_
    exact ⟨s1.heap.objs.size, [s1.heap.objs.size], _, _, H1, rfl, I1.kept (t' := s1.toks) fun b o e => Heap.get?_push_of_some _ e, turn_str s1.heap.objs.size z t (strIterType z) hty, ⟨_, Heap.get?_push_size _ rfl, rfl, rfl⟩, one, q⟩
end M
set_option maxHeartbeats 4000000
namespace M
open PySem PySem.Spec PyProof.Rows L2 RZ

/-! ### what is walked -/
structure Src where
  ds : List DV
  G : Sto → Prop
abbrev DI := Gm → Sto → (Src → Sto → Prop) → QX → Prop
structure Walks (K : PySem.W.Frag) (H0 : Hp) (J : It) (s : Src) : Prop where
  go : ∀ i H S, TLe H0 H → Conc K S H → s.G S → i < s.ds.length → J.go i H
  yld : ∀ i H S x H', TLe H0 H → Conc K S H → s.G S → i < s.ds.length → J.yld i H x H' → ∃ d, s.ds[i]? = some d ∧ TLe H H' ∧ Conc K S H' ∧ Rel K H' d x
  stop : ∀ H S, TLe H0 H → Conc K S H → s.G S → J.stop s.ds.length H
def LI (K : PySem.W.Frag) (W : WX) (d : DI) : TI := fun σ H R => ∃ Γ S Q1 X1, EnvR K H Γ σ ∧ Conc K S H ∧ d Γ S Q1 X1 ∧ (∀ s S' H' J, Q1 s S' → TLe H H' → Conc K S' H' → Walks K H' J s → R J H') ∧ PostX K H σ X1 W
theorem PI.imp {X : Cx} {tg e : Expr} {t t' : TI} (h : PI X tg e t) (i : ∀ σ H Q, t' σ H Q → t σ H Q) : PI X tg e t' := ⟨fun pins s σ H Q I q => h.run pins s σ H Q I (i _ _ _ q)⟩
/-- the list stays as it is while it is walked -/
def grd (x : DV) (ds : List DV) : Sto → Prop := match x with
  | .ref a => fun S => S a = some (.lst ds)
  | _ => fun _ => True
@[simp] def seqD (x : DV) (S : Sto) : Option (List DV) := match x with
  | .str z => some (z.cps.toList.map fun c => .str ⟨#[c]⟩)
  | x => seqOf x S
@[simp] def diSeq (e : DE) : DI := fun Γ S Q X => e Γ S (fun x S1 => match seqD x S1 with
  | some ds => Q ⟨ds, grd x ds⟩ S1
  | none => False) X
@[simp] def diEnum (e : DE) : DI := fun Γ S Q X => e Γ S (fun x S1 => match seqOf x S1 with
  | some ds => Q ⟨ds.zipIdx.map fun p => .tup [.int (p.2 : Nat), p.1], grd x ds⟩ S1
  | none => False) X
@[simp] def diRng1 (e : DA) : DI := fun Γ S Q X => e Γ S (fun xs S1 => match xs with
  | [.int j] => -(2 ^ 62) ≤ j ∧ j < 2 ^ 62 ∧ Q ⟨(List.range j.toNat).map fun k => .int (k : Nat), fun _ => True⟩ S1
  | _ => False) X
@[simp] def diRng2 (e : DA) : DI := fun Γ S Q X => e Γ S (fun xs S1 => match xs with
  | [.int i, .int j] => (-(2 ^ 62) ≤ i ∧ i < 2 ^ 62 ∧ -(2 ^ 62) ≤ j ∧ j < 2 ^ 62) ∧ Q ⟨(List.range (j - i).toNat).map fun k => .int (i + (k : Nat)), fun _ => True⟩ S1
  | _ => False) X
def diZip (e : DA) : DI := fun Γ S Q X => e Γ S (fun xs S1 => match xs with
  | [.tup a, .tup b] => Q ⟨(a.zip b).map fun p => .tup [p.1, p.2], fun _ => True⟩ S1
  | [.ref a, .ref b] => (match S1 a, S1 b with
    | some (.lst x), some (.lst y) => Q ⟨(x.zip y).map fun p => .tup [p.1, p.2], fun S => S a = some (.lst x) ∧ S b = some (.lst y)⟩ S1
    | _, _ => False)
  | _ => False) X
section
variable {K : PySem.W.Frag} {H0 : Hp} {a b : Addr} {ds es : List DV} {vs us : List V}
theorem sq_inj {H : Hp} {xs : List V} (h : H a = some (.lst vs)) (q : SqL K H a xs) (nk : K.lookup a = none) : xs = vs := by
  rcases q with (q | ⟨o, q⟩) | ⟨o, _, _, q, _⟩
  · rw [h] at q; cases q; rfl
  · rw [h] at q; cases q
  · rw [nk] at q; cases q
/-- the list at an address of the store, at each turn -/
theorem walks_list (r : ∀ H S, TLe H0 H → Conc K S H → S a = some (.lst ds) → ∃ vs, SqL K H a vs ∧ Rels K H ds vs) : Walks K H0 (Itl K a) ⟨ds, fun S => S a = some (.lst ds)⟩ where
  go := fun i H S t c g hi => by
    obtain ⟨vs, q, s⟩ := r H S t c g
    obtain ⟨v, e, _⟩ := s.get (List.getElem?_eq_getElem hi)
    exact ⟨vs, v, q, e⟩
  yld := fun i H S x H' t c g hi y => by
    obtain ⟨vs, q, s⟩ := r H S t c g
    obtain ⟨rfl, y⟩ := y
    obtain ⟨d, e, rd⟩ := s.get' (y vs q)
    exact ⟨d, e, TLe.refl _, c, rd⟩
  stop := fun H S t c g => by
    obtain ⟨vs, q, s⟩ := r H S t c g
    exact ⟨vs, q, Nat.le_of_eq s.length⟩
theorem walks_rol (q : SqL K H0 a vs) (st : ∀ H, TLe H0 H → SqL K H a vs) (s : Rels K H0 ds vs) {G : Sto → Prop} : Walks K H0 (Itl K a) ⟨ds, G⟩ where
  go := fun i H S t c g hi => by
    obtain ⟨v, e, _⟩ := s.get (List.getElem?_eq_getElem hi)
    exact ⟨vs, v, st H t, e⟩
  yld := fun i H S x H' t c g hi y => by
    obtain ⟨rfl, y⟩ := y
    obtain ⟨d, e, rd⟩ := s.get' (y vs (st _ t))
    exact ⟨d, e, TLe.refl _, c, rd.mono t⟩
  stop := fun H S t c g => ⟨vs, st H t, Nat.le_of_eq s.length⟩
theorem walks_tup (q : SqT K H0 a vs) (s : Rels K H0 ds vs) {G : Sto → Prop} : Walks K H0 (Itt K a) ⟨ds, G⟩ where
  go := fun i H S t c g hi => by
    obtain ⟨v, e, _⟩ := s.get (List.getElem?_eq_getElem hi)
    exact ⟨vs, v, t.sqT q, e⟩
  yld := fun i H S x H' t c g hi y => by
    obtain ⟨rfl, y⟩ := y
    obtain ⟨d, e, rd⟩ := s.get' (y vs (t.sqT q))
    exact ⟨d, e, TLe.refl _, c, rd.mono t⟩
  stop := fun H S t c g => ⟨vs, t.sqT q, Nat.le_of_eq s.length⟩
theorem walks_str (z : Str) {G : Sto → Prop} : Walks K H0 (Its z) ⟨z.cps.toList.map fun c => .str ⟨#[c]⟩, G⟩ where
  go := fun i H S t c g hi => by
    have e : (z.cps.toList.map fun c => DV.str ⟨#[c]⟩).length = z.cps.size := by simp
    exact Nat.lt_of_lt_of_eq hi e
  yld := fun i H S x H' t c g hi y => by
    obtain ⟨rfl, k, e, rfl⟩ := y
    refine ⟨.str ⟨#[k]⟩, ?_, TLe.refl _, c, rfl⟩
    simp only [List.getElem?_map, Array.getElem?_toList, e, Option.map_some]
  stop := fun H S t c g => by show z.cps.size ≤ _; simp
theorem walks_rng (lo : Int) (n : Nat) {G : Sto → Prop} {f : Nat → DV} (hf : ∀ k : Nat, f k = .int (lo + (k : Nat))) : Walks K H0 (Itr lo n) ⟨(List.range n).map f, G⟩ where
  go := fun i H S t c g hi => by
    have e : ((List.range n).map f).length = n := by simp
    exact Nat.lt_of_lt_of_eq hi e
  yld := fun i H S x H' t c g hi y => by
    obtain ⟨rfl, rfl⟩ := y
    have hn : i < n := by simpa using hi
    exact ⟨f i, by simp [hn], TLe.refl _, c, by rw [hf]; rfl⟩
  stop := fun H S t c g => by show n ≤ _; simp
theorem newT {H : Hp} {S : Sto} {T : Addr} {ds : List DV} {vs : List V} (c : Conc K S H) (h : H T = none) (r : Rels K H ds vs) : TLe H (upd H T (.tup vs)) ∧ Conc K S (upd H T (.tup vs)) ∧ Rel K (upd H T (.tup vs)) (.tup ds) (.ref T) :=
  ⟨TLe.new h, c.lay h, T, vs, rfl, SqT.of upd_same, r.mono (TLe.new h)⟩
theorem walks_enumL (r : ∀ H S, TLe H0 H → Conc K S H → S a = some (.lst ds) → ∃ vs, SqL K H a vs ∧ Rels K H ds vs) : Walks K H0 (Ite K a) ⟨ds.zipIdx.map fun p => .tup [.int (p.2 : Nat), p.1], fun S => S a = some (.lst ds)⟩ where
  go := fun i H S t c g hi => by
    obtain ⟨vs, q, s⟩ := r H S t c g
    have hi' : i < ds.length := by simpa using hi
    obtain ⟨v, e, _⟩ := s.get (List.getElem?_eq_getElem hi')
    exact ⟨vs, v, q, e⟩
  yld := fun i H S x H' t c g hi y => by
    obtain ⟨vs, q, s⟩ := r H S t c g
    obtain ⟨T, v, rfl, hT, rfl, y⟩ := y
    obtain ⟨d, e, rd⟩ := s.get' (y vs q)
    obtain ⟨h1, h2, h3⟩ := newT (vs := [.int (i : Nat), v]) c hT (.cons (show Rel K H (.int (i : Nat)) (.int (i : Nat)) from rfl) (.cons rd .nil))
    exact ⟨.tup [.int (i : Nat), d], by simp [List.getElem?_map, List.getElem?_zipIdx, e], h1, h2, h3⟩
  stop := fun H S t c g => by
    obtain ⟨vs, q, s⟩ := r H S t c g
    exact ⟨vs, q, by simp [s.length]⟩
theorem walks_enumR (q : SqL K H0 a vs) (st : ∀ H, TLe H0 H → SqL K H a vs) (s : Rels K H0 ds vs) {G : Sto → Prop} : Walks K H0 (Ite K a) ⟨ds.zipIdx.map fun p => .tup [.int (p.2 : Nat), p.1], G⟩ where
  go := fun i H S t c g hi => by
    have hi' : i < ds.length := by simpa using hi
    obtain ⟨v, e, _⟩ := s.get (List.getElem?_eq_getElem hi')
    exact ⟨vs, v, st H t, e⟩
  yld := fun i H S x H' t c g hi y => by
    obtain ⟨T, v, rfl, hT, rfl, y⟩ := y
    obtain ⟨d, e, rd⟩ := s.get' (y vs (st _ t))
    obtain ⟨h1, h2, h3⟩ := newT (vs := [.int (i : Nat), v]) c hT (.cons (show Rel K H (.int (i : Nat)) (.int (i : Nat)) from rfl) (.cons (rd.mono t) .nil))
    exact ⟨.tup [.int (i : Nat), d], by simp [List.getElem?_map, List.getElem?_zipIdx, e], h1, h2, h3⟩
  stop := fun H S t c g => ⟨vs, st H t, by simp [s.length]⟩
theorem walks_enumT (q : SqT K H0 a vs) (s : Rels K H0 ds vs) {G : Sto → Prop} : Walks K H0 (IteT K a) ⟨ds.zipIdx.map fun p => .tup [.int (p.2 : Nat), p.1], G⟩ where
  go := fun i H S t c g hi => by
    have hi' : i < ds.length := by simpa using hi
    obtain ⟨v, e, _⟩ := s.get (List.getElem?_eq_getElem hi')
    exact ⟨vs, v, t.sqT q, e⟩
  yld := fun i H S x H' t c g hi y => by
    obtain ⟨T, v, rfl, hT, rfl, y⟩ := y
    obtain ⟨d, e, rd⟩ := s.get' (y vs (t.sqT q))
    obtain ⟨h1, h2, h3⟩ := newT (vs := [.int (i : Nat), v]) c hT (.cons (show Rel K H (.int (i : Nat)) (.int (i : Nat)) from rfl) (.cons (rd.mono t) .nil))
    exact ⟨.tup [.int (i : Nat), d], by simp [List.getElem?_map, List.getElem?_zipIdx, e], h1, h2, h3⟩
  stop := fun H S t c g => ⟨vs, t.sqT q, by simp [s.length]⟩
theorem walks_zipL (r : ∀ H S, TLe H0 H → Conc K S H → S a = some (.lst ds) ∧ S b = some (.lst es) → ∃ vs us, SqL K H a vs ∧ Rels K H ds vs ∧ SqL K H b us ∧ Rels K H es us) :
    Walks K H0 (Itz K a b) ⟨(ds.zip es).map fun p => .tup [p.1, p.2], fun S => S a = some (.lst ds) ∧ S b = some (.lst es)⟩ where
  go := fun i H S t c g hi => by
    obtain ⟨vs, us, q, s, q2, s2⟩ := r H S t c g
    have hi' : i < ds.length ∧ i < es.length := by
      have z : i < ((ds.zip es).map fun p => DV.tup [p.1, p.2]).length := hi
      rw [List.length_map, List.length_zip] at z; omega
    obtain ⟨v, e, _⟩ := s.get (List.getElem?_eq_getElem hi'.1)
    obtain ⟨u, e2, _⟩ := s2.get (List.getElem?_eq_getElem hi'.2)
    exact ⟨vs, us, v, u, q, q2, e, e2⟩
  yld := fun i H S x H' t c g hi y => by
    obtain ⟨vs, us, q, s, q2, s2⟩ := r H S t c g
    obtain ⟨T, v, u, rfl, hT, rfl, y, y2⟩ := y
    obtain ⟨d, e, rd⟩ := s.get' (y vs q)
    obtain ⟨d2, e2, rd2⟩ := s2.get' (y2 us q2)
    obtain ⟨h1, h2, h3⟩ := newT (vs := [v, u]) c hT (.cons rd (.cons rd2 .nil))
    exact ⟨.tup [d, d2], by simp [List.getElem?_map, List.getElem?_zip_eq_some, e, e2], h1, h2, h3⟩
  stop := fun H S t c g => by
    obtain ⟨vs, us, q, s, q2, s2⟩ := r H S t c g
    refine ⟨vs, us, q, q2, ?_⟩
    have z : ((ds.zip es).map fun p => DV.tup [p.1, p.2]).length = min ds.length es.length := by rw [List.length_map, List.length_zip]
    show vs.length ≤ ((ds.zip es).map fun p => DV.tup [p.1, p.2]).length ∨ us.length ≤ ((ds.zip es).map fun p => DV.tup [p.1, p.2]).length
    rw [z, s.length, s2.length]; omega
theorem walks_zipT (q : SqT K H0 a vs) (s : Rels K H0 ds vs) (q2 : SqT K H0 b us) (s2 : Rels K H0 es us) {G : Sto → Prop} :
    Walks K H0 (ItzT K a b) ⟨(ds.zip es).map fun p => .tup [p.1, p.2], G⟩ where
  go := fun i H S t c g hi => by
    have hi' : i < ds.length ∧ i < es.length := by
      have z : i < ((ds.zip es).map fun p => DV.tup [p.1, p.2]).length := hi
      rw [List.length_map, List.length_zip] at z; omega
    obtain ⟨v, e, _⟩ := s.get (List.getElem?_eq_getElem hi'.1)
    obtain ⟨u, e2, _⟩ := s2.get (List.getElem?_eq_getElem hi'.2)
    exact ⟨vs, us, v, u, t.sqT q, t.sqT q2, e, e2⟩
  yld := fun i H S x H' t c g hi y => by
    obtain ⟨T, v, u, rfl, hT, rfl, y, y2⟩ := y
    obtain ⟨d, e, rd⟩ := s.get' (y vs (t.sqT q))
    obtain ⟨d2, e2, rd2⟩ := s2.get' (y2 us (t.sqT q2))
    obtain ⟨h1, h2, h3⟩ := newT (vs := [v, u]) c hT (.cons (rd.mono t) (.cons (rd2.mono t) .nil))
    exact ⟨.tup [d, d2], by simp [List.getElem?_map, List.getElem?_zip_eq_some, e, e2], h1, h2, h3⟩
  stop := fun H S t c g => by
    refine ⟨vs, us, t.sqT q, t.sqT q2, ?_⟩
    have z : ((ds.zip es).map fun p => DV.tup [p.1, p.2]).length = min ds.length es.length := by rw [List.length_map, List.length_zip]
    show vs.length ≤ ((ds.zip es).map fun p => DV.tup [p.1, p.2]).length ∨ us.length ≤ ((ds.zip es).map fun p => DV.tup [p.1, p.2]).length
    rw [z, s.length, s2.length]; omega
end
section
variable {X : Cx} {W : WX} {tg e : Expr} {es : List Expr} {d : DE} {da : DA} {p pos : Pos}
theorem lst_stays {K : PySem.W.Frag} {a : Addr} {ds : List DV} (H : Hp) (S : Sto) (c : Conc K S H) (g : S a = some (.lst ds)) : ∃ vs, SqL K H a vs ∧ Rels K H ds vs := by
  obtain ⟨vs, e, s⟩ := c.lst g
  exact ⟨vs, SqL.of e, s⟩
theorem ji_seq (he : PE X e (LE X.K W d)) : PI X tg e (LI X.K W (diSeq d)) := PI.imp (pi_seq he) fun σ H R h => by
  obtain ⟨Γ, S, Q1, X1, e, c, h, P, PX⟩ := h
  refine ⟨Γ, S, _, X1, e, c, h, fun x S1 v H1 q t1 c1 r1 => ?_, PX⟩
  dsimp only at q
  split at q
  · rename_i ds hds
    cases x with
    | str z =>
      cases (show _ = _ from r1)
      cases hds
      exact .inr (.inr ⟨z, rfl, P _ _ _ _ q t1 c1 (walks_str z)⟩)
    | tup ts =>
      obtain ⟨a, vs, rfl, sq, s⟩ := r1
      cases hds
      exact .inr (.inl ⟨a, vs, rfl, sq, P _ _ _ _ q t1 c1 (walks_tup sq s)⟩)
    | rol ts =>
      obtain ⟨a, vs, rfl, sq, s⟩ := r1
      cases hds
      exact .inl ⟨a, vs, rfl, sq.sq, P _ _ _ _ q t1 c1 (walks_rol sq.sq (fun H t => (t.roL sq).sq) s)⟩
    | ref a =>
      cases (show _ = _ from r1)
      have h2 : S1 a = some (.lst ds) := by
        have z : (match S1 a with | some (.lst ds) => some ds | _ => none) = some ds := hds
        split at z
        · rename_i h1; cases z; exact h1
        · cases z
      obtain ⟨vs, sq, s⟩ := lst_stays H1 S1 c1 h2
      exact .inl ⟨a, vs, rfl, sq, P _ _ _ _ q t1 c1 (walks_list fun H S _ c g => lst_stays H S c g)⟩
    | non => cases hds
    | bl _ => cases hds
    | int _ => cases hds
    | ty _ => cases hds
  · exact q.elim
theorem ji_enum {elts : List Expr} {kk : Nat} {tpos : Pos} (hg : Gl X "enumerate") (hm : X.mg "enumerate" = none) (he : PE X e (LE X.K W d)) (hs : starEach [e] X.env = [(false, eval e X.env)]) :
    PI X (.Tuple elts kk tpos) (.Call (.Name "enumerate" p) [e] [] pos) (LI X.K W (diEnum d)) := PI.imp (pi_enumA hg hm (pa_cons he pa_nil (by rw [hs]; rfl)) hs) fun σ H R h => by
  obtain ⟨Γ, S, Q1, X1, e, c, h, P, PX⟩ := h
  refine ⟨Γ, S, _, X1, e, c, h, fun x S1 v H1 q t1 c1 r1 => ?_, PX⟩
  dsimp only at q
  split at q
  · rename_i ds hds
    cases x with
    | tup ts =>
      obtain ⟨a, vs, rfl, sq, s⟩ := r1
      cases hds
      exact ⟨a, vs, rfl, .inr ⟨sq, P _ _ _ _ q t1 c1 (walks_enumT sq s)⟩⟩
    | rol ts =>
      obtain ⟨a, vs, rfl, sq, s⟩ := r1
      cases hds
      exact ⟨a, vs, rfl, .inl ⟨sq.sq, P _ _ _ _ q t1 c1 (walks_enumR sq.sq (fun H t => (t.roL sq).sq) s)⟩⟩
    | ref a =>
      cases (show _ = _ from r1)
      have h2 : S1 a = some (.lst ds) := by
        have z : (match S1 a with | some (.lst ds) => some ds | _ => none) = some ds := hds
        split at z
        · rename_i h1; cases z; exact h1
        · cases z
      obtain ⟨vs, sq, s⟩ := lst_stays H1 S1 c1 h2
      exact ⟨a, vs, rfl, .inl ⟨sq, P _ _ _ _ q t1 c1 (walks_enumL fun H S _ c g => lst_stays H S c g)⟩⟩
    | str _ => cases hds
    | non => cases hds
    | bl _ => cases hds
    | int _ => cases hds
    | ty _ => cases hds
  · exact q.elim
theorem ji_range1 {a : Expr} (hg : Gl X "range") (hm : X.mg "range" = none) (ha : PA X [a] (LA X.K W da)) (hs : starEach [a] X.env = [(false, eval a X.env)]) : PI X tg (.Call (.Name "range" p) [a] [] pos) (LI X.K W (diRng1 da)) := PI.imp (pi_range1 hg hm ha hs) fun σ H R h => by
  obtain ⟨Γ, S, Q1, X1, e, c, h, P, PX⟩ := h
  refine ⟨Γ, S, _, X1, e, c, h, fun ds S1 vs H1 q t1 c1 r1 => ?_, PX⟩
  dsimp only at q
  split at q
  · obtain ⟨v1, q1, rfl, r2, r3⟩ := r1
    cases (show _ = _ from r3); cases (show _ = _ from r2)
    exact ⟨_, rfl, q.1, q.2.1, P _ _ _ _ q.2.2 t1 c1 (walks_rng 0 _ fun k => by simp)⟩
  · exact q.elim
theorem ji_range2 {a b : Expr} (hg : Gl X "range") (hm : X.mg "range" = none) (ha : PA X [a, b] (LA X.K W da)) (hs : starEach [a, b] X.env = [(false, eval a X.env), (false, eval b X.env)]) (hs2 : starEach [b] X.env = [(false, eval b X.env)]) :
    PI X tg (.Call (.Name "range" p) [a, b] [] pos) (LI X.K W (diRng2 da)) := PI.imp (pi_range2 hg hm ha hs hs2) fun σ H R h => by
  obtain ⟨Γ, S, Q1, X1, e, c, h, P, PX⟩ := h
  refine ⟨Γ, S, _, X1, e, c, h, fun ds S1 vs H1 q t1 c1 r1 => ?_, PX⟩
  dsimp only at q
  split at q
  · obtain ⟨v1, q1, rfl, r2, v2, q2, rfl, r3, r4⟩ := r1
    cases (show _ = _ from r4); cases (show _ = _ from r2); cases (show _ = _ from r3)
    exact ⟨_, _, rfl, q.1, P _ _ _ _ q.2 t1 c1 (walks_rng _ _ fun k => rfl)⟩
  · exact q.elim
theorem ji_zip {a b : Expr} {elts : List Expr} {kk : Nat} {tpos : Pos} (hg : Gl X "zip") (hm : X.mg "zip" = none) (ha : PA X [a, b] (LA X.K W da))
    (hs : starEach [a, b] X.env = (false, eval a X.env) :: starEach [b] X.env) (hpl : (backTo pos (starEach [b] X.env)).any (·.1) = false) :
    PI X (.Tuple elts kk tpos) (.Call (.Name "zip" p) [a, b] [] pos) (LI X.K W (diZip da)) := PI.imp (pi_zipA hg hm ha hs hpl) fun σ H R h => by
  obtain ⟨Γ, S, Q1, X1, e, c, h, P, PX⟩ := h
  refine ⟨Γ, S, _, X1, e, c, h, fun ds S1 vs H1 q t1 c1 r1 => ?_, PX⟩
  dsimp only at q
  split at q
  · obtain ⟨v1, q1, rfl, ⟨a, xs, rfl, sq, s⟩, v2, q2, rfl, ⟨b, ys, rfl, sq2, s2⟩, r4⟩ := r1
    cases (show _ = _ from r4)
    exact ⟨a, b, xs, ys, rfl, .inr ⟨sq, sq2, P _ _ _ _ q t1 c1 (walks_zipT sq s sq2 s2)⟩⟩
  · obtain ⟨v1, q1, rfl, r2, v2, q2, rfl, r3, r4⟩ := r1
    cases (show _ = _ from r4); cases (show _ = _ from r2); cases (show _ = _ from r3)
    split at q
    · rename_i x y hx hy
      obtain ⟨xs, sq, s⟩ := lst_stays H1 S1 c1 hx
      obtain ⟨ys, sq2, s2⟩ := lst_stays H1 S1 c1 hy
      refine ⟨_, _, xs, ys, rfl, .inl ⟨sq, sq2, P _ _ _ _ q t1 c1 (walks_zipL fun H S _ c g => ?_)⟩⟩
      obtain ⟨us, w1, w2⟩ := lst_stays H S c g.1
      obtain ⟨ws, w3, w4⟩ := lst_stays H S c g.2
      exact ⟨us, ws, w1, w2, w3, w4⟩
    · exact q.elim
  · exact q.elim
end

/-! ### for -/
def dsLoop (G : Sto → Prop) (g : DG) (b : DS) (D : DEnds) : List DV → Gm → Sto → Prop
  | [], Γ, S => G S ∧ D.nx Γ S
  | d :: ds, Γ, S => G S ∧ g d Γ S (fun Γ1 S1 => b { D with nx := dsLoop G g b D ds, ct := dsLoop G g b D ds, bk := D.nx } Γ1 S1) fun x S1 => D.xx x Γ S1
@[simp] def dsFor (it : DI) (g : DG) (b : DS) : DS := fun D Γ S => it Γ S (fun s S1 => dsLoop s.G g b D s.ds Γ S1) fun x S1 => D.xx x Γ S1
theorem js_for {X : Cx} {W : WX} {tg iter : Expr} {body : List Stmt} {pos : Pos} {it : DI} {g : DG} {b : DS} (hp : PassesOwn (model X.prog X.w) X.A X.env X.xe) (hc : X.calm = true) (hi : PI X tg iter (LI X.K W it)) (hg : PG X tg (LG X.K W g)) (hb : PSs X body (LS X.K W b))
    (hs : ∀ x, foldedSetIterable iter X.env x = pure x) : PS X (.For tg iter body [] pos) (LS X.K W (dsFor it g b)) := PS.imp (ps_for hp hc hi hg hb hs) fun D σ H h => by
  obtain ⟨Γ, S, D1, e, c, h, P⟩ := h
  refine ⟨Γ, S, _, _, e, c, h, fun s S1 H1 J q t1 c1 wk => ?_, P.px e⟩
  refine ⟨fun i m σ' H' => m = s.ds.length - i ∧ i ≤ s.ds.length ∧ ∃ Γ' S', TLe H1 H' ∧ EnvR X.K H' Γ' σ' ∧ Conc X.K S' H' ∧ dsLoop s.G g b D1 (s.ds.drop i) Γ' S', ⟨_, rfl, Nat.zero_le _, Γ, S1, TLe.refl _, e.mono t1, c1, q⟩, ?_⟩
  rintro i m σ2 H2 ⟨rfl, hi, Γ2, S2, t2, e2, c2, q2⟩
  by_cases hlt : i < s.ds.length
  · rw [List.drop_eq_getElem_cons hlt] at q2
    obtain ⟨g2, q2⟩ := q2
    refine .inr ⟨wk.go i H2 S2 t2 c2 g2 hlt, fun σ' H' => ∃ Γ' S', TLe H1 H' ∧ EnvR X.K H' Γ' σ' ∧ Conc X.K S' H' ∧ dsLoop s.G g b D1 (s.ds.drop (i + 1)) Γ' S', fun σ' H' w => ⟨s.ds.length - (i + 1), by omega, rfl, hlt, w⟩, fun x H3 y => ?_⟩
    obtain ⟨d, hd, t3, c3, r3⟩ := wk.yld i H2 S2 x H3 t2 c2 g2 hlt y
    rw [List.getElem?_eq_getElem hlt] at hd
    cases hd
    have t123 := (t1.trans t2).trans t3
    refine ⟨s.ds[i], Γ2, S2, _, _, r3, e2.mono t3, c3, q2, fun Γ4 S4 σ4 H4 q4 t4 e4 c4 => ?_, (P.le t123).px (e2.mono t3)⟩
    have t14 := t123.trans t4
    exact ⟨Γ4, S4, _, e4, c4, q4, ⟨fun Γ' S' σ' H' a b e' c' => ⟨Γ', S', ((t2.trans t3).trans t4).trans b, e', c', a⟩, (P.le t14).rt, fun Γ' S' σ' H' a b => (P.le t14).nx _ _ _ _ a b, fun Γ' S' σ' H' a b e' c' => ⟨Γ', S', ((t2.trans t3).trans t4).trans b, e', c', a⟩, (P.le t14).xx⟩⟩
  · have ei : i = s.ds.length := by omega
    subst ei
    rw [List.drop_length] at q2
    obtain ⟨g2, q2⟩ := q2
    exact .inl ⟨wk.stop H2 S2 t2 c2 g2, P.nx _ _ _ _ q2 (t1.trans t2) e2 c2⟩
end M
set_option maxHeartbeats 4000000
namespace M
open PySem PySem.Spec PyProof.Rows L2

/-! ### targets of a comprehension: its own names alone are stored -/
theorem wipe_set : ∀ {σ : L2.St} {i : Nat} {v : Option V} {vs : List Nat}, i ∈ vs → L2.wipe (σ.set i v) vs = L2.wipe σ vs
  | σ, i, v, w :: vs, h => by
    unfold L2.wipe
    by_cases hw : i = w
    · subst hw
      by_cases hi : i ∈ vs
      · rw [wipe_set hi]
      · have gen : ∀ (vs : List Nat), L2.wipe (σ.set i v) vs = (L2.wipe σ vs).set i (if i ∈ vs then none else v) := by
          intro vs
          induction vs with
          | nil => simp [L2.wipe]
          | cons u us ih =>
            simp only [L2.wipe]
            rw [ih]
            by_cases hu : u = i
            · subst hu
              simp [List.set_set]
            · rw [List.set_comm _ _ (fun e => hu e.symm)]
              have : (i ∈ u :: us) ↔ i ∈ us := by simp [Ne.symm hu]
              simp only [this]
        rw [gen, List.set_set]
    · have hm : i ∈ vs := by
        rcases List.mem_cons.mp h with e | e
        · exact absurd e hw
        · exact e
      rw [wipe_set hm]
theorem wipe_mem {σ : L2.St} : ∀ {vs : List Nat} {j : Nat}, j ∈ vs → j < σ.length → (L2.wipe σ vs)[j]? = some none
  | w :: vs, j, h, hl => by
    unfold L2.wipe
    by_cases hj : w = j
    · subst hj
      rw [List.getElem?_set_self (by rw [L2.wipe_length]; exact hl)]
    · rw [List.getElem?_set_ne hj]
      rcases List.mem_cons.mp h with e | e
      · exact absurd e.symm hj
      · exact wipe_mem e hl
theorem wipe_nmem {σ : L2.St} : ∀ {vs : List Nat} {j : Nat}, j ∉ vs → (L2.wipe σ vs)[j]? = σ[j]?
  | [], _, _ => rfl
  | w :: vs, j, h => by
    unfold L2.wipe
    rw [List.getElem?_set_ne (fun e => h (by simp [e]))]
    exact wipe_nmem (fun e => h (by simp [e]))
theorem wipe_wipe {σ : L2.St} (vs : List Nat) : L2.wipe (L2.wipe σ vs) vs = L2.wipe σ vs := by
  refine List.ext_getElem? fun j => ?_
  by_cases hj : j ∈ vs
  · by_cases hl : j < σ.length
    · rw [wipe_mem hj hl, wipe_mem hj (by rw [L2.wipe_length]; exact hl)]
    · rw [List.getElem?_eq_none (by rw [L2.wipe_length, L2.wipe_length]; omega), List.getElem?_eq_none (by rw [L2.wipe_length]; omega)]
  · rw [wipe_nmem hj]
def LGw (K : PySem.W.Frag) (W : WX) (vs : List Nat) (g : DG) : TG := fun v σ H Q => LG K W g v σ H fun σ2 H2 => L2.wipe σ2 vs = L2.wipe σ vs → Q σ2 H2
def LGsw (K : PySem.W.Frag) (W : WX) (vs : List Nat) (g : DGs) : TGs := fun us σ H Q => LGs K W g us σ H fun σ2 H2 => L2.wipe σ2 vs = L2.wipe σ vs → Q σ2 H2
section
variable {X : Cx} {W : WX} {pos : Pos} {vs : List Nat}
theorem jgw_name {i : Nat} {x : Str} (hN : X.N.Nodup) (hi : X.N[i]? = some x) (hx : Loc X.env.scope x) (hf : X.fn x = true ∨ X.env.scope.names.lookup x = some .local) (hm : i ∈ vs) : PG X (.Name x pos) (LGw X.K W vs (dgName i)) := PG.imp (pg_name hN hi hx hf) fun v σ H Q h => by
  obtain ⟨d, Γ, S, Q1, X1, r, e, c, h, P, PX⟩ := h
  exact P _ _ _ _ h (TLe.refl _) (e.set i r) c (wipe_set hm)
theorem jgsw_nil : PGs X [] (LGsw X.K W vs dgNil) := PGs.imp pgs_nil fun v σ H Q h => by
  obtain ⟨d, Γ, S, Q1, X1, r, e, c, h, P⟩ := h
  obtain ⟨rfl, h⟩ := h
  cases (show _ = _ from r)
  exact ⟨rfl, P _ _ _ _ h (TLe.refl _) e c rfl⟩
theorem jgsw_cons {e : Expr} {es : List Expr} {t : DG} {u : DGs} (h1 : PG X e (LGw X.K W vs t)) (h2 : PGs X es (LGsw X.K W vs u)) (hs : (assignEach (e :: es) X.env).map (·.2) = assign e X.env :: (assignEach es X.env).map (·.2)) : PGs X (e :: es) (LGsw X.K W vs (dgCons t u)) :=
  PGs.imp (pgs_cons h1 h2 hs) fun v σ H Q h => by
    obtain ⟨ds, Γ, S, Q1, X1, r, e, c, h, P⟩ := h
    unfold dgCons at h
    split at h
    · obtain ⟨v0, vr, rfl, r1, r2⟩ := r
      refine ⟨v0, vr, rfl, _, Γ, S, _, _, r1, e, c, h, fun Γ1 S1 σ1 H1 q t1 e1 c1 hw => ?_, noX⟩
      refine ⟨_, Γ1, S1, Q1, fun _ _ => False, r2.mono t1, e1, c1, q, fun Γ' S' σ' H' a b e' c' hw' => ?_⟩
      exact P _ _ _ _ a (t1.trans b) e' c' (hw'.trans hw)
    · exact h.elim
theorem jgw_tup {es : List Expr} {k : Nat} {t : DGs} {n : Nat} (hc : X.calm = true) (h : PGs X es (LGsw X.K W vs t)) (hn : (assignEach es X.env).length = n) (hst : (assignEach es X.env).findIdx? (·.1) = none) : PG X (.Tuple es k pos) (LGw X.K W vs (dgTup n t)) :=
  PG.imp (pg_tup hc h hn hst) fun v σ H Q h => by
    obtain ⟨d, Γ, S, Q1, X1, r, e, c, h, P, PX⟩ := h
    unfold dgTup at h
    split at h
    · obtain ⟨a, us, rfl, q, s⟩ := r
      exact ⟨a, us, rfl, q, by rw [s.length]; exact h.1, _, Γ, S, Q1, fun _ _ => False, s, e, c, h.2, P⟩
    · exact h.elim
end

/-! ### comprehensions -/
abbrev noQX : QX := fun _ _ => False
abbrev W0 : WX := fun _ _ _ _ => False
def dcLoop (G : Sto → Prop) (g : DG) (t : DT) (te : DE) (Γ : Gm) (p : Addr) (Q : Sto → Prop) : List DV → Sto → Prop
  | [], S => G S ∧ Q S
  | d :: ds, S => G S ∧ g d Γ S (fun Γ1 S1 => t Γ1 S1 (fun b S2 => match b with
    | true => te Γ1 S2 (fun y S3 => match S3 p with
      | some (.lst acc) => acc.length < sizeLine ∧ dcLoop G g t te Γ p Q ds (S3.upd p (.lst (acc ++ [y])))
      | _ => False) noQX
    | false => dcLoop G g t te Γ p Q ds S2) noQX) noQX
@[simp] def dComp (it : DI) (own : List Nat) (g : DG) (t : DT) (te : DE) : DE := fun Γ S Q X => it Γ S (fun s S1 => ∀ p, S1 p = none → dcLoop s.G g t te (wipeG Γ own) p (fun S2 => Q (.ref p) S2) s.ds (S1.upd p (.lst []))) X
@[simp] def dtYes : DT := fun _ S Q _ => Q true S
section
variable {X : Cx} {W : WX} {own : List Nat} {it : DI} {g : DG} {t : DT} {te : DE}
theorem lc_lift {K : PySem.W.Frag} {σ : L2.St} {H : Hp} {Q : VK} (h : LE K W (dComp it own g t te) σ H Q) : tLc (LI K W it) (LGw K W0 own g) (LT K W0 t) (LE K W0 te) own σ H Q := by
  obtain ⟨Γ, S, Q1, X1, e, c, h, P, PX⟩ := h
  refine ⟨Γ, S, _, X1, e, c, h, fun s S1 H1 J q t1 c1 wk D hD => ?_, PX⟩
  have q0 := q D (c1.free hD)
  have tD : TLe H1 (upd H1 D (.lst [])) := TLe.new hD
  refine ⟨fun i m H' => m = s.ds.length - i ∧ i ≤ s.ds.length ∧ ∃ S', TLe H1 H' ∧ Conc K S' H' ∧ dcLoop s.G g t te (wipeG Γ own) D (fun S2 => Q1 (.ref D) S2) (s.ds.drop i) S', ⟨_, rfl, Nat.zero_le _, _, tD, c1.new (o := .lst []) hD ⟨[], upd_same, .nil⟩, q0⟩, ?_⟩
  rintro i m H2 ⟨rfl, hi, S2, t2, c2, q2⟩
  by_cases hlt : i < s.ds.length
  · rw [List.drop_eq_getElem_cons hlt] at q2
    obtain ⟨g2, q2⟩ := q2
    refine .inr ⟨wk.go i H2 S2 t2 c2 g2 hlt, fun H' => ∃ S', TLe H1 H' ∧ Conc K S' H' ∧ dcLoop s.G g t te (wipeG Γ own) D (fun S2 => Q1 (.ref D) S2) (s.ds.drop (i + 1)) S', fun H' w => ⟨s.ds.length - (i + 1), by omega, rfl, hlt, w⟩, fun x H3 y => ?_⟩
    obtain ⟨d, hd, t3, c3, r3⟩ := wk.yld i H2 S2 x H3 t2 c2 g2 hlt y
    rw [List.getElem?_eq_getElem hlt] at hd
    cases hd
    have t13 := t2.trans t3
    have e3 : EnvR K H3 (wipeG Γ own) (L2.wipe σ own) := EnvR.wipe (e.mono (t1.trans t13)) own
    refine ⟨s.ds[i], wipeG Γ own, S2, _, _, r3, e3, c3, q2, fun Γ4 S4 σ4 H4 q4 t4 e4 c4 hw => ⟨hw.trans (wipe_wipe own), ?_⟩, noX⟩
    refine ⟨Γ4, S4, _, _, e4, c4, q4, fun b S5 H5 q5 t5 c5 => ?_, noX⟩
    cases b with
    | true =>
      rw [if_pos rfl]
      refine ⟨Γ4, S5, _, _, e4.mono t5, c5, q5, fun z S6 v H6 q6 t6 c6 r6 => ?_, noX⟩
      dsimp only at q6
      split at q6
      · rename_i acc hacc
        obtain ⟨us, hu, su⟩ := c6.lst hacc
        have tw := c6.tle_write (ho := .lst (us ++ [v])) hacc
        refine ⟨us, hu, by rw [su.length]; exact q6.1, _, ((((t13.trans t4).trans t5).trans t6).trans tw), c6.write (o := .lst (acc ++ [z])) hacc ⟨_, upd_same, (su.append (.cons r6 .nil)).mono tw⟩, q6.2⟩
      · exact q6.elim
    | false =>
      rw [if_neg Bool.false_ne_true]
      exact ⟨S5, (t13.trans t4).trans t5, c5, q5⟩
  · have ei : i = s.ds.length := by omega
    subst ei
    rw [List.drop_length] at q2
    obtain ⟨g2, q2⟩ := q2
    exact .inl ⟨wk.stop H2 S2 t2 c2 g2, P _ _ _ _ q2 (t1.trans t2) c2 rfl⟩
theorem jts_nil : PTs X [] (LT X.K W dtYes) := ⟨fun pins s σ H Q I h => by
  obtain ⟨Γ, S, Q1, X1, e, c, h, P, PX⟩ := h
  exact pts_nil.run pins s σ H Q I (P _ _ _ h (TLe.refl _) c)⟩
theorem jts_one {c : Expr} (h : PT X c (LT X.K W t)) : PTs X [c] (LT X.K W t) := pts_one h
theorem je_comp {elt tg iter : Expr} {ifs : List Expr} {scope : Scope} {ow : List (Str × Nat)} {pos : Pos} (hc : X.calm = true) (hN : X.N.Nodup) (hi : PI X tg iter (LI X.K W it)) (ok : BlkOk X.N X.env.scope scope ow)
    (hg : ∀ (s : Shared) (H : Hp) (C : Addr) (cl : List (Str × Addr)) (fp : List Addr), PG (X.blk s H scope (compEnvC scope cl C X.env) fp) tg (LGw X.K W0 (ow.map (·.2)) g)) (ht : ∀ (s : Shared) (H : Hp) (C : Addr) (cl : List (Str × Addr)) (fp : List Addr), PTs (X.blk s H scope (compEnvC scope cl C X.env) fp) ifs (LT X.K W0 t))
    (he : ∀ (s : Shared) (H : Hp) (C : Addr) (cl : List (Str × Addr)) (fp : List Addr), PE (X.blk s H scope (compEnvC scope cl C X.env) fp) elt (LE X.K W0 te)) (hs : ∀ x, foldedSetIterable iter X.env x = pure x) :
    PE X (.ListComp elt [⟨tg, iter, ifs, 0⟩] scope pos) (LE X.K W (dComp it (ow.map (·.2)) g t te)) := PE.imp (pe_lc hc hN hi ok hg ht he hs) fun _ _ _ h => lc_lift h
theorem js_setLc {i : Nat} {y : Str} {py : Pos} {elt tg iter : Expr} {ifs : List Expr} {scope : Scope} {ow : List (Str × Nat)} {pos spos : Pos} (hc : X.calm = true) (hN : X.N.Nodup) (hy : X.N[i]? = some y) (hyl : X.env.scope.names.lookup y = some .local)
    (hsw : swapsWith (.ListComp elt [⟨tg, iter, ifs, 0⟩] scope pos) (some (.Name y py)) spos.line X.env = pure true) (hi : PI X tg iter (LI X.K W it)) (ok : BlkOk X.N X.env.scope scope ow)
    (hg : ∀ (s : Shared) (H : Hp) (C : Addr) (cl : List (Str × Addr)) (fp : List Addr), PG (X.blk s H scope (compEnvC scope cl C X.env) fp) tg (LGw X.K W0 (ow.map (·.2)) g)) (ht : ∀ (s : Shared) (H : Hp) (C : Addr) (cl : List (Str × Addr)) (fp : List Addr), PTs (X.blk s H scope (compEnvC scope cl C X.env) fp) ifs (LT X.K W0 t))
    (he : ∀ (s : Shared) (H : Hp) (C : Addr) (cl : List (Str × Addr)) (fp : List Addr), PE (X.blk s H scope (compEnvC scope cl C X.env) fp) elt (LE X.K W0 te)) (hs : ∀ x, foldedSetIterable iter X.env x = pure x) :
    PS X (.Assign [.Name y py] (.ListComp elt [⟨tg, iter, ifs, 0⟩] scope pos) spos) (LS X.K W (dsAsg (dComp it (ow.map (·.2)) g t te) (dgName i))) := PS.imp (ps_setLc hc hN hy hyl hsw hi ok hg ht he hs) fun D σ H h => by
  obtain ⟨Γ, S, D1, e, c, h, P⟩ := h
  refine lc_lift ⟨Γ, S, _, _, e, c, h, fun x S1 v H1 q t1 c1 r1 => ?_, P.px e⟩
  exact P.nx _ _ _ _ q t1 ((e.mono t1).set i r1) c1
end
end M
set_option maxHeartbeats 4000000
namespace M
open PySem PySem.Spec PyProof.Rows L2

/-! ### the form of the text -/
def notStar : Expr → Bool
  | .Starred .. => false
  | _ => true
theorem star_ok {e : Expr} (h : notStar e = true) (es : List Expr) (env : Env) : starEach (e :: es) env = (false, eval e env) :: starEach es env := by
  cases e <;> first | rfl | cases h
def allPlain : List Expr → Bool
  | [] => true
  | e :: es => notStar e && allPlain es
theorem plain_any {es : List Expr} (h : allPlain es = true) (pos : Pos) (env : Env) : (backTo pos (starEach es env)).any (·.1) = false := by
  induction es with
  | nil => rfl
  | cons e es ih =>
    simp only [allPlain, Bool.and_eq_true] at h
    rw [star_ok h.1]
    show (false || (backTo pos (starEach es env)).any (·.1)) = false
    rw [ih h.2]; rfl
theorem plain_all {es : List Expr} (h : allPlain es = true) (pos : Pos) (env : Env) : (backTo pos (starEach es env)).all (fun x => !x.1) = true := by
  induction es with
  | nil => rfl
  | cons e es ih =>
    simp only [allPlain, Bool.and_eq_true] at h
    rw [star_ok h.1]
    show (true && (backTo pos (starEach es env)).all (fun x => !x.1)) = true
    rw [ih h.2]; rfl
theorem plain_few {es : List Expr} (h : allPlain es = true) (hl : es.length < 29) (pos : Pos) (env : Env) : ((backTo pos (starEach es env)).all (fun x => !x.1) && (backToKw pos (keywordEach [] env)).all (fun x => x.1.isSome)
      && decide (es.length + ([] : List Keyword).length + (if ([] : List Keyword).isEmpty then 0 else 1) < 30)) = true := by
  rw [plain_all h]
  simp [backToKw, keywordEach]
  omega
theorem plain_form {es : List Expr} (h : allPlain es = true) (hl : es.length < 29) (pos : Pos) (env : Env) : methodCallForm (es.length + ([] : List Keyword).length) (backTo pos (starEach es env)) (backToKw pos (keywordEach [] env)) = true := by
  unfold methodCallForm
  rw [plain_all h]
  simp [backToKw, keywordEach]
  omega
def notSet : Expr → Bool
  | .Set .. => false
  | _ => true
theorem set_ok {e : Expr} (h : notSet e = true) (op : CmpOp) : behindInMarks op e = false := by
  cases e <;> first | rfl | cases h
theorem set_iter {e : Expr} (h : notSet e = true) (env : Env) : ∀ x, foldedSetIterable e env x = pure x := by
  intro x
  cases e <;> first | rfl | cases h
def notSlice : Expr → Bool
  | .Slice .. => false
  | _ => true
theorem slice_ok {e : Expr} (h : notSlice e = true) : PlainIx e := by
  intro o i
  cases e <;> first | rfl | cases h
theorem aug_ok {e : Expr} (h : notSlice e = true) : ∀ ov iv new, augStore e ov iv new = (do holding [new, ov, iv] (setItem ov iv new); release [new, ov, iv] []; pure .next) := by
  intro ov iv new
  cases e <;> first | rfl | cases h
theorem asgS_ok {i : Expr} (h : notSlice i = true) (o : Expr) (pos : Pos) (env : Env) : ∀ v, assign (.Subscript o i pos) env v = (do
      let ov ← holding [v] (eval o env)
      let iv ← holding [v, ov] (eval i env)
      standAt pos
      holding [v, ov, iv] (setItem ov iv v)
      release [v, ov, iv] []) := by
  intro v
  cases i <;> first | rfl | cases h
def plainT : Expr → Bool
  | .UnaryOp .Not _ _ => false
  | .BoolOp .. => false
  | .IfExp .. => false
  | .Compare .. => false
  | _ => true
theorem plainT_ok {a : Expr} (h : plainT a = true) (env : Env) : ∀ whole, isTrue a env whole = (do let v ← whole; standAt a.pos; holding [v] (truthy v)) := by
  intro whole
  cases a with
  | UnaryOp op x p => cases op <;> first | rfl | cases h
  | _ => first | rfl | cases h
def attrPlain : Expr → Bool
  | .Call (.Name _ _) [] [] _ => false
  | _ => true
theorem attr_ok {o : Expr} (h : attrPlain o = true) (m : Str) (env : Env) (t : Sem Value) : attributeBase o m env t = t := by
  cases o with
  | Call f as ks p =>
    cases f <;> cases as <;> cases ks <;> first | rfl | cases h
  | _ => rfl
def notComp : Expr → Bool
  | .ListComp .. => false
  | .SetComp .. => false
  | .DictComp .. => false
  | _ => true
theorem sw_no {e : Expr} (h : notComp e = true) (tg : Option Expr) (l : Nat) (env : Env) : swapsWith e tg l env = pure false := by
  cases e <;> first | rfl | cases h
theorem sw_sub (e o i : Expr) (p : Pos) (l : Nat) (env : Env) : swapsWith e (some (.Subscript o i p)) l env = pure false := by
  cases e <;> rfl
theorem sw_att (e o : Expr) (f : Str) (p : Pos) (l : Nat) (env : Env) : swapsWith e (some (.Attribute o f p)) l env = pure false := by
  cases e <;> rfl
theorem sw_tup (e : Expr) (ts : List Expr) (k : Nat) (p : Pos) (l : Nat) (env : Env) : swapsWith e (some (.Tuple ts k p)) l env = pure false := by
  cases e <;> rfl
theorem sws_sub (o i e : Expr) (p : Pos) (env : Env) : swappedStores [.Subscript o i p] e env = pure none := by
  cases e <;> rfl
def notTup : Expr → Bool
  | .Tuple .. => false
  | _ => true
theorem sws_tup {e : Expr} (h : notTup e = true) (ts : List Expr) (k : Nat) (p : Pos) (env : Env) : swappedStores [.Tuple ts k p] e env = pure none := by
  cases e <;> first | rfl | cases h
theorem ae_one (t : Expr) (h : notStar t = true) (ts : List Expr) (env : Env) : (assignEach (t :: ts) env).map (·.2) = assign t env :: (assignEach ts env).map (·.2) := by
  cases t <;> first | rfl | cases h
theorem ae_len {ts : List Expr} (env : Env) : (assignEach ts env).length = ts.length := by
  induction ts with
  | nil => rfl
  | cons t ts ih => cases t <;> simp [assignEach, ih]
theorem ae_plain {ts : List Expr} (h : allPlain ts = true) (env : Env) : (assignEach ts env).findIdx? (·.1) = none := by
  induction ts with
  | nil => rfl
  | cons t ts ih =>
    simp only [allPlain, Bool.and_eq_true] at h
    have e : assignEach (t :: ts) env = (false, assign t env) :: assignEach ts env := by
      have h1 := h.1
      cases t <;> first | rfl | cases h1
    rw [e, List.findIdx?_cons]
    simp [ih h.2]
/-- two or three names stored from the right -/
def nameOf (sc : Scope) (line : Nat) : Expr → Option Str
  | .Name id pos => if sc.names.lookup id == some .local && pos.line == line then some id else none
  | _ => none
def nameE (env : Env) (line : Nat) : Expr → Option Str
  | .Name id pos => if env.kindOf id == some .local && pos.line == line then some id else none
  | _ => none
def swapDec (sc : Scope) (ts vs : List Expr) : Option (Option (List Str)) :=
  if !(ts.length == 2 || ts.length == 3) || vs.length != ts.length then some none
  else if !allPlain vs then none
  else
    let line := (ts.head?.map (·.pos.line)).getD 0
    let names := ts.filterMap (nameOf sc line)
    if names.length != ts.length || names.eraseDups.length != names.length then some none
    else if vs.all (foldedForSure 8) then some none
    else if vs.all (constantsAlone 8) then none
    else some (some names)
theorem anyStar {vs : List Expr} (h : allPlain vs = true) : (vs.any fun | .Starred .. => true | _ => false) = false := by
  induction vs with
  | nil => rfl
  | cons t ts ih =>
    simp only [allPlain, Bool.and_eq_true] at h
    have h1 := h.1
    simp only [List.any_cons, ih h.2, Bool.or_false]
    cases t <;> first | rfl | cases h1
theorem swapDec_ok {sc : Scope} {ts vs : List Expr} {r : Option (List Str)} (h : swapDec sc ts vs = some r) {env : Env} (hs : env.scope = sc) (hk : sc.kind = .function) (k1 : Nat) (p1 : Pos) (k2 : Nat) (p2 : Pos) :
    swappedStores [.Tuple ts k1 p1] (.Tuple vs k2 p2) env = pure r := by
  have hb : env.blockKind = .function := by unfold Env.blockKind; rw [hs, hk]; rfl
  have hn : ∀ line, nameE env line = nameOf sc line := fun line => by
    funext e
    unfold nameOf nameE
    cases e with
    | Name id pos =>
      have hkk : env.kindOf id = sc.names.lookup id := by rw [← hs]; rfl
      simp only [hkk]
    | _ => rfl
  unfold swapDec at h
  split at h
  · rename_i c
    cases h
    show (if _ then _ else _) = _
    have c0 : (!(ts.length == 2 || ts.length == 3) || vs.length != ts.length || env.blockKind != .function) = true := by rw [c]; rfl
    rw [if_pos c0]
  · rename_i c
    split at h
    · cases h
    · rename_i ap
      have ap' : allPlain vs = true := by simpa using ap
      have c0 : (!(ts.length == 2 || ts.length == 3) || vs.length != ts.length || env.blockKind != .function) = false := by
        rw [Bool.not_eq_true] at c
        rw [c, hb]; rfl
      show (if (!(ts.length == 2 || ts.length == 3) || vs.length != ts.length || env.blockKind != .function) = true then _ else _) = _
      rw [c0, if_neg Bool.false_ne_true]
      show (if (vs.any fun | .Starred .. => true | _ => false) = true then _ else _) = _
      rw [anyStar ap', if_neg Bool.false_ne_true]
      show (if ((ts.filterMap (nameE env ((ts.head?.map (·.pos.line)).getD 0))).length != ts.length || (ts.filterMap (nameE env ((ts.head?.map (·.pos.line)).getD 0))).eraseDups.length != (ts.filterMap (nameE env ((ts.head?.map (·.pos.line)).getD 0))).length) = true then _ else
        if vs.all (foldedForSure 8) = true then _ else if vs.all (constantsAlone 8) = true then _ else pure (some (ts.filterMap (nameE env ((ts.head?.map (·.pos.line)).getD 0))))) = _
      rw [hn]
      simp only at h
      split at h
      · rename_i c1
        cases h
        rw [if_pos c1]
      · rename_i c1
        rw [if_neg c1]
        split at h
        · rename_i c2
          cases h
          show (if _ then _ else _) = _
          rw [if_pos c2]
        · rename_i c2
          show (if _ then _ else _) = _
          rw [if_neg c2]
          split at h
          · cases h
          · rename_i c3
            cases h
            show (if _ then _ else _) = _
            rw [if_neg c3]
end M
set_option maxHeartbeats 4000000
namespace M
open PySem PySem.Spec PyProof.Rows L2

/-! ### what names stand for -/
inductive GV where
  | fn (c : Ctr)
  | cv (d : DV)
  | mk (C : Addr) (c : Ctr)
  | bi
structure Cfg where
  N : List Str
  sc : Scope
  st : List Str
  gl : Str → Option GV
  mt : Str → Option (Addr → Option Ctr)
  Z : Zt
def Cfg.blk (F : Cfg) (scope : Scope) (own : List Str) : Cfg := { F with sc := relS scope F.sc, st := own }
def GOk (X : Cx) (k : Nat) (x : Str) : GV → Prop
  | .fn c => ∃ f fd ps, FnOk X.prog X.w X.K X.mg X.base (L2.CX X.prog X.w) k f fd ps (liftSp X.K c) ∧ X.mg x = some (.ref f) ∧ PySem.W.keepIn X.K (.ref f) = true ∧ Binds X.K fd ps []
  | .cv d => ∃ u v, X.mg x = some u ∧ RelV v u ∧ ∀ H, Rel X.K H d v
  | .mk C c => ∃ f fd ps j, Mk X.K C f ∧ FnOk X.prog X.w X.K X.mg X.base (L2.CX X.prog X.w) j f fd ps (liftSp X.K c) ∧ j + 1 ≤ k ∧ X.mg x = some (.ref C) ∧ Binds X.K fd ps []
  | .bi => X.mg x = none
structure GX (F : Cfg) (k : Nat) (X : Cx) (W : WX) : Prop where
  N : X.N = F.N
  nd : F.N.Nodup
  sc : X.env.scope = F.sc
  kind : F.sc.kind = .function
  calm : X.calm = true
  room : Room k X.A
  tk : Takes X W
  ps : PassesOwn (model X.prog X.w) X.A X.env X.xe
  fn : ∀ x, x ∈ F.st → X.fn x = true ∨ F.sc.names.lookup x = some .local
  gl : ∀ x g, F.gl x = some g → GOk X k x g
  mt : ∀ m tab, F.mt m = some tab → MTab X k m tab
  z : ZOk X.K F.Z
def okName (x : Str) : Bool := !(x == ("__debug__" : Str)) && !(x == ("__classdict__" : Str)) && !(x == ("__name__" : Str))
/-- the slot of a name that is the def's own -/
def slotOf (N : List Str) (x : Str) : Option Nat := N.idxOf? x
def visible (sc : Scope) (x : Str) : Bool := match sc.names.lookup x with
  | some .local => true
  | some .cell => true
  | some .free => true
  | _ => false
def globalN (sc : Scope) (x : Str) : Bool := match sc.names.lookup x with
  | some .globalImplicit => true
  | _ => false
def storable (F : Cfg) (x : Str) : Bool := F.st.contains x && okName x && (match F.sc.names.lookup x with
  | some .local => true
  | some .cell => true
  | _ => false)
/-- the built-in types by name -/
def tyNames : List (Str × String) := [("int", "int"), ("bool", "bool"), ("str", "str"), ("tuple", "tuple"), ("list", "list"), ("dict", "dict")]
def nameD (F : Cfg) (x : Str) : Option DE :=
  if !okName x then none
  else if visible F.sc x then (slotOf F.N x).map dVar
  else if globalN F.sc x then (match F.gl x with
    | some (.cv d) => some (dC d)
    | some (.mk C _) => some (dC (.ref C))
    | some .bi => (tyNames.lookup x).map fun n => dC (.ty n)
    | _ => none)
  else none
def binF : Operator → Option FO
  | .Add => some fAdd
  | .Sub => some fSub
  | .Mult => some fMul
  | .Mod => some fMod
  | .FloorDiv => some fDiv
  | .Pow => some fPow
  | _ => none
def augF : Operator → Option FO
  | .Add => some fAugAdd
  | .Sub => some fSub
  | _ => none
where fAugAdd : FO := fun x y S Q => match x, y with
  | .int i, .int j => Q (.int (i + j)) S
  | .str a, .str b => a.length + b.length ≤ sizeLine ∧ Q (.str (a ++ b)) S
  | .ref a, .ref b => (match S a, S b with
    | some (.lst xs), some (.lst ys) => xs.length + ys.length ≤ sizeLine ∧ Q (.ref a) (S.upd a (.lst (xs ++ ys)))
    | _, _ => False)
  | _, _ => False
def cmpF : CmpOp → Option FO
  | .Eq => some fEq
  | .NotEq => some fNe
  | .Lt => some fLt
  | .LtE => some fLe
  | .Gt => some fGt
  | .GtE => some fGe
  | .Is => some fIs
  | .IsNot => some fIsNot
  | .In => some fIn
  | .NotIn => some fNotIn
/-- built-in functions by name: with how many arguments -/
def bltF (Z : Zt) : List (Str × Nat × FC) := [("len", 1, fLen), ("isinstance", 2, fIsi Z), ("all", 1, fAll), ("any", 1, fAny), ("abs", 1, fAbs), ("max", 2, fMax), ("min", 2, fMin), ("sum", 1, fSum)]
def bltT : List (Str × Nat × FC) := [("int", 1, fInt), ("str", 1, fStrI), ("list", 1, fList), ("tuple", 1, fTuple)]
def mtF : List (Str × (DV → Sto → Bool) × FMt) := [("append", isLst, mAppend), ("extend", isLst, mExtend), ("pop", isLst, mPop), ("insert", isLst, mInsert), ("join", isStrD, mJoin)]
def listOk (es : List Expr) : Bool := allPlain es && decide (es.length < 29)
/-- the names that a target stores, with their slots -/
def tgNames : Nat → Expr → List Str
  | 0, _ => []
  | n + 1, e => match e with
    | .Name x _ => [x]
    | .Tuple es _ _ => (es.map (tgNames n)).flatten
    | _ => []
def ownOf (N : List Str) (xs : List Str) : Option (List (Str × Nat)) := xs.mapM fun x => (slotOf N x).map fun i => (x, i)
/-- a target of names -/
def tgD : Nat → Cfg → Expr → Option DG
  | 0, _, _ => none
  | n + 1, F, e => match e with
    | .Name x _ => if storable F x then (slotOf F.N x).map dgName else none
    | .Tuple es _ _ => if allPlain es then (tgsD n F es).map fun g => dgTup es.length g else none
    | _ => none
where tgsD : Nat → Cfg → List Expr → Option DGs
  | 0, _, _ => none
  | n + 1, F, es => match es with
    | [] => some dgNil
    | e :: es => (tgD n F e).bind fun g => (tgsD n F es).map fun r => dgCons g r
def iterKind (F : Cfg) : Expr → Nat
  | .Call (.Name x _) _ [] _ => if globalN F.sc x && okName x then (match F.gl x with
    | some .bi => if x = ("range" : Str) then 1 else if x = ("enumerate" : Str) then 2 else if x = ("zip" : Str) then 3 else 0
    | _ => 0) else 0
  | _ => 0
/-- a block's own names are its locals or its cells -/
def ownKinds (scope : Scope) (own : List (Str × Nat)) : Bool := own.all fun p => match scope.names.lookup p.1 with
  | some .local => true
  | some .cell => true
  | _ => false
/-- {} -/
def dNewD : DE := fun _ S Q _ => ∀ p, S p = none → Q (.ref p) (S.upd p (.dK []))
mutual
def cE : Nat → Cfg → Expr → Option DE
  | 0, _, _ => none
  | n + 1, F, e => match e with
    | .Constant c _ _ => (match c with
      | .int i => some (dC (.int i))
      | .bool b => some (dC (.bl b))
      | .none => some (dC .non)
      | .str x => some (dC (.str x))
      | _ => none)
    | .Name x _ => nameD F x
    | .BinOp a op b _ => (binF op).bind fun f => (cE n F a).bind fun da => (cE n F b).map fun db => dBin f da db
    | .UnaryOp op a _ => (match op with
      | .Not => (cE n F a).map dNot
      | .USub => (cE n F a).map dNeg
      | _ => none)
    | .BoolOp op es _ => cBE n F op es
    | .IfExp c a b _ => (cT n F c).bind fun t => (cE n F a).bind fun da => (cE n F b).map fun db => dIf t da db
    | .Compare a ops bs _ => (match ops, bs with
      | [op], [b] => if notSet b then (cmpF op).bind fun f => (cE n F a).bind fun da => (cE n F b).map fun db => dBin f da db else none
      | [op, op'], [b, c] => if notSet c then (cmpF op).bind fun f => (cmpF op').bind fun g => (cE n F a).bind fun da => (cE n F b).bind fun db => (cE n F c).map fun dc => dChain f g da db dc else none
      | _, _ => none)
    | .Tuple es _ _ => (cA n F es).map dTup
    | .List es _ => (cA n F es).map dLst
    | .Dict ks vs _ => (match ks, vs with
      | [], [] => some dNewD
      | _, _ => none)
    | .Attribute a f _ => if attrPlain a then (cE n F a).map (dFld F.Z f) else none
    | .Subscript a i _ => (match i with
      | .Slice lo hi st _ => (match st with
        | none => (cE n F a).bind fun da => (cO n F lo).bind fun dl => (cO n F hi).map fun dh => dSl da dl dh
        | some s => (match lo, hi, s with
          | none, none, .UnaryOp .USub (.Constant (.int 1) _ _) _ => (cE n F a).map dRev
          | _, _, _ => none))
      | i => if notSlice i then (cE n F a).bind fun da => (cE n F i).map fun di => dBin fIx da di else none)
    | .Call f args kws pos => (match kws with
      | [] => (match f with
        | .Name x _ => if globalN F.sc x && okName x && listOk args then cCall n F x args else none
        | .Attribute o m apos => if attrPlain o && (apos.endLine == pos.line) && listOk args then cMeth n F o m args else none
        | _ => none)
      | _ => none)
    | .ListComp elt gs scope _ => cLC n F elt gs scope
    | _ => none
def cCall : Nat → Cfg → Str → List Expr → Option DE
  | 0, _, _, _ => none
  | n + 1, F, x, args => match F.gl x with
    | some (.fn c) => (cA n F args).map (dCall c)
    | some (.mk C c) => (cA n F args).map (dMake C c)
    | some .bi => (match (bltF F.Z).lookup x with
      | some (k, f) => if args.length == k then (cA n F args).map (dCB f) else none
      | none => (match bltT.lookup x with
        | some (k, f) => if args.length == k then (cA n F args).map (dCB f) else none
        | none => none))
    | _ => none
def cMeth : Nat → Cfg → Expr → Str → List Expr → Option DE
  | 0, _, _, _, _ => none
  | n + 1, F, o, m, args => match F.mt m with
    | some tab => (cE n F o).bind fun d => (cA n F args).map fun da => dMeth m tab d da
    | none => (match mtF.lookup m with
      | some (g, f) => (cE n F o).bind fun d => (cA n F args).map fun da => dMt g f d da
      | none => none)
def cLC : Nat → Cfg → Expr → List Comprehension → Scope → Option DE
  | 0, _, _, _, _ => none
  | n + 1, F, elt, gs, scope => match gs with
    | [⟨tg, iter, ifs, 0⟩] => if notSet iter then (ownOf F.N (tgNames 8 tg)).bind fun own => if blkC F.N F.sc scope own && ownKinds scope own then
        (cI n F tg iter).bind fun it => (tgD n (F.blk scope (own.map (·.1))) tg).bind fun g => (cIf n (F.blk scope (own.map (·.1))) ifs).bind fun t => (cE n (F.blk scope (own.map (·.1))) elt).map fun te => dComp it (own.map (·.2)) g t te
      else none else none
    | _ => none
def cIf : Nat → Cfg → List Expr → Option DT
  | 0, _, _ => none
  | n + 1, F, ifs => match ifs with
    | [] => some dtYes
    | [c] => cT n F c
    | _ => none
def cI : Nat → Cfg → Expr → Expr → Option DI
  | 0, _, _, _ => none
  | n + 1, F, tg, iter => match iterKind F iter with
    | 1 => (match iter with
      | .Call _ args _ _ => (match args with
        | [a] => if listOk [a] then (cA n F [a]).map diRng1 else none
        | [a, b] => if listOk [a, b] then (cA n F [a, b]).map diRng2 else none
        | _ => none)
      | _ => none)
    | 2 => (match iter, tg with
      | .Call _ args _ _, .Tuple .. => (match args with
        | [a] => if listOk [a] then (cE n F a).map diEnum else none
        | _ => none)
      | _, _ => none)
    | 3 => (match iter, tg with
      | .Call _ args _ _, .Tuple .. => (match args with
        | [a, b] => if listOk [a, b] then (cA n F [a, b]).map diZip else none
        | _ => none)
      | _, _ => none)
    | _ => (cE n F iter).map diSeq
def cT : Nat → Cfg → Expr → Option DT
  | 0, _, _ => none
  | n + 1, F, e => match e with
    | .UnaryOp .Not a _ => (cT n F a).map dtNot
    | .BoolOp op es _ => cBT n F op es
    | .Compare a ops bs _ => (match ops, bs with
      | [op], [b] => if notSet b then (cmpF op).bind fun f => (cE n F a).bind fun da => (cE n F b).map fun db => dtV (dBin f da db) else none
      | [op, op'], [b, c] => if notSet c then (cmpF op).bind fun f => (cmpF op').bind fun g => (cE n F a).bind fun da => (cE n F b).bind fun db => (cE n F c).map fun dc => dtV (dChain f g da db dc) else none
      | _, _ => none)
    | e => if plainT e then (cE n F e).map dtTru else none
def cBE : Nat → Cfg → BoolOp → List Expr → Option DE
  | 0, _, _, _ => none
  | n + 1, F, op, es => match es with
    | [] => none
    | a :: rest => (match rest with
      | [] => cE n F a
      | _ :: _ => (cE n F a).bind fun da => (cBE n F op rest).map fun db => match op with
        | .And => dAnd da db
        | .Or => dOr da db)
def cBT : Nat → Cfg → BoolOp → List Expr → Option DT
  | 0, _, _, _ => none
  | n + 1, F, op, es => match es with
    | [] => none
    | a :: rest => (match rest with
      | [] => cT n F a
      | _ :: _ => (cT n F a).bind fun da => (cBT n F op rest).map fun db => match op with
        | .And => dtAnd da db
        | .Or => dtOr da db)
def cA : Nat → Cfg → List Expr → Option DA
  | 0, _, _ => none
  | n + 1, F, es => match es with
    | [] => some daNil
    | a :: rest => if notStar a then (cE n F a).bind fun d => (cA n F rest).map fun r => daCons d r else none
def cO : Nat → Cfg → Option Expr → Option DO
  | 0, _, _ => none
  | n + 1, F, o => match o with
    | none => some doNone
    | some a => (cE n F a).map doSome
end
end M
set_option maxHeartbeats 4000000
namespace M
open PySem PySem.Spec PyProof.Rows L2

theorem slot_ix {N : List Str} {x : Str} {i : Nat} (h : slotOf N x = some i) : N[i]? = some x := by
  unfold slotOf at h
  rw [List.idxOf?, List.findIdx?_eq_some_iff_getElem] at h
  obtain ⟨h1, h2, _⟩ := h
  rw [List.getElem?_eq_getElem h1]
  have : N[i] = x := by simpa using h2
  rw [this]
theorem okName_ok {x : Str} (h : okName x = true) : (x == ("__debug__" : Str)) = false ∧ (x == ("__classdict__" : Str)) = false ∧ x ≠ "__name__" := by
  unfold okName at h
  simp only [Bool.and_eq_true, Bool.not_eq_true', beq_eq_false_iff_ne] at h
  exact ⟨by simpa using h.1.1, by simpa using h.1.2, h.2⟩
theorem visible_ok {sc : Scope} {x : Str} (h : visible sc x = true) : Vis sc x := by
  unfold visible at h
  unfold Vis
  split at h <;> first | (rename_i e; simp [e]) | cases h
theorem globalN_ok {X : Cx} {sc : Scope} {x : Str} (e : X.env.scope = sc) (h : globalN sc x = true) : Gl X x := by
  unfold globalN at h
  unfold Gl Env.kindOf
  rw [e]
  split at h
  · assumption
  · cases h
theorem storable_ok {F : Cfg} {x : Str} (h : storable F x = true) : x ∈ F.st ∧ Loc F.sc x := by
  unfold storable at h
  simp only [Bool.and_eq_true] at h
  refine ⟨by simpa using h.1.1, ?_⟩
  have h2 := h.2
  unfold L2.Loc
  split at h2 <;> first | (rename_i e; simp [e]) | cases h2
theorem mem_lookup_of {α : Type} : ∀ {l : List (Str × α)} {n : Str} {c : α}, l.lookup n = some c → (n, c) ∈ l
  | (k, v) :: r, n, c, h => by
    rw [List.lookup_cons] at h
    cases hb : n == k with
    | true => rw [hb] at h; cases h; have : n = k := by simpa using hb
              subst this; exact List.mem_cons_self
    | false => rw [hb] at h; exact List.mem_cons_of_mem _ (mem_lookup_of h)
theorem ty_boot {x : Str} {n : String} (h : tyNames.lookup x = some n) : bootBuiltins x = some (.type n) := by
  have h := mem_lookup_of h
  unfold tyNames at h
  simp only [List.mem_cons, Prod.mk.injEq, List.not_mem_nil, or_false] at h
  rcases h with ⟨rfl, rfl⟩ | ⟨rfl, rfl⟩ | ⟨rfl, rfl⟩ | ⟨rfl, rfl⟩ | ⟨rfl, rfl⟩ | ⟨rfl, rfl⟩ <;> decide +kernel
section
variable {F : Cfg} {X : Cx} {W : WX} {k : Nat}
theorem name_ok (g : GX F k X W) {x : Str} {pos : Pos} {d : DE} (h : nameD F x = some d) : PE X (.Name x pos) (LE X.K W d) := by
  unfold nameD at h
  split at h
  · cases h
  · rename_i ok
    obtain ⟨o1, o2, o3⟩ := okName_ok (by simpa using ok)
    split at h
    · rename_i hv
      cases hs : slotOf F.N x with
      | none => rw [hs] at h; cases h
      | some i =>
        rw [hs] at h; cases h
        exact je_var (by rw [g.N]; exact slot_ix hs) (by rw [g.sc]; exact visible_ok hv) o1 o2
    · split at h
      · rename_i hg
        have gl := globalN_ok g.sc hg
        split at h
        · rename_i d' hd
          cases h
          obtain ⟨u, v, e, r, rr⟩ := g.gl x _ hd
          exact je_of_tC (pe_glob gl e r o1) rr
        · rename_i C c hd
          cases h
          obtain ⟨f, fd, ps, j, _, _, _, e, _⟩ := g.gl x _ hd
          exact je_of_tC (v := .ref C) (pe_glob gl e rfl o1) fun _ => rfl
        · rename_i hd
          have e := g.gl x _ hd
          cases ht : tyNames.lookup x with
          | none => rw [ht] at h; cases h
          | some n =>
            rw [ht] at h; cases h
            exact je_of_tC (v := .ty n) (pe_bltn gl e (ty_boot ht) rfl o3 o1) fun _ => rfl
        · cases h
      · cases h
theorem bin_ok {op : Operator} {f : FO} (h : binF op = some f) : ∃ r, OpR X (binaryOp op) r ∧ OpD X.K r f := by
  unfold binF at h
  split at h <;> cases h
  · exact ⟨_, op_addD, od_add⟩
  · exact ⟨_, op_sub, od_sub⟩
  · exact ⟨_, op_mulD, od_mul⟩
  · exact ⟨_, op_mod, od_mod⟩
  · exact ⟨_, op_fdiv, od_div⟩
  · exact ⟨_, op_pow, od_pow⟩
theorem GX.u64 (g : GX F k X W) : X.A.units + 64 < cLine := g.room.units
theorem GX.u65 (g : GX F k X W) : X.A.units + 65 < cLine := by have := g.room.un; omega
theorem cmp_ok (g : GX F k X W) {op : CmpOp} {f : FO} (h : cmpF op = some f) : ∃ r, OpR X (compareOp op) r ∧ OpD X.K r f := by
  unfold cmpF at h
  split at h <;> cases h
  · exact ⟨_, op_eqA g.u64, od_eq⟩
  · exact ⟨_, op_neA g.u64, od_ne⟩
  · exact ⟨_, op_ltD, od_lt⟩
  · exact ⟨_, op_leD, od_le⟩
  · exact ⟨_, op_gtD, od_gt⟩
  · exact ⟨_, op_geD, od_ge⟩
  · exact ⟨_, op_isA, od_is⟩
  · exact ⟨_, op_isNotA, od_isnot⟩
  · exact ⟨_, op_inA g.u65, od_in⟩
  · exact ⟨_, op_notInA g.u65, od_notin⟩
theorem blt_ok (g : GX F k X W) {x : Str} {n : Nat} {f : FC} (h : (bltF F.Z).lookup x = some (n, f)) : ∃ id r, bootBuiltins x = some (.builtin id) ∧ CallR X (.builtin id) r ∧ CallD X.K r f := by
  have h := mem_lookup_of h
  unfold bltF at h
  simp only [List.mem_cons, Prod.mk.injEq, List.not_mem_nil, or_false] at h
  rcases h with ⟨rfl, rfl, rfl⟩ | ⟨rfl, rfl, rfl⟩ | ⟨rfl, rfl, rfl⟩ | ⟨rfl, rfl, rfl⟩ | ⟨rfl, rfl, rfl⟩ | ⟨rfl, rfl, rfl⟩ | ⟨rfl, rfl, rfl⟩ | ⟨rfl, rfl, rfl⟩
  · exact ⟨"len", _, by decide +kernel, call_len, cd_len⟩
  · exact ⟨"isinstance", _, by decide +kernel, call_isiD, cd_isi g.z⟩
  · exact ⟨"all", _, by decide +kernel, cr_all g.calm, cd_all⟩
  · exact ⟨"any", _, by decide +kernel, cr_any g.calm, cd_any⟩
  · exact ⟨"abs", _, by decide +kernel, call_abs, cd_abs⟩
  · exact ⟨"max", _, by decide +kernel, call_max2 g.calm, cd_max⟩
  · exact ⟨"min", _, by decide +kernel, call_min2 g.calm, cd_min⟩
  · exact ⟨"sum", _, by decide +kernel, cr_sum g.calm, cd_sum⟩
theorem bltT_ok {x : Str} {n : Nat} {f : FC} (h : bltT.lookup x = some (n, f)) : ∃ id r, bootBuiltins x = some (.type id) ∧ CallR X (.type id) r ∧ CallD X.K r f := by
  have h := mem_lookup_of h
  unfold bltT at h
  simp only [List.mem_cons, Prod.mk.injEq, List.not_mem_nil, or_false] at h
  rcases h with ⟨rfl, rfl, rfl⟩ | ⟨rfl, rfl, rfl⟩ | ⟨rfl, rfl, rfl⟩ | ⟨rfl, rfl, rfl⟩
  · exact ⟨"int", _, by decide +kernel, call_int1, cd_int⟩
  · exact ⟨"str", _, by decide +kernel, call_str_int, cd_stri⟩
  · exact ⟨"list", _, by decide +kernel, call_list_of, cd_list⟩
  · exact ⟨"tuple", _, by decide +kernel, call_tuple_of, cd_tuple⟩
theorem mt_ok {x : Str} {gg : DV → Sto → Bool} {f : FMt} (h : mtF.lookup x = some (gg, f)) : MtDyn X x gg f := by
  have h := mem_lookup_of h
  unfold mtF at h
  simp only [List.mem_cons, Prod.mk.injEq, List.not_mem_nil, or_false] at h
  rcases h with ⟨rfl, rfl, rfl⟩ | ⟨rfl, rfl, rfl⟩ | ⟨rfl, rfl, rfl⟩ | ⟨rfl, rfl, rfl⟩ | ⟨rfl, rfl, rfl⟩
  · exact md_append
  · exact md_extend
  · exact md_pop
  · exact md_insert
  · exact md_join
theorem listOk_ok {es : List Expr} (h : listOk es = true) : allPlain es = true ∧ es.length < 29 := by
  unfold listOk at h
  simpa using h
theorem plain_cons {a : Expr} {es : List Expr} (h : allPlain (a :: es) = true) : notStar a = true ∧ allPlain es = true := by
  simpa [allPlain] using h
end
end M
set_option maxHeartbeats 4000000
namespace M
open PySem PySem.Spec PyProof.Rows L2

section
variable {F : Cfg} {X : Cx} {W : WX} {k : Nat}
theorem LGw_of {K : PySem.W.Frag} {W : WX} {vs : List Nat} {g : DG} {v : V} {σ : L2.St} {H : Hp} {Q : L2.St → Hp → Prop} (h : LG K W g v σ H Q) : LGw K W vs g v σ H Q := by
  obtain ⟨d, Γ, S, Q1, X1, r, e, c, h, P, PX⟩ := h
  exact ⟨d, Γ, S, Q1, X1, r, e, c, h, fun Γ' S' σ' H' a b e' c' _ => P Γ' S' σ' H' a b e' c', PX⟩
theorem tg_ok : ∀ (n : Nat) {F : Cfg} {X : Cx} {W : WX} {k : Nat} {vs : List Nat}, GX F k X W → (∀ x i, x ∈ F.st → slotOf F.N x = some i → i ∈ vs) →
    (∀ {e : Expr} {d : DG}, tgD n F e = some d → PG X e (LGw X.K W vs d)) ∧ (∀ {es : List Expr} {d : DGs}, tgD.tgsD n F es = some d → allPlain es = true → PGs X es (LGsw X.K W vs d))
  | 0, F, X, W, k, vs, g, hv => ⟨fun h => by simp [tgD] at h, fun h => by simp [tgD.tgsD] at h⟩
  | n + 1, F, X, W, k, vs, g, hv => by
    obtain ⟨ih1, ih2⟩ := tg_ok n (vs := vs) g hv
    refine ⟨fun {e d} h => ?_, fun {es d} h hp => ?_⟩
    · rw [tgD.eq_def] at h
      simp only at h
      split at h
      · rename_i x pos
        split at h
        · rename_i hs
          obtain ⟨hs1, hs2⟩ := storable_ok hs
          cases hi : slotOf F.N x with
          | none => rw [hi] at h; cases h
          | some i =>
            rw [hi] at h; cases h
            refine jgw_name (by rw [g.N]; exact g.nd) (by rw [g.N]; exact slot_ix hi) (by rw [g.sc]; exact hs2) ?_ (hv x i hs1 hi)
            rw [g.sc]
            exact g.fn x hs1
        · cases h
      · rename_i es kk pos
        split at h
        · rename_i hp
          cases ht : tgD.tgsD n F es with
          | none => rw [ht] at h; cases h
          | some t =>
            rw [ht] at h; cases h
            exact jgw_tup g.calm (ih2 ht hp) (ae_len _) (ae_plain hp _)
        · cases h
      · cases h
    · rw [tgD.tgsD.eq_def] at h
      simp only at h
      split at h
      · cases h; exact jgsw_nil
      · rename_i e es
        obtain ⟨hp1, hp2⟩ := plain_cons hp
        cases h1 : tgD n F e with
        | none => rw [h1] at h; cases h
        | some t =>
          cases h2 : tgD.tgsD n F es with
          | none => rw [h1, h2] at h; cases h
          | some u =>
            rw [h1, h2] at h; cases h
            exact jgsw_cons (ih1 h1) (ih2 h2 hp2) (ae_one e hp1 es _)
theorem own_ok {N : List Str} : ∀ {xs : List Str} {own : List (Str × Nat)}, ownOf N xs = some own → ∀ x i, x ∈ own.map (·.1) → slotOf N x = some i → i ∈ own.map (·.2)
  | [], own, h, x, i, hx, hi => by
    simp [ownOf] at h; subst h; simp at hx
  | y :: xs, own, h, x, i, hx, hi => by
    simp only [ownOf, List.mapM_cons, Option.bind_eq_bind, Option.bind_eq_some_iff, Option.pure_def] at h
    obtain ⟨p, hp, ow, ho, e⟩ := h
    cases e
    cases hs : slotOf N y with
    | none => rw [hs] at hp; cases hp
    | some j =>
      rw [hs] at hp; cases hp
      rw [List.map_cons] at hx ⊢
      rcases List.mem_cons.mp hx with rfl | hx
      · rw [hi] at hs; cases hs; exact List.mem_cons_self
      · exact List.mem_cons_of_mem _ (own_ok (xs := xs) ho x i hx hi)
end

/-- a comprehension's parts -/
structure LcOk (X : Cx) (W : WX) (tg iter : Expr) (ifs : List Expr) (elt : Expr) (scope : Scope) (ow : List (Str × Nat)) (it : DI) (g : DG) (t : DT) (te : DE) : Prop where
  i : PI X tg iter (LI X.K W it)
  ok : BlkOk X.N X.env.scope scope ow
  g : ∀ (s : Shared) (H : Hp) (C : Addr) (cl : List (Str × Addr)) (fp : List Addr), PG (X.blk s H scope (compEnvC scope cl C X.env) fp) tg (LGw X.K W0 (ow.map (·.2)) g)
  t : ∀ (s : Shared) (H : Hp) (C : Addr) (cl : List (Str × Addr)) (fp : List Addr), PTs (X.blk s H scope (compEnvC scope cl C X.env) fp) ifs (LT X.K W0 t)
  e : ∀ (s : Shared) (H : Hp) (C : Addr) (cl : List (Str × Addr)) (fp : List Addr), PE (X.blk s H scope (compEnvC scope cl C X.env) fp) elt (LE X.K W0 te)
  s : ∀ x, foldedSetIterable iter X.env x = pure x

structure Snd (n : Nat) : Prop where
  e : ∀ {F : Cfg} {X : Cx} {W : WX} {k : Nat}, GX F k X W → ∀ {e : Expr} {d : DE}, cE n F e = some d → PE X e (LE X.K W d)
  call : ∀ {F : Cfg} {X : Cx} {W : WX} {k : Nat}, GX F k X W → ∀ {x : Str} {args : List Expr} {d : DE} {p pos : Pos}, cCall n F x args = some d → globalN F.sc x = true → okName x = true → listOk args = true → PE X (.Call (.Name x p) args [] pos) (LE X.K W d)
  meth : ∀ {F : Cfg} {X : Cx} {W : WX} {k : Nat}, GX F k X W → ∀ {o : Expr} {m : Str} {args : List Expr} {d : DE} {apos pos : Pos}, cMeth n F o m args = some d → attrPlain o = true → (apos.endLine == pos.line) = true → listOk args = true → PE X (.Call (.Attribute o m apos) args [] pos) (LE X.K W d)
  lc : ∀ {F : Cfg} {X : Cx} {W : WX} {k : Nat}, GX F k X W → ∀ {elt : Expr} {gs : List Comprehension} {scope : Scope} {d : DE}, cLC n F elt gs scope = some d → ∃ tg iter ifs ow it g t te, gs = [⟨tg, iter, ifs, 0⟩] ∧ d = dComp it (ow.map (·.2)) g t te ∧ LcOk X W tg iter ifs elt scope ow it g t te
  f : ∀ {F : Cfg} {X : Cx} {W : WX} {k : Nat}, GX F k X W → ∀ {ifs : List Expr} {t : DT}, cIf n F ifs = some t → PTs X ifs (LT X.K W t)
  i : ∀ {F : Cfg} {X : Cx} {W : WX} {k : Nat}, GX F k X W → ∀ {tg iter : Expr} {it : DI}, cI n F tg iter = some it → PI X tg iter (LI X.K W it)
  t : ∀ {F : Cfg} {X : Cx} {W : WX} {k : Nat}, GX F k X W → ∀ {e : Expr} {t : DT}, cT n F e = some t → PT X e (LT X.K W t)
  be : ∀ {F : Cfg} {X : Cx} {W : WX} {k : Nat}, GX F k X W → ∀ {op : BoolOp} {es : List Expr} {d : DE} {pos : Pos}, cBE n F op es = some d → PE X (.BoolOp op es pos) (LE X.K W d)
  bt : ∀ {F : Cfg} {X : Cx} {W : WX} {k : Nat}, GX F k X W → ∀ {op : BoolOp} {es : List Expr} {t : DT} {pos : Pos}, cBT n F op es = some t → PW X (.BoolOp op es pos) (LT X.K W t)
  a : ∀ {F : Cfg} {X : Cx} {W : WX} {k : Nat}, GX F k X W → ∀ {es : List Expr} {d : DA}, cA n F es = some d → PA X es (LA X.K W d)
  o : ∀ {F : Cfg} {X : Cx} {W : WX} {k : Nat}, GX F k X W → ∀ {e : Option Expr} {d : DO}, cO n F e = some d → PO X e (LO X.K W d)
section
variable {F : Cfg} {X : Cx} {W : WX} {k n : Nat}
theorem snd_o (ih : Snd n) (G : GX F k X W) {e : Option Expr} {d : DO} (h : cO (n + 1) F e = some d) : PO X e (LO X.K W d) := by
  rw [cO.eq_def] at h
  simp only at h
  split at h
  · cases h; exact jo_none
  · rename_i a
    cases ha : cE n F a with
    | none => rw [ha] at h; cases h
    | some d' => rw [ha] at h; cases h; exact jo_some (ih.e G ha)
theorem snd_a (ih : Snd n) (G : GX F k X W) {es : List Expr} {d : DA} (h : cA (n + 1) F es = some d) : PA X es (LA X.K W d) := by
  rw [cA.eq_def] at h
  simp only at h
  split at h
  · cases h; exact ja_nil
  · rename_i a rest
    split at h
    · rename_i hs
      cases ha : cE n F a with
      | none => rw [ha] at h; cases h
      | some d1 =>
        cases hr : cA n F rest with
        | none => rw [ha, hr] at h; cases h
        | some d2 => rw [ha, hr] at h; cases h; exact ja_cons (ih.e G ha) (ih.a G hr) (star_ok hs _ _)
    · cases h
theorem snd_bt (ih : Snd n) (G : GX F k X W) {op : BoolOp} {es : List Expr} {t : DT} {pos : Pos} (h : cBT (n + 1) F op es = some t) : PW X (.BoolOp op es pos) (LT X.K W t) := by
  rw [cBT.eq_def] at h
  simp only at h
  split at h
  · cases h
  · rename_i a rest
    split at h
    · cases op
      · exact jw_and1 (ih.t G h)
      · exact jw_or1 (ih.t G h)
    · rename_i b rest
      cases ha : cT n F a with
      | none => rw [ha] at h; cases h
      | some d1 =>
        cases hr : cBT n F op (b :: rest) with
        | none => rw [ha, hr] at h; cases h
        | some d2 =>
          rw [ha, hr] at h
          cases op
          · cases h; exact jw_and (ih.t G ha) (ih.bt G hr)
          · cases h; exact jw_or (ih.t G ha) (ih.bt G hr)
theorem snd_be (ih : Snd n) (G : GX F k X W) {op : BoolOp} {es : List Expr} {t : DE} {pos : Pos} (h : cBE (n + 1) F op es = some t) : PE X (.BoolOp op es pos) (LE X.K W t) := by
  rw [cBE.eq_def] at h
  simp only at h
  split at h
  · cases h
  · rename_i a rest
    split at h
    · exact je_one (ih.e G h)
    · rename_i b rest
      cases ha : cE n F a with
      | none => rw [ha] at h; cases h
      | some d1 =>
        cases hr : cBE n F op (b :: rest) with
        | none => rw [ha, hr] at h; cases h
        | some d2 =>
          rw [ha, hr] at h
          cases op
          · cases h; exact je_and (ih.e G ha) (ih.be G hr)
          · cases h; exact je_or (ih.e G ha) (ih.be G hr)
theorem snd_f (ih : Snd n) (G : GX F k X W) {ifs : List Expr} {t : DT} (h : cIf (n + 1) F ifs = some t) : PTs X ifs (LT X.K W t) := by
  rw [cIf.eq_def] at h
  simp only at h
  split at h
  · cases h; exact jts_nil
  · exact jts_one (ih.t G h)
  · cases h
theorem snd_t (ih : Snd n) (G : GX F k X W) {e : Expr} {t : DT} (h : cT (n + 1) F e = some t) : PT X e (LT X.K W t) := by
  rw [cT.eq_def] at h
  simp only at h
  split at h
  · rename_i a pos
    cases ha : cT n F a with
    | none => rw [ha] at h; cases h
    | some d1 => rw [ha] at h; cases h; exact jt_not (ih.t G ha)
  · exact (ih.bt G h).pt
  · rename_i a ops bs pos
    split at h
    · rename_i op b
      split at h
      · rename_i hs
        cases ho : cmpF op with
        | none => rw [ho] at h; cases h
        | some f =>
          cases ha : cE n F a with
          | none => rw [ho, ha] at h; cases h
          | some d1 =>
            cases hb : cE n F b with
            | none => rw [ho, ha, hb] at h; cases h
            | some d2 =>
              rw [ho, ha, hb] at h; cases h
              obtain ⟨r, h1, h2⟩ := cmp_ok G ho
              exact jt_cmp h1 h2 (ih.e G ha) (ih.e G hb) (set_ok hs _)
      · cases h
    · rename_i op op' b c
      split at h
      · rename_i hs
        cases ho : cmpF op with
        | none => rw [ho] at h; cases h
        | some f =>
          cases ho' : cmpF op' with
          | none => rw [ho, ho'] at h; cases h
          | some f' =>
            cases ha : cE n F a with
            | none => rw [ho, ho', ha] at h; cases h
            | some d1 =>
              cases hb : cE n F b with
              | none => rw [ho, ho', ha, hb] at h; cases h
              | some d2 =>
                cases hc : cE n F c with
                | none => rw [ho, ho', ha, hb, hc] at h; cases h
                | some d3 =>
                  rw [ho, ho', ha, hb, hc] at h; cases h
                  obtain ⟨r, h1, h2⟩ := cmp_ok G ho
                  obtain ⟨r', h3, h4⟩ := cmp_ok G ho'
                  exact jt_chain h1 h2 h3 h4 (ih.e G ha) (ih.e G hb) (ih.e G hc) (set_ok hs _)
      · cases h
    · cases h
  · split at h
    · rename_i hp
      cases ha : cE n F e with
      | none => rw [ha] at h; cases h
      | some d1 => rw [ha] at h; cases h; exact jt_truth (ih.e G ha) (plainT_ok hp _)
    · cases h
theorem snd_call (ih : Snd n) (G : GX F k X W) {x : Str} {args : List Expr} {d : DE} {p pos : Pos} (h : cCall (n + 1) F x args = some d) (hg : globalN F.sc x = true) (hx : okName x = true) (hl : listOk args = true) :
    PE X (.Call (.Name x p) args [] pos) (LE X.K W d) := by
  obtain ⟨o1, o2, o3⟩ := okName_ok hx
  have gl := globalN_ok G.sc hg
  obtain ⟨pl, _⟩ := listOk_ok hl
  rw [cCall.eq_def] at h
  simp only at h
  split at h
  · rename_i c hc
    obtain ⟨f, fd, ps, FO, e, hk, hb⟩ := G.gl x _ hc
    cases args with
    | nil =>
      cases ha : cA n F [] with
      | none => rw [ha] at h; cases h
      | some da =>
        rw [ha] at h; cases h
        cases n with
        | zero => simp [cA] at ha
        | succ n => simp only [cA] at ha; cases ha; exact je_call0 FO G.room gl e hk hb G.tk o1
    | cons a es =>
      obtain ⟨p1, p2⟩ := plain_cons pl
      cases ha : cA n F (a :: es) with
      | none => rw [ha] at h; cases h
      | some da =>
        rw [ha] at h; cases h
        exact je_call FO G.room gl e hk hb G.tk (ih.a G ha) o1 (star_ok p1 _ _) (plain_any p2 _ _)
  · rename_i C c hc
    obtain ⟨f, fd, ps, j, MK, FO, hj, e, hb⟩ := G.gl x _ hc
    cases args with
    | nil =>
      cases ha : cA n F [] with
      | none => rw [ha] at h; cases h
      | some da =>
        rw [ha] at h; cases h
        cases n with
        | zero => simp [cA] at ha
        | succ n => simp only [cA] at ha; cases ha; exact je_make0 MK FO (G.room.mono hj) gl e hb G.tk o1
    | cons a es =>
      obtain ⟨p1, p2⟩ := plain_cons pl
      cases ha : cA n F (a :: es) with
      | none => rw [ha] at h; cases h
      | some da =>
        rw [ha] at h; cases h
        exact je_make MK FO (G.room.mono hj) gl e hb G.tk (ih.a G ha) o1 (star_ok p1 _ _) (plain_any p2 _ _)
  · rename_i hc
    have e := G.gl x _ hc
    split at h
    · rename_i m f hf
      split at h
      · rename_i hm
        have hm0 : 0 < m := by
          have h := mem_lookup_of hf
          unfold bltF at h
          simp only [List.mem_cons, Prod.mk.injEq, List.not_mem_nil, or_false] at h
          omega
        obtain ⟨id, r, b1, b2, b3⟩ := blt_ok G hf
        cases args with
        | nil => simp at hm; omega
        | cons a es =>
          obtain ⟨p1, p2⟩ := plain_cons pl
          cases ha : cA n F (a :: es) with
          | none => rw [ha] at h; cases h
          | some da =>
            rw [ha] at h; cases h
            exact je_callB b2 b3 gl e b1 (ih.a G ha) o3 o1 (star_ok p1 _ _) (plain_any p2 _ _)
      · cases h
    · split at h
      · rename_i m f hf
        split at h
        · rename_i hm
          have hm0 : 0 < m := by
            have h := mem_lookup_of hf
            unfold bltT at h
            simp only [List.mem_cons, Prod.mk.injEq, List.not_mem_nil, or_false] at h
            omega
          obtain ⟨id, r, b1, b2, b3⟩ := bltT_ok hf
          cases args with
          | nil => simp at hm; omega
          | cons a es =>
            obtain ⟨p1, p2⟩ := plain_cons pl
            cases ha : cA n F (a :: es) with
            | none => rw [ha] at h; cases h
            | some da =>
              rw [ha] at h; cases h
              exact je_callTy b2 b3 gl e b1 (ih.a G ha) o3 o1 (star_ok p1 _ _) (plain_any p2 _ _)
        · cases h
      · cases h
  · cases h
theorem snd_meth (ih : Snd n) (G : GX F k X W) {o : Expr} {m : Str} {args : List Expr} {d : DE} {apos pos : Pos} (h : cMeth (n + 1) F o m args = some d) (ho : attrPlain o = true) (hli : (apos.endLine == pos.line) = true) (hl : listOk args = true) :
    PE X (.Call (.Attribute o m apos) args [] pos) (LE X.K W d) := by
  obtain ⟨pl, ln⟩ := listOk_ok hl
  rw [cMeth.eq_def] at h
  simp only at h
  split at h
  · rename_i tab ht
    cases hd : cE n F o with
    | none => rw [hd] at h; cases h
    | some d0 =>
      cases ha : cA n F args with
      | none => rw [hd, ha] at h; cases h
      | some da =>
        rw [hd, ha] at h; cases h
        cases args with
        | nil =>
          cases n with
          | zero => simp [cA] at ha
          | succ n => simp only [cA] at ha; cases ha; exact je_meth0 (G.mt m tab ht) G.room G.tk (ih.e G hd) (attr_ok ho _ _ _) hli
        | cons a es =>
          obtain ⟨p1, p2⟩ := plain_cons pl
          exact je_meth (G.mt m tab ht) G.room G.tk (ih.e G hd) (ih.a G ha) (attr_ok ho _ _ _) (plain_form pl ln _ _) hli (star_ok p1 _ _) (plain_any p2 _ _)
  · split at h
    · rename_i gg f hf
      cases hd : cE n F o with
      | none => rw [hd] at h; cases h
      | some d0 =>
        cases ha : cA n F args with
        | none => rw [hd, ha] at h; cases h
        | some da =>
          rw [hd, ha] at h; cases h
          cases args with
          | nil =>
            cases n with
            | zero => simp [cA] at ha
            | succ n => simp only [cA] at ha; cases ha; exact je_mt0 (mt_ok hf) (ih.e G hd) (attr_ok ho _ _ _) hli
          | cons a es =>
            obtain ⟨p1, p2⟩ := plain_cons pl
            exact je_mt (mt_ok hf) (ih.e G hd) (ih.a G ha) (attr_ok ho _ _ _) (plain_few pl ln _ _) hli (star_ok p1 _ _) (plain_any p2 _ _)
    · cases h
end
end M
set_option maxHeartbeats 4000000
namespace M
open PySem PySem.Spec PyProof.Rows L2

theorem iterKind_ok {F : Cfg} {e : Expr} {i : Nat} (h : iterKind F e = i) (h0 : i ≠ 0) : ∃ x p args pos, e = .Call (.Name x p) args [] pos ∧ globalN F.sc x = true ∧ F.gl x = some .bi ∧ ((i = 1 ∧ x = "range") ∨ (i = 2 ∧ x = "enumerate") ∨ (i = 3 ∧ x = "zip")) := by
  unfold iterKind at h
  split at h
  · rename_i x p args pos
    split at h
    · rename_i hg
      simp only [Bool.and_eq_true] at hg
      split at h
      · rename_i hb
        split at h
        · rename_i e; exact ⟨x, p, args, pos, rfl, hg.1, hb, .inl ⟨h.symm, e⟩⟩
        · split at h
          · rename_i e; exact ⟨x, p, args, pos, rfl, hg.1, hb, .inr (.inl ⟨h.symm, e⟩)⟩
          · split at h
            · rename_i e; exact ⟨x, p, args, pos, rfl, hg.1, hb, .inr (.inr ⟨h.symm, e⟩)⟩
            · exact absurd h.symm h0
      · exact absurd h.symm h0
    · exact absurd h.symm h0
  · exact absurd h.symm h0
section
variable {F : Cfg} {X : Cx} {W : WX} {k n : Nat}
theorem snd_i (ih : Snd n) (G : GX F k X W) {tg iter : Expr} {it : DI} (h : cI (n + 1) F tg iter = some it) : PI X tg iter (LI X.K W it) := by
  rw [cI.eq_def] at h
  simp only at h
  split at h
  · rename_i hk
    obtain ⟨x, p, args, pos, rfl, hg, hb, hx⟩ := iterKind_ok hk (by decide)
    have hx : x = "range" := by
      rcases hx with ⟨_, e⟩ | ⟨e, _⟩ | ⟨e, _⟩
      · exact e
      · cases e
      · cases e
    subst hx
    have gl := globalN_ok G.sc hg
    have e := G.gl _ _ hb
    simp only at h
    split at h
    · rename_i a
      split at h
      · rename_i hl
        obtain ⟨pl, _⟩ := listOk_ok hl
        obtain ⟨p1, p2⟩ := plain_cons pl
        cases ha : cA n F [a] with
        | none => rw [ha] at h; cases h
        | some da => rw [ha] at h; cases h; exact ji_range1 gl e (ih.a G ha) (star_ok p1 _ _)
      · cases h
    · rename_i a b
      split at h
      · rename_i hl
        obtain ⟨pl, _⟩ := listOk_ok hl
        obtain ⟨p1, p2⟩ := plain_cons pl
        obtain ⟨p3, p4⟩ := plain_cons p2
        cases ha : cA n F [a, b] with
        | none => rw [ha] at h; cases h
        | some da => rw [ha] at h; cases h; exact ji_range2 gl e (ih.a G ha) (by rw [star_ok p1, star_ok p3]; rfl) (star_ok p3 _ _)
      · cases h
    · cases h
  · rename_i hk
    obtain ⟨x, p, args, pos, rfl, hg, hb, hx⟩ := iterKind_ok hk (by decide)
    have hx : x = "enumerate" := by
      rcases hx with ⟨e, _⟩ | ⟨_, e⟩ | ⟨e, _⟩
      · cases e
      · exact e
      · cases e
    subst hx
    have gl := globalN_ok G.sc hg
    have e := G.gl _ _ hb
    cases tg with
    | Tuple elts kk tpos =>
      simp only at h
      split at h
      · rename_i a
        split at h
        · rename_i hl
          obtain ⟨pl, _⟩ := listOk_ok hl
          obtain ⟨p1, p2⟩ := plain_cons pl
          cases ha : cE n F a with
          | none => rw [ha] at h; cases h
          | some da => rw [ha] at h; cases h; exact ji_enum gl e (ih.e G ha) (star_ok p1 _ _)
        · cases h
      · cases h
    | _ => cases h
  · rename_i hk
    obtain ⟨x, p, args, pos, rfl, hg, hb, hx⟩ := iterKind_ok hk (by decide)
    have hx : x = "zip" := by
      rcases hx with ⟨e, _⟩ | ⟨e, _⟩ | ⟨_, e⟩
      · cases e
      · cases e
      · exact e
    subst hx
    have gl := globalN_ok G.sc hg
    have e := G.gl _ _ hb
    cases tg with
    | Tuple elts kk tpos =>
      simp only at h
      split at h
      · rename_i a b
        split at h
        · rename_i hl
          obtain ⟨pl, _⟩ := listOk_ok hl
          obtain ⟨p1, p2⟩ := plain_cons pl
          cases ha : cA n F [a, b] with
          | none => rw [ha] at h; cases h
          | some da => rw [ha] at h; cases h; exact ji_zip gl e (ih.a G ha) (star_ok p1 _ _) (plain_any p2 _ _)
        · cases h
      · cases h
    | _ => cases h
  · cases ha : cE n F iter with
    | none => rw [ha] at h; cases h
    | some d => rw [ha] at h; cases h; exact ji_seq (ih.e G ha)
/-- within a block -/
theorem GX.blk (G : GX F k X W) {scope : Scope} {own : List (Str × Nat)} (ok : BlkOk X.N X.env.scope scope own) (hk : ownKinds scope own = true) (s : Shared) (H : Hp) (C : Addr) (cl : List (Str × Addr)) (fp : List Addr) :
    GX (F.blk scope (own.map (·.1))) k (X.blk s H scope (compEnvC scope cl C X.env) fp) W0 where
  N := G.N
  nd := G.nd
  sc := by
    show (compEnvC scope cl C X.env).scope = relS scope F.sc
    rw [← G.sc]; rfl
  kind := ok.kind
  calm := G.calm
  room := G.room
  tk := takes0
  ps := PassesOwn.never
  fn := fun x hx => by
    obtain ⟨p, hp, rfl⟩ := List.mem_map.mp hx
    unfold ownKinds at hk
    have q := List.all_eq_true.mp hk p hp
    split at q
    · rename_i e
      exact .inr (lookup_relS_keep (by decide) e)
    · rename_i e
      refine .inl ?_
      show (scope.names.lookup p.1 == some .cell) = true
      rw [e]; rfl
    · cases q
  gl := G.gl
  mt := G.mt
  z := G.z
theorem snd_lc (ih : Snd n) (G : GX F k X W) {elt : Expr} {gs : List Comprehension} {scope : Scope} {d : DE} (h : cLC (n + 1) F elt gs scope = some d) :
    ∃ tg iter ifs ow it g t te, gs = [⟨tg, iter, ifs, 0⟩] ∧ d = dComp it (ow.map (·.2)) g t te ∧ LcOk X W tg iter ifs elt scope ow it g t te := by
  rw [cLC.eq_def] at h
  simp only at h
  split at h
  · rename_i tg iter ifs
    split at h
    · rename_i hs
      cases ho : ownOf F.N (tgNames 8 tg) with
      | none => rw [ho] at h; cases h
      | some own =>
        rw [ho] at h
        simp only [Option.bind_some] at h
        split at h
        · rename_i hb
          simp only [Bool.and_eq_true] at hb
          have bk : BlkOk X.N X.env.scope scope own := by rw [G.N, G.sc]; exact blkOk_by hb.1
          cases h1 : cI n F tg iter with
          | none => rw [h1] at h; cases h
          | some it =>
            cases h2 : tgD n (F.blk scope (own.map (·.1))) tg with
            | none => rw [h1, h2] at h; cases h
            | some g =>
              cases h3 : cIf n (F.blk scope (own.map (·.1))) ifs with
              | none => rw [h1, h2, h3] at h; cases h
              | some t =>
                cases h4 : cE n (F.blk scope (own.map (·.1))) elt with
                | none => rw [h1, h2, h3, h4] at h; cases h
                | some te =>
                  rw [h1, h2, h3, h4] at h; cases h
                  refine ⟨tg, iter, ifs, own, it, g, t, te, rfl, rfl, ih.i G h1, bk, fun s H C cl fp => ?_, fun s H C cl fp => ih.f (G.blk bk hb.2 s H C cl fp) h3, fun s H C cl fp => ih.e (G.blk bk hb.2 s H C cl fp) h4, set_iter hs _⟩
                  exact (tg_ok n (G.blk bk hb.2 s H C cl fp) (fun x i hx hi => own_ok ho x i hx hi)).1 h2
        · cases h
    · cases h
  · cases h
theorem je_newD {pos : Pos} : PE X (.Dict [] [] pos) (LE X.K W dNewD) := PE.imp pe_dnewK fun σ H Q h => by
  obtain ⟨Γ, S, Q1, X1, e, c, h, P, PX⟩ := h
  intro p hp
  refine P (.ref p) _ (.ref p) _ (h p (c.free hp)) (TLe.new hp) (c.new (o := .dK []) hp ⟨[], upd_same, ?_⟩) rfl
  exact rfl
theorem snd_e (ih : Snd n) (G : GX F k X W) {e : Expr} {d : DE} (h : cE (n + 1) F e = some d) : PE X e (LE X.K W d) := by
  rw [cE.eq_def] at h
  simp only at h
  split at h
  · split at h <;> cases h
    · exact je_int
    · exact je_bl
    · exact je_non
    · exact je_str
  · exact name_ok G h
  · rename_i a op b pos
    cases ho : binF op with
    | none => rw [ho] at h; cases h
    | some f =>
      cases ha : cE n F a with
      | none => rw [ho, ha] at h; cases h
      | some d1 =>
        cases hb : cE n F b with
        | none => rw [ho, ha, hb] at h; cases h
        | some d2 =>
          rw [ho, ha, hb] at h; cases h
          obtain ⟨r, h1, h2⟩ := bin_ok (X := X) ho
          exact je_bin h1 h2 (ih.e G ha) (ih.e G hb)
  · rename_i op a pos
    split at h
    · cases ha : cE n F a with
      | none => rw [ha] at h; cases h
      | some d1 => rw [ha] at h; cases h; exact je_not (ih.e G ha)
    · cases ha : cE n F a with
      | none => rw [ha] at h; cases h
      | some d1 => rw [ha] at h; cases h; exact je_neg (ih.e G ha)
    · cases h
  · exact ih.be G h
  · rename_i c a b pos
    cases hc : cT n F c with
    | none => rw [hc] at h; cases h
    | some t =>
      cases ha : cE n F a with
      | none => rw [hc, ha] at h; cases h
      | some d1 =>
        cases hb : cE n F b with
        | none => rw [hc, ha, hb] at h; cases h
        | some d2 =>
          rw [hc, ha, hb] at h; cases h
          exact je_ifExp (ih.t G hc) (ih.e G ha) (ih.e G hb)
  · rename_i a ops bs pos
    split at h
    · rename_i op b
      split at h
      · rename_i hs
        cases ho : cmpF op with
        | none => rw [ho] at h; cases h
        | some f =>
          cases ha : cE n F a with
          | none => rw [ho, ha] at h; cases h
          | some d1 =>
            cases hb : cE n F b with
            | none => rw [ho, ha, hb] at h; cases h
            | some d2 =>
              rw [ho, ha, hb] at h; cases h
              obtain ⟨r, h1, h2⟩ := cmp_ok G ho
              exact je_cmp h1 h2 (ih.e G ha) (ih.e G hb) (set_ok hs _)
      · cases h
    · rename_i op op' b c
      split at h
      · rename_i hs
        cases ho : cmpF op with
        | none => rw [ho] at h; cases h
        | some f =>
          cases ho' : cmpF op' with
          | none => rw [ho, ho'] at h; cases h
          | some f' =>
            cases ha : cE n F a with
            | none => rw [ho, ho', ha] at h; cases h
            | some d1 =>
              cases hb : cE n F b with
              | none => rw [ho, ho', ha, hb] at h; cases h
              | some d2 =>
                cases hc : cE n F c with
                | none => rw [ho, ho', ha, hb, hc] at h; cases h
                | some d3 =>
                  rw [ho, ho', ha, hb, hc] at h; cases h
                  obtain ⟨r, h1, h2⟩ := cmp_ok G ho
                  obtain ⟨r', h3, h4⟩ := cmp_ok G ho'
                  exact je_chain h1 h2 h3 h4 (ih.e G ha) (ih.e G hb) (ih.e G hc) (set_ok hs _)
      · cases h
    · cases h
  · rename_i es kk pos
    cases ha : cA n F es with
    | none => rw [ha] at h; cases h
    | some d1 => rw [ha] at h; cases h; exact je_tup (ih.a G ha)
  · rename_i es pos
    cases ha : cA n F es with
    | none => rw [ha] at h; cases h
    | some d1 => rw [ha] at h; cases h; exact je_lst (ih.a G ha)
  · split at h
    · cases h; exact je_newD
    · cases h
  · rename_i a f pos
    split at h
    · rename_i hp
      cases ha : cE n F a with
      | none => rw [ha] at h; cases h
      | some d1 => rw [ha] at h; cases h; exact je_fld G.z (ih.e G ha) (attr_ok hp _ _ _)
    · cases h
  · rename_i a i pos
    split at h
    · rename_i lo hi st p2
      split at h
      · cases ha : cE n F a with
        | none => rw [ha] at h; cases h
        | some d1 =>
          cases hl : cO n F lo with
          | none => rw [ha, hl] at h; cases h
          | some d2 =>
            cases hh : cO n F hi with
            | none => rw [ha, hl, hh] at h; cases h
            | some d3 => rw [ha, hl, hh] at h; cases h; exact je_slice (ih.e G ha) (ih.o G hl) (ih.o G hh)
      · split at h
        · cases ha : cE n F a with
          | none => rw [ha] at h; cases h
          | some d1 => rw [ha] at h; cases h; exact je_rev (p4 := pos) (ih.e G ha)
        · cases h
    · split at h
      · rename_i hs
        cases ha : cE n F a with
        | none => rw [ha] at h; cases h
        | some d1 =>
          cases hb : cE n F i with
          | none => rw [ha, hb] at h; cases h
          | some d2 => rw [ha, hb] at h; cases h; exact je_ix ix_seq od_ix (ih.e G ha) (ih.e G hb) (slice_ok hs)
      · cases h
  · rename_i f args kws pos
    split at h
    · split at h
      · rename_i x p
        split at h
        · rename_i hc
          simp only [Bool.and_eq_true] at hc
          exact ih.call G h hc.1.1 hc.1.2 hc.2
        · cases h
      · rename_i o m apos
        split at h
        · rename_i hc
          simp only [Bool.and_eq_true] at hc
          exact ih.meth G h hc.1.1 hc.1.2 hc.2
        · cases h
      · cases h
    · cases h
  · rename_i elt gs scope pos
    obtain ⟨tg, iter, ifs, ow, it, g, t, te, rfl, rfl, L⟩ := ih.lc G h
    exact je_comp G.calm (by rw [G.N]; exact G.nd) L.i L.ok L.g L.t L.e L.s
  · cases h
end
theorem snd : ∀ n, Snd n
  | 0 => ⟨by intros; rename_i h; exact absurd (show none = some _ from h) nofun, by intros; rename_i h _ _ _; exact absurd (show none = some _ from h) nofun, by intros; rename_i h _ _ _; exact absurd (show none = some _ from h) nofun, by intros; rename_i h; exact absurd (show none = some _ from h) nofun, by intros; rename_i h; exact absurd (show none = some _ from h) nofun, by intros; rename_i h; exact absurd (show none = some _ from h) nofun, by intros; rename_i h; exact absurd (show none = some _ from h) nofun, by intros; rename_i h; exact absurd (show none = some _ from h) nofun, by intros; rename_i h; exact absurd (show none = some _ from h) nofun, by intros; rename_i h; exact absurd (show none = some _ from h) nofun, by intros; rename_i h; exact absurd (show none = some _ from h) nofun⟩
  | n + 1 => ⟨fun G => snd_e (snd n) G, fun G => snd_call (snd n) G, fun G => snd_meth (snd n) G, fun G => snd_lc (snd n) G, fun G => snd_f (snd n) G, fun G => snd_i (snd n) G, fun G => snd_t (snd n) G, fun G => snd_be (snd n) G, fun G => snd_bt (snd n) G, fun G => snd_a (snd n) G, fun G => snd_o (snd n) G⟩
end M
set_option maxHeartbeats 4000000
namespace M
open PySem PySem.Spec PyProof.Rows L2

def isLocal (sc : Scope) (x : Str) : Bool := match sc.names.lookup x with
  | some .local => true
  | _ => false
mutual
def cG : Nat → Cfg → Expr → Option DG
  | 0, _, _ => none
  | n + 1, F, e => match e with
    | .Name x _ => if storable F x then (slotOf F.N x).map dgName else none
    | .Tuple es _ _ => if allPlain es then (cGs n F es).map fun g => dgTup es.length g else none
    | .Subscript o i _ => if notSlice i then (cE n F o).bind fun a => (cE n F i).map fun b => dgSub fSetL a b else none
    | _ => none
def cGs : Nat → Cfg → List Expr → Option DGs
  | 0, _, _ => none
  | n + 1, F, es => match es with
    | [] => some dgNil
    | e :: es => (cG n F e).bind fun g => (cGs n F es).map fun r => dgCons g r
end
/-- a, b = c, d whose stores are swapped -/
def cPar (n : Nat) (F : Cfg) (ts vs : List Expr) (r : List Str) : Option DS := match ts, vs with
  | [.Name x _, .Name y _], [a, b] => if r = [x, y] && isLocal F.sc x && isLocal F.sc y then (slotOf F.N x).bind fun i => (slotOf F.N y).bind fun j => if i ≠ j then (cA n F [a, b]).map (dsPar i j) else none else none
  | [.Name x _, .Name y _, .Name z _], [a, b, c] => if r = [x, y, z] && isLocal F.sc x && isLocal F.sc y && isLocal F.sc z then (slotOf F.N x).bind fun i => (slotOf F.N y).bind fun j => (slotOf F.N z).bind fun l => if i ≠ j ∧ i ≠ l ∧ j ≠ l then (cA n F [a, b, c]).map (dsPar3 i j l) else none else none
  | _, _ => none
def compSwaps (F : Cfg) (x : Str) (py pos : Pos) (scope : Scope) : Bool := isLocal F.sc x && (py.line == pos.line) && !(scope.names.any fun (n, k) => n == x && (k == .local || k == .cell))
def cAsg (n : Nat) (F : Cfg) (t e : Expr) : Option DS := match t with
  | .Name x py => if storable F x then (match e with
    | .ListComp elt gs scope pos => if compSwaps F x py pos scope then (cLC n F elt gs scope).bind fun d => (slotOf F.N x).map fun i => dsAsg d (dgName i) else none
    | e => if notComp e then (cE n F e).bind fun d => (slotOf F.N x).map fun i => dsAsg d (dgName i) else none) else none
  | .Attribute o f _ => (cE n F o).bind fun od => (cE n F e).map fun d => dsFld F.Z f od d
  | .Subscript _ _ _ => (cE n F e).bind fun d => (cG n F t).map fun g => dsAsg d g
  | .Tuple ts _ _ => (match e with
    | .Tuple vs _ _ => (match swapDec F.sc ts vs with
      | some none => (cE n F e).bind fun d => (cG n F t).map fun g => dsAsg d g
      | some (some r) => cPar n F ts vs r
      | none => none)
    | e => if notTup e then (cE n F e).bind fun d => (cG n F t).map fun g => dsAsg d g else none)
  | _ => none
mutual
def cS : Nat → Cfg → Stmt → Option DS
  | 0, _, _ => none
  | n + 1, F, st => match st with
    | .Return o _ => (match o with
      | none => some dsRetN
      | some e => (cE n F e).map dsRet)
    | .Expr e _ => if notComp e then (cE n F e).map dsDrop else none
    | .Pass _ => some dsNext
    | .Break _ => some dsBreak
    | .Continue _ => some dsCont
    | .If c a b _ => (cT n F c).bind fun t => (cSs n F a).bind fun s => (cSs n F b).map fun u => dsIf t s u
    | .While c b o _ => (match o with
      | [] => (cT n F c).bind fun t => (cSs n F b).map fun s => dsWhile t s
      | _ => none)
    | .For tg iter b o _ => (match o with
      | [] => if notSet iter then (cI n F tg iter).bind fun it => (cG n F tg).bind fun g => (cSs n F b).map fun s => dsFor it g s else none
      | _ => none)
    | .Assign ts e _ => (match ts with
      | [t] => cAsg n F t e
      | _ => none)
    | .AugAssign tg op e _ => (match tg with
      | .Name x _ => if storable F x then (augF op).bind fun f => (cE n F e).bind fun d => (slotOf F.N x).map fun i => dsAug i d f else none
      | .Attribute o f _ => (augF op).bind fun g => (cE n F o).bind fun od => (cE n F e).map fun d => dsAugF F.Z f od d g
      | _ => none)
    | .Raise _ _ _ => some dsNo
    | _ => none
def cSs : Nat → Cfg → List Stmt → Option DS
  | 0, _, _ => none
  | n + 1, F, sts => match sts with
    | [] => some dsNext
    | a :: rest => (match rest with
      | [] => cS n F a
      | _ :: _ => (cS n F a).bind fun s => (cSs n F rest).map fun t => dsSeq s t)
end
theorem sole {t e : Expr} {l : Nat} {env : Env} : swapsWithSole [t] e l env = swapsWith e (some t) l env := rfl
theorem isLocal_ok {sc : Scope} {x : Str} (h : isLocal sc x = true) : sc.names.lookup x = some .local := by
  unfold isLocal at h
  split at h
  · assumption
  · cases h
section
variable {F : Cfg} {X : Cx} {W : WX} {k n : Nat}
theorem aug_okF {op : Operator} {f : FO} (h : augF op = some f) : ∃ r, OpR X (inplaceOp op) r ∧ OpD X.K r f := by
  unfold augF at h
  split at h <;> cases h
  · refine ⟨_, iop_add.or (iop_add_str.or iop_ext), ?_⟩
    intro x y S v u H Q1 Q h c r1 r2 P
    unfold augF.fAugAdd at h
    split at h
    · cases (show _ = _ from r1); cases (show _ = _ from r2)
      exact .inl ⟨_, _, rfl, rfl, P.same c (show Rel X.K H (.int _) (.int _) from rfl) h⟩
    · cases (show _ = _ from r1); cases (show _ = _ from r2)
      exact .inr (.inl ⟨_, _, rfl, rfl, h.1, P.same c (show Rel X.K H (.str _) (.str _) from rfl) h.2⟩)
    · cases (show _ = _ from r1); cases (show _ = _ from r2)
      split at h
      · rename_i xs ys h1 h2
        obtain ⟨vs, e1, s1⟩ := c.lst h1
        obtain ⟨us, e2, s2⟩ := c.lst h2
        have tw := c.tle_write (ho := .lst (vs ++ us)) h1
        refine .inr (.inr ⟨_, _, vs, us, rfl, rfl, e1, e2, by rw [s1.length, s2.length]; exact h.1, ?_⟩)
        exact P.wrL c h1 (s1.append s2) (show Rel X.K H (.ref _) (.ref _) from rfl) h.2
      · exact h.elim
    · exact h.elim
  · exact ⟨_, iop_sub, od_sub⟩
theorem cG_ok : ∀ (n : Nat) {F : Cfg} {X : Cx} {W : WX} {k : Nat}, GX F k X W →
    (∀ {e : Expr} {d : DG}, cG n F e = some d → PG X e (LG X.K W d)) ∧ (∀ {es : List Expr} {d : DGs}, cGs n F es = some d → allPlain es = true → PGs X es (LGs X.K W d))
  | 0, F, X, W, k, g => ⟨fun h => absurd (show none = some _ from h) nofun, fun h => absurd (show none = some _ from h) nofun⟩
  | n + 1, F, X, W, k, g => by
    obtain ⟨ih1, ih2⟩ := cG_ok n g
    refine ⟨fun {e d} h => ?_, fun {es d} h hp => ?_⟩
    · rw [cG.eq_def] at h
      simp only at h
      split at h
      · rename_i x pos
        split at h
        · rename_i hs
          obtain ⟨hs1, hs2⟩ := storable_ok hs
          cases hi : slotOf F.N x with
          | none => rw [hi] at h; cases h
          | some i =>
            rw [hi] at h; cases h
            exact jg_name (by rw [g.N]; exact g.nd) (by rw [g.N]; exact slot_ix hi) (by rw [g.sc]; exact hs2) (by rw [g.sc]; exact g.fn x hs1)
        · cases h
      · rename_i es kk pos
        split at h
        · rename_i hp
          cases ht : cGs n F es with
          | none => rw [ht] at h; cases h
          | some t =>
            rw [ht] at h; cases h
            exact jg_tup g.calm (ih2 ht hp) (ae_len _) (ae_plain hp _)
        · cases h
      · rename_i o i pos
        split at h
        · rename_i hs
          cases ho : cE n F o with
          | none => rw [ho] at h; cases h
          | some a =>
            cases hi : cE n F i with
            | none => rw [ho, hi] at h; cases h
            | some b =>
              rw [ho, hi] at h; cases h
              exact jg_sub ((snd n).e g ho) ((snd n).e g hi) set_list sd_list (asgS_ok hs _ _ _)
        · cases h
      · cases h
    · rw [cGs.eq_def] at h
      simp only at h
      split at h
      · cases h; exact jgs_nil
      · rename_i e es
        obtain ⟨hp1, hp2⟩ := plain_cons hp
        cases h1 : cG n F e with
        | none => rw [h1] at h; cases h
        | some t =>
          cases h2 : cGs n F es with
          | none => rw [h1, h2] at h; cases h
          | some u =>
            rw [h1, h2] at h; cases h
            exact jgs_cons (ih1 h1) (ih2 h2 hp2) (ae_one e hp1 es _)
theorem cPar_ok (g : GX F k X W) {ts vs : List Expr} {r : List Str} {d : DS} {kt k2 : Nat} {pt p2 pos : Pos} (h : cPar n F ts vs r = some d) (hw : swappedStores [.Tuple ts kt pt] (.Tuple vs k2 p2) X.env = pure (some r)) :
    PS X (.Assign [.Tuple ts kt pt] (.Tuple vs k2 p2) pos) (LS X.K W d) := by
  have nd : X.N.Nodup := by rw [g.N]; exact g.nd
  have ix : ∀ {x i}, slotOf F.N x = some i → X.N[i]? = some x := fun e => by rw [g.N]; exact slot_ix e
  have lo : ∀ {x}, isLocal F.sc x = true → X.env.scope.names.lookup x = some .local := fun e => by rw [g.sc]; exact isLocal_ok e
  unfold cPar at h
  split at h
  · rename_i x px y py a b
    split at h
    · rename_i hc
      simp only [Bool.and_eq_true, decide_eq_true_eq] at hc
      obtain ⟨⟨rfl, h1⟩, h2⟩ := hc
      cases hi : slotOf F.N x with
      | none => rw [hi] at h; cases h
      | some i =>
        cases hj : slotOf F.N y with
        | none => rw [hi, hj] at h; cases h
        | some j =>
          rw [hi, hj] at h
          simp only [Option.bind_some] at h
          split at h
          · rename_i ne
            cases ha : cA n F [a, b] with
            | none => rw [ha] at h; cases h
            | some da => rw [ha] at h; cases h; exact js_par g.calm nd (ix hi) (ix hj) ne (lo h1) (lo h2) ((snd n).a g ha) hw
          · cases h
    · cases h
  · rename_i x px y py z pz a b c
    split at h
    · rename_i hc
      simp only [Bool.and_eq_true, decide_eq_true_eq] at hc
      obtain ⟨⟨⟨rfl, h1⟩, h2⟩, h3⟩ := hc
      cases hi : slotOf F.N x with
      | none => rw [hi] at h; cases h
      | some i =>
        cases hj : slotOf F.N y with
        | none => rw [hi, hj] at h; cases h
        | some j =>
          cases hl : slotOf F.N z with
          | none => rw [hi, hj, hl] at h; cases h
          | some l =>
            rw [hi, hj, hl] at h
            simp only [Option.bind_some] at h
            split at h
            · rename_i ne
              cases ha : cA n F [a, b, c] with
              | none => rw [ha] at h; cases h
              | some da => rw [ha] at h; cases h; exact js_par3 g.calm nd (ix hi) (ix hj) (ix hl) ne.1 ne.2.1 ne.2.2 (lo h1) (lo h2) (lo h3) ((snd n).a g ha) hw
            · cases h
    · cases h
  · cases h
theorem cAsg_ok (g : GX F k X W) {t e : Expr} {d : DS} {pos : Pos} (h : cAsg n F t e = some d) : PS X (.Assign [t] e pos) (LS X.K W d) := by
  have nd : X.N.Nodup := by rw [g.N]; exact g.nd
  have ix : ∀ {x i}, slotOf F.N x = some i → X.N[i]? = some x := fun e => by rw [g.N]; exact slot_ix e
  unfold cAsg at h
  split at h
  · rename_i x py
    split at h
    · rename_i hs
      obtain ⟨hs1, hs2⟩ := storable_ok hs
      split at h
      · rename_i elt gs scope p2
        split at h
        · rename_i hc
          unfold compSwaps at hc
          simp only [Bool.and_eq_true, Bool.not_eq_true'] at hc
          cases hd : cLC n F elt gs scope with
          | none => rw [hd] at h; cases h
          | some d0 =>
            cases hi : slotOf F.N x with
            | none => rw [hd, hi] at h; cases h
            | some i =>
              rw [hd, hi] at h; cases h
              obtain ⟨tg, iter, ifs, ow, it, gg, t, te, rfl, rfl, L⟩ := (snd n).lc g hd
              have hl : X.env.scope.names.lookup x = some .local := by rw [g.sc]; exact isLocal_ok hc.1.1
              exact js_setLc g.calm nd (ix hi) hl (sw_true (by rw [g.sc]; exact g.kind) hl hc.1.2 hc.2) L.i L.ok L.g L.t L.e L.s
        · cases h
      · split at h
        · rename_i hn
          cases hd : cE n F e with
          | none => rw [hd] at h; cases h
          | some d0 =>
            cases hi : slotOf F.N x with
            | none => rw [hd, hi] at h; cases h
            | some i =>
              rw [hd, hi] at h; cases h
              exact js_set nd (ix hi) (by rw [g.sc]; exact hs2) ((snd n).e g hd) (sw_no hn _ _ _) (by rw [g.sc]; exact g.fn x hs1)
        · cases h
    · cases h
  · rename_i o f p
    cases ho : cE n F o with
    | none => rw [ho] at h; cases h
    | some od =>
      cases hd : cE n F e with
      | none => rw [ho, hd] at h; cases h
      | some d0 =>
        rw [ho, hd] at h; cases h
        exact js_fld g.z ((snd n).e g ho) ((snd n).e g hd) (sw_att _ _ _ _ _ _)
  · rename_i o i p
    cases hd : cE n F e with
    | none => rw [hd] at h; cases h
    | some d0 =>
      cases hg : cG n F (.Subscript o i p) with
      | none => rw [hd, hg] at h; cases h
      | some gg =>
        rw [hd, hg] at h; cases h
        exact js_asg ((snd n).e g hd) ((cG_ok n g).1 hg) (by rw [sole]; exact sw_sub _ _ _ _ _ _) (sws_sub _ _ _ _ _) rfl
  · rename_i ts kt pt
    split at h
    · rename_i vs k2 p2
      split at h
      · rename_i hsw
        cases hd : cE n F (.Tuple vs k2 p2) with
        | none => rw [hd] at h; cases h
        | some d0 =>
          cases hg : cG n F (.Tuple ts kt pt) with
          | none => rw [hd, hg] at h; cases h
          | some gg =>
            rw [hd, hg] at h; cases h
            exact js_asg ((snd n).e g hd) ((cG_ok n g).1 hg) (by rw [sole]; exact sw_tup _ _ _ _ _ _) (swapDec_ok hsw g.sc g.kind _ _ _ _) rfl
      · rename_i r hsw
        exact cPar_ok g h (swapDec_ok hsw g.sc g.kind _ _ _ _)
      · cases h
    · split at h
      · rename_i hn
        cases hd : cE n F e with
        | none => rw [hd] at h; cases h
        | some d0 =>
          cases hg : cG n F (.Tuple ts kt pt) with
          | none => rw [hd, hg] at h; cases h
          | some gg =>
            rw [hd, hg] at h; cases h
            exact js_asg ((snd n).e g hd) ((cG_ok n g).1 hg) (by rw [sole]; exact sw_tup _ _ _ _ _ _) (sws_tup hn _ _ _ _) rfl
      · cases h
  · cases h
theorem snd_s : ∀ (n : Nat) {F : Cfg} {X : Cx} {W : WX} {k : Nat}, GX F k X W →
    (∀ {st : Stmt} {d : DS}, cS n F st = some d → PS X st (LS X.K W d)) ∧ (∀ {sts : List Stmt} {d : DS}, cSs n F sts = some d → PSs X sts (LS X.K W d))
  | 0, F, X, W, k, g => ⟨fun h => absurd (show none = some _ from h) nofun, fun h => absurd (show none = some _ from h) nofun⟩
  | n + 1, F, X, W, k, g => by
    obtain ⟨ih1, ih2⟩ := snd_s n g
    have nd : X.N.Nodup := by rw [g.N]; exact g.nd
    have ix : ∀ {x i}, slotOf F.N x = some i → X.N[i]? = some x := fun e => by rw [g.N]; exact slot_ix e
    refine ⟨fun {st d} h => ?_, fun {sts d} h => ?_⟩
    · rw [cS.eq_def] at h
      simp only at h
      split at h
      · split at h
        · cases h; exact js_retN
        · rename_i e
          cases hd : cE n F e with
          | none => rw [hd] at h; cases h
          | some d0 => rw [hd] at h; cases h; exact js_ret ((snd n).e g hd)
      · rename_i e pos
        split at h
        · rename_i hn
          cases hd : cE n F e with
          | none => rw [hd] at h; cases h
          | some d0 => rw [hd] at h; cases h; exact js_expr ((snd n).e g hd) (sw_no hn _ _ _)
        · cases h
      · cases h; exact js_pass
      · cases h; exact js_break
      · cases h; exact js_cont
      · rename_i c a b pos
        cases hc : cT n F c with
        | none => rw [hc] at h; cases h
        | some t =>
          cases ha : cSs n F a with
          | none => rw [hc, ha] at h; cases h
          | some s =>
            cases hb : cSs n F b with
            | none => rw [hc, ha, hb] at h; cases h
            | some u => rw [hc, ha, hb] at h; cases h; exact js_if ((snd n).t g hc) (ih2 ha) (ih2 hb)
      · rename_i c b o pos
        split at h
        · cases hc : cT n F c with
          | none => rw [hc] at h; cases h
          | some t =>
            cases hb : cSs n F b with
            | none => rw [hc, hb] at h; cases h
            | some s => rw [hc, hb] at h; cases h; exact js_while g.ps ((snd n).t g hc) (ih2 hb)
        · cases h
      · rename_i tg iter b o pos
        split at h
        · split at h
          · rename_i hs
            cases hi : cI n F tg iter with
            | none => rw [hi] at h; cases h
            | some it =>
              cases hg : cG n F tg with
              | none => rw [hi, hg] at h; cases h
              | some gg =>
                cases hb : cSs n F b with
                | none => rw [hi, hg, hb] at h; cases h
                | some s => rw [hi, hg, hb] at h; cases h; exact js_for g.ps g.calm ((snd n).i g hi) ((cG_ok n g).1 hg) (ih2 hb) (set_iter hs _)
          · cases h
        · cases h
      · rename_i ts e pos
        split at h
        · exact cAsg_ok g h
        · cases h
      · rename_i tg op e pos
        split at h
        · rename_i x p
          split at h
          · rename_i hs
            obtain ⟨hs1, hs2⟩ := storable_ok hs
            cases ho : augF op with
            | none => rw [ho] at h; cases h
            | some f =>
              cases hd : cE n F e with
              | none => rw [ho, hd] at h; cases h
              | some d0 =>
                cases hi : slotOf F.N x with
                | none => rw [ho, hd, hi] at h; cases h
                | some i =>
                  rw [ho, hd, hi] at h; cases h
                  obtain ⟨r, r1, r2⟩ := aug_okF (X := X) ho
                  exact js_aug nd (ix hi) (by rw [g.sc]; exact hs2) ((snd n).e g hd) r1 r2 (by rw [g.sc]; exact g.fn x hs1)
          · cases h
        · rename_i o f p
          cases ho : augF op with
          | none => rw [ho] at h; cases h
          | some gg =>
            cases hd : cE n F o with
            | none => rw [ho, hd] at h; cases h
            | some d0 =>
              cases he : cE n F e with
              | none => rw [ho, hd, he] at h; cases h
              | some d1 =>
                rw [ho, hd, he] at h; cases h
                obtain ⟨r, r1, r2⟩ := aug_okF (X := X) ho
                exact js_augF g.z ((snd n).e g hd) ((snd n).e g he) r1 r2
        · cases h
      · cases h; exact js_never
      · cases h
    · rw [cSs.eq_def] at h
      simp only at h
      split at h
      · cases h; exact jss_nil
      · rename_i a rest
        split at h
        · exact jss_one (ih1 h)
        · rename_i b rest
          cases h1 : cS n F a with
          | none => rw [h1] at h; cases h
          | some t =>
            cases h2 : cSs n F (b :: rest) with
            | none => rw [h1, h2] at h; cases h
            | some u => rw [h1, h2] at h; cases h; exact jss_cons (ih1 h1) (ih2 h2)
end
end M
set_option maxHeartbeats 4000000
namespace M
open PySem PySem.Spec PyProof.Rows L2

/-! ### a def's promise -/
/-- the def that a name of the module stands for -/
def FG (P : Program) (w : World) (K : PySem.W.Frag) (mg : Str → Option Value) (base : Heap) (k : Nat) (x : Str) (c : Ctr) : Prop :=
  ∃ f fd ps, FnOk P w K mg base (L2.CX P w) k f fd ps (liftSp K c) ∧ mg x = some (.ref f) ∧ PySem.W.keepIn K (.ref f) = true ∧ Binds K fd ps []
theorem FG.mono {P : Program} {w : World} {K : PySem.W.Frag} {mg : Str → Option Value} {base : Heap} {j k : Nat} {x : Str} {c : Ctr} (g : FG P w K mg base j x c) (h : j ≤ k) : FG P w K mg base k x c := by
  obtain ⟨f, fd, ps, F, a, b, d⟩ := g
  exact ⟨f, fd, ps, F.mono h, a, b, d⟩
/-- the class, by its __init__ -/
def MG (P : Program) (w : World) (K : PySem.W.Frag) (mg : Str → Option Value) (base : Heap) (k : Nat) (x : Str) (C : Addr) (c : Ctr) : Prop :=
  ∃ f fd ps j, Mk K C f ∧ FnOk P w K mg base (L2.CX P w) j f fd ps (liftSp K c) ∧ j + 1 ≤ k ∧ mg x = some (.ref C) ∧ Binds K fd ps []
theorem MG.mono {P : Program} {w : World} {K : PySem.W.Frag} {mg : Str → Option Value} {base : Heap} {j k : Nat} {x : Str} {C : Addr} {c : Ctr} (g : MG P w K mg base j x C c) (h : j ≤ k) : MG P w K mg base k x C c := by
  obtain ⟨f, fd, ps, i, M, F, a, b, d⟩ := g
  exact ⟨f, fd, ps, i, M, F, by omega, b, d⟩
def CG (K : PySem.W.Frag) (mg : Str → Option Value) (x : Str) (d : DV) : Prop := ∃ u v, mg x = some u ∧ RelV v u ∧ ∀ H, Rel K H d v
def GG (P : Program) (w : World) (K : PySem.W.Frag) (mg : Str → Option Value) (base : Heap) (k : Nat) (x : Str) : GV → Prop
  | .fn c => FG P w K mg base k x c
  | .cv d => CG K mg x d
  | .mk C c => MG P w K mg base k x C c
  | .bi => mg x = none
/-- all of a list of names -/
def GA (P : Program) (w : World) (K : PySem.W.Frag) (mg : Str → Option Value) (base : Heap) (k : Nat) : List (Str × GV) → Prop
  | [] => True
  | p :: r => GG P w K mg base k p.1 p.2 ∧ GA P w K mg base k r
theorem GA.get {P : Program} {w : World} {K : PySem.W.Frag} {mg : Str → Option Value} {base : Heap} {k : Nat} : ∀ {l : List (Str × GV)}, GA P w K mg base k l → ∀ x g, l.lookup x = some g → GG P w K mg base k x g
  | [], _, _, _, h => by cases h
  | p :: r, a, x, g, h => by
    obtain ⟨a1, a2⟩ := a
    rw [List.lookup_cons] at h
    cases e : x == p.1 with
    | true =>
      rw [e] at h
      cases h
      have : x = p.1 := by simpa using e
      rw [this]; exact a1
    | false => rw [e] at h; exact a2.get x g h
/-- methods -/
def MA_ (P : Program) (w : World) (K : PySem.W.Frag) (mg : Str → Option Value) (base : Heap) (k : Nat) (m : Str) (tab : Addr → Option Ctr) : Prop :=
  ∀ C c, tab C = some c → ∃ f fd ps, Cls K C ∧ Meth K C m f ∧ FnOk P w K mg base (L2.CX P w) k f fd ps (liftSp K c) ∧ Binds K fd ps []
def cfg (N : List Str) (sc : Scope) (gl : List (Str × GV)) (mt : Str → Option (Addr → Option Ctr)) (Z : Zt) : Cfg := ⟨N, sc, N, fun x => gl.lookup x, mt, Z⟩
/-- THE RULE: a def compiled -/
theorem def_ok {P : Program} {w : World} {K : PySem.W.Frag} {mg : Str → Option Value} {base : Heap} {x qual : Str} {params : Arguments} {body : List Stmt} {scope : Scope} {f : Addr} {fd : FuncData} {N ps : List Str} {k n : Nat} {c : Ctr}
    {gl : List (Str × GV)} {mt : Str → Option (Addr → Option Ctr)} {Z : Zt} {B : DS}
    (F : FunD K x qual params body scope [] [] f fd) (S : FnScope N ps scope) (z : ZOk K Z) (hm : ∀ m tab, mt m = some tab → MA_ P w K mg base k m tab) (hg : GA P w K mg base k gl)
    (hB : cSs n (cfg N scope gl mt Z) body = some B) (len : ∀ ds S Q X, c ds S Q X → ds.length = ps.length)
    (hb : ∀ ds S Q X, c ds S Q X → B { nx := fun _ S' => Q .non S', rt := Q, xx := fun x _ S' => X x S' } (startG N ds) S) : FnOk P w K mg base (L2.CX P w) (k + 1) f fd ps (liftSp K c) := by
  refine F.ok S (fun vs H Q E h => ?_) fun cdv A outer s H vs Q E hr h => ?_
  · obtain ⟨ds, S, Q1, X1, r, _, h, _⟩ := h
    rw [r.length]; exact len _ _ _ _ h
  · refine ⟨LS K (fun cls d _ H' => E cls d H') B, ?_, ?_⟩
    · have G : GX (cfg N scope gl mt Z) k (cxOf (L2.CX P w) P w K mg base N qual scope f cdv A outer s H E) (fun cls d _ H' => E cls d H') := {
        N := rfl
        nd := S.nd
        sc := rfl
        kind := S.kind
        calm := rfl
        room := hr
        tk := takes_of rfl rfl rfl rfl
        ps := passes_of rfl
        fn := fun _ _ => .inl rfl
        gl := fun x g e => by
          have q := hg.get x g e
          cases g with
          | fn c => exact q
          | cv d => exact q
          | mk C c => exact q
          | bi => exact q
        mt := fun m tab e => hm m tab e
        z := z }
      exact (snd_s n G).2 hB
    · obtain ⟨ds, S, Q1, X1, r, cc, h, P1, PX⟩ := h
      refine ⟨startG N ds, S, _, startG_rel r, cc, hb _ _ _ _ h, ⟨fun _ S' _ H' q t _ c' => P1 _ _ _ _ q t c' rfl, P1, fun _ _ _ _ q => q.elim, fun _ _ _ _ q => q.elim, fun x _ S' _ H' cls d q t _ c' xr => PX x S' cls d H' q t c' xr⟩⟩

/-! ### what isinstance knows: a table -/
def knT (a : String) : Bool := a == "int" || a == "bool" || a == "str" || a == "tuple" || a == "list" || a == "dict" || a == "NoneType"
def kitZ (cs : List Addr) (t c : DV) : Option Bool := match t, c with
  | .ty a, .ty b => if knT a && knT b then some (a == b || (a == "bool" && b == "int")) else none
  | .ref C, .ty b => if cs.contains C && knT b then some false else none
  | .ty a, .ref C => if knT a && cs.contains C then some false else none
  | .ref C, .ref D => if cs.contains C && cs.contains D then some (C == D) else none
  | _, _ => none
def tysT : List String := ["int", "bool", "str", "tuple", "list", "dict", "NoneType"]
theorem knT_mem {a : String} (h : knT a = true) : a ∈ tysT := by
  unfold knT at h
  simp only [Bool.or_eq_true, beq_iff_eq] at h
  unfold tysT
  simp only [List.mem_cons, List.not_mem_nil, or_false]
  simpa only [or_assoc] using h
/-- the table is what the classes say -/
def kitOk (K : PySem.W.Frag) (cs : List Addr) : Bool :=
  (tysT.all fun a => tysT.all fun b => decide (PySem.W.kitOne K (.type a) (.type b) = kitZ cs (.ty a) (.ty b))) &&
  ((cs.all fun C => tysT.all fun b => decide (PySem.W.kitOne K (.ref C) (.type b) = some false)) &&
  ((cs.all fun C => tysT.all fun b => decide (PySem.W.kitOne K (.type b) (.ref C) = some false)) &&
  (cs.all fun C => cs.all fun D => decide (PySem.W.kitOne K (.ref C) (.ref D) = some (C == D)))))
theorem kitZ_ok {K : PySem.W.Frag} {cs : List Addr} (h : kitOk K cs = true) (t c : DV) (b : Bool) (e : kitZ cs t c = some b) : PySem.W.kitOne K (tyVal t) (tyVal c) = some b := by
  unfold kitOk at h
  simp only [Bool.and_eq_true, List.all_eq_true, decide_eq_true_eq] at h
  obtain ⟨h1, h2, h3, h4⟩ := h
  have e0 := e
  unfold kitZ at e
  split at e
  · split at e
    · rename_i q
      simp only [Bool.and_eq_true] at q
      have := h1 _ (knT_mem q.1) _ (knT_mem q.2)
      rw [e0] at this
      exact this
    · cases e
  · split at e
    · rename_i q
      simp only [Bool.and_eq_true, List.contains_iff_mem] at q
      cases e
      exact h2 _ q.1 _ (knT_mem q.2)
    · cases e
  · split at e
    · rename_i q
      simp only [Bool.and_eq_true, List.contains_iff_mem] at q
      cases e
      exact h3 _ q.2 _ (knT_mem q.1)
    · cases e
  · split at e
    · rename_i q
      simp only [Bool.and_eq_true, List.contains_iff_mem] at q
      cases e
      exact h4 _ q.1 _ q.2
    · cases e
  · cases e
def zOf (cs : List Addr) (fs : List (Addr × Str)) : Zt := ⟨kitZ cs, fun C => cs.contains C, fun C f => fs.contains (C, f)⟩
def insB (K : PySem.W.Frag) (C : Addr) : Bool := decide (PySem.W.findIn K (.ref C) "__class__" = some (some (.builtin "object.__class__"))) && (decide (PySem.W.specialIn K (.builtin "object.__class__") "__get__" = some (some (.builtin "getset_descriptor.__get__"))) &&
  (decide (PySem.W.takesIn K (.builtin "object.__class__") = some true) && decide (PySem.W.mroIn K C (.type "object") = some true)))
def clsB (K : PySem.W.Frag) (C : Addr) : Bool := PySem.W.plainGet K C Str.empty && (PySem.W.hasDictIn K C && (PySem.W.plainOver K C && decide (PySem.W.findIn K (.ref C) "__setattr__" = some (some (.builtin "object.__setattr__")))))
theorem clsB_ok {K : PySem.W.Frag} {C : Addr} (h : clsB K C = true) : Cls K C := by
  unfold clsB at h
  simp only [Bool.and_eq_true, decide_eq_true_eq] at h
  exact ⟨h.1, h.2.1, h.2.2.1, h.2.2.2⟩
theorem insB_ok {K : PySem.W.Frag} {C : Addr} (h : insB K C = true) (c : Cls K C) : InsOk K C := by
  unfold insB at h
  simp only [Bool.and_eq_true, decide_eq_true_eq] at h
  exact ⟨c, h.1, h.2.1, h.2.2.1, h.2.2.2⟩
/-- all that a law asks of the heap behind the top, besides its defs -/
def zB (K : PySem.W.Frag) (cs : List Addr) (fs : List (Addr × Str)) : Bool := kitOk K cs && ((cs.all fun C => clsB K C && insB K C) && (fs.all fun p => cs.contains p.1 && decide (PySem.W.findIn K (.ref p.1) p.2 = some none)))
theorem zB_ok {K : PySem.W.Frag} {cs : List Addr} {fs : List (Addr × Str)} (h : zB K cs fs = true) : ZOk K (zOf cs fs) := by
  unfold zB at h
  simp only [Bool.and_eq_true, List.all_eq_true] at h
  obtain ⟨h1, h2, h3⟩ := h
  refine ⟨fun t c b e => kitZ_ok h1 t c b e, fun C e => ?_, fun C f e => ?_⟩
  · have e : cs.contains C = true := e
    have q := h2 C (by simpa using e)
    exact insB_ok q.2 (clsB_ok q.1)
  · have e : fs.contains (C, f) = true := e
    have q := h3 (C, f) (by simpa using e)
    have q1 : C ∈ cs := by simpa using q.1
    exact ⟨clsB_ok (h2 C q1).1, of_decide_eq_true (p := PySem.W.findIn K (.ref C) f = some none) q.2⟩

/-! ### the Hook: the defs, facts, a test of one's own -/
def obsM (fa : List He.Fa) (fn : List He.DefD) (ck : PySem.W.Frag → Bool) (K : PySem.W.Frag) : He.AlD × Bool := (He.obsD fa fn K, ck K)
def valM (fn : List He.DefD) : He.AlD × Bool := (He.valD fn, true)
def SaysM (fa : List He.Fa) (fn : List He.DefD) (ck : PySem.W.Frag → Bool) (K : PySem.W.Frag) : Prop := He.SaysD fa fn K ∧ ck K = true
def obsMG (n : Nat) (fa : List He.Fa) (fn : List He.DefD) (ck : PySem.W.Frag → Bool) (g : Addr → Option Obj) : He.AlD × Bool := obsM fa fn ck (He.frG g (He.asD g n))
def hookM (n : Nat) (fa : List He.Fa) (fn : List He.DefD) (ck : PySem.W.Frag → Bool) : PySem.W.Hook where
  α := He.AlD × Bool
  obs := fun s => obsMG n fa fn ck s.heap.get?
  val := fun _ => valM fn
  says := fun _ h => ∃ K : PySem.W.Frag, K.In h ∧ SaysM fa fn ck K
  of := fun _ _ e => ⟨_, He.frG_in, (Prod.mk.inj e).1, (Prod.mk.inj e).2⟩
  keeps := fun _ _ _ ⟨K, hK, c⟩ k => ⟨K, PySem.W.Frag.In.keeps hK k, c⟩
theorem obsMG_eq {n : Nat} {fa : List He.Fa} {fn : List He.DefD} {ck : PySem.W.Frag → Bool} {g : Addr → Option Obj} {s : Shared} (h : ∀ a, g a = s.heap.get? a) : obsMG n fa fn ck g = (hookM n fa fn ck).obs s := by
  have e : g = s.heap.get? := funext h
  rw [e] <;> rfl

/-! ### the end: the law's def -/
theorem walk_M {l : PySem.W.OpenLaw} {n k : Nat} {q : Program} {loose : List Str} {XP : (Str → Option Value) → Heap → Prop} {YP : World → Heap → Prop} {d : DefRec} {x : Str}
    (hn : l.most = some n) (hn2 : n ≤ sizeLine) (hdf : d.params.defaults = []) (hr : Room k callerA)
    (F : ∀ (w : World) (mg : Str → Option Value) (fa : Addr) (h : Heap), YP w h → h.Ns mainGlobals mg → mg d.name = some (.ref fa) →
      ∃ (K : PySem.W.Frag) (fd : FuncData) (c : Ctr), K.In h ∧ (∀ (s : Shared) (u : Value), BindsTo s fd ⟨[u], []⟩ [(x, u)]) ∧
        (∀ (ns : List Int), ns.length ≤ n → c [.rol (ns.map DV.int)] (fun _ => none) (fun v _ => v = .bl true) fun _ _ => False) ∧
        ∀ base : Heap, K.In base → base.Ns mainGlobals mg → FnOk l.prog w K mg base (L2.CX l.prog w) k fa fd [x] (liftSp K c)) :
    PySem.W.WalkO q loose XP YP l.row.toRowW d [] (fun f vs => PySem.call f vs) := by
  refine Att.attach_call hn hdf fun w s₀ s₁ mg mb fa o pm cd doc a vs ns G Y ho hd hcd hmg hobj hints hlen hg => ?_
  obtain ⟨K, fd, c, KX, hb, hsp, hF⟩ := F w mg fa _ Y G.T.g hmg
  refine law_call KX G.T.g G.T.b G.T.builtins G.T.nolimit hg hobj hints (Nat.le_trans hlen hn2) hr hF hb (fun H hO hS => ?_) fun H e s' cx => ?_
  · obtain ⟨vs, e, r⟩ : ∃ vs, vs = ns.map V.int ∧ RoL K H a vs := by
      refine ⟨_, rfl, ?_⟩
      rcases hS with (hS | ⟨o, hS⟩) | hS
      · rcases hO a with z | ⟨o, xs, z⟩
        · rw [z] at hS; cases hS
        · rw [z] at hS; cases hS
      · exact .inl ⟨o, hS⟩
      · exact .inr hS
    subst e
    have rs : ∀ ns : List Int, Rels K H (ns.map DV.int) (ns.map V.int) := fun ns => by
      induction ns with
      | nil => exact rfl
      | cons n ns ih => exact ⟨.int n, ns.map V.int, rfl, rfl, ih⟩
    refine ⟨[.rol (ns.map DV.int)], fun _ => none, fun v _ => v = .bl true, fun _ _ => False, .cons ⟨a, _, rfl, r, rs ns⟩ .nil, fun _ _ e => (nomatch e), hsp ns hlen, fun d S' v H' q _ _ rr => ?_, fun _ _ _ _ _ q => q.elim⟩
    subst q
    exact rr
  · obtain ⟨_, _, _, _, _, _, _, _, _, _, _, _, z⟩ := cx
    exact z
end M
set_option maxHeartbeats 4000000
namespace M
open PySem PySem.Spec PyProof.Rows L2

/-! ### readings, in words that simp reads -/
section
variable {Γ : Gm} {S : Sto} {Q : QV} {X : QX} {D : DEnds}
theorem opt_if {o : Option Bool} {A B : Prop} : (match o with | some true => A | some false => B | none => False) ↔ ∃ b, o = some b ∧ if b = true then A else B := by
  cases o with
  | none => simp
  | some b => cases b <;> simp
@[simp] theorem dAnd_eq {t u : DE} : dAnd t u = fun Γ S Q X => t Γ S (fun x S1 => ∃ b, fTru x S1 = some b ∧ if b = true then u Γ S1 Q X else Q x S1) X := by
  funext Γ S Q X
  unfold dAnd
  congr 1
  funext x S1
  exact propext opt_if
@[simp] theorem dOr_eq {t u : DE} : dOr t u = fun Γ S Q X => t Γ S (fun x S1 => ∃ b, fTru x S1 = some b ∧ if b = true then Q x S1 else u Γ S1 Q X) X := by
  funext Γ S Q X
  unfold dOr
  congr 1
  funext x S1
  exact propext opt_if
@[simp] theorem dNot_eq {t : DE} : dNot t = fun Γ S Q X => t Γ S (fun x S1 => ∃ b, fTru x S1 = some b ∧ Q (.bl (!b)) S1) X := by
  funext Γ S Q X
  unfold dNot
  congr 1
  funext x S1
  cases fTru x S1 <;> simp
@[simp] theorem dtTru_eq {t : DE} : dtTru t = fun Γ S Q X => t Γ S (fun x S1 => ∃ b, fTru x S1 = some b ∧ Q b S1) X := by
  funext Γ S Q X
  unfold dtTru
  congr 1
  funext x S1
  cases fTru x S1 <;> simp
@[simp] theorem dtAnd_eq {t u : DT} : dtAnd t u = fun Γ S Q X => t Γ S (fun b S1 => if b = true then u Γ S1 Q X else Q false S1) X := by
  funext Γ S Q X
  unfold dtAnd
  congr 1
  funext b S1
  cases b <;> rfl
@[simp] theorem dtOr_eq {t u : DT} : dtOr t u = fun Γ S Q X => t Γ S (fun b S1 => if b = true then Q true S1 else u Γ S1 Q X) X := by
  funext Γ S Q X
  unfold dtOr
  congr 1
  funext b S1
  cases b <;> rfl
@[simp] theorem dIf_eq {c : DT} {t u : DE} : dIf c t u = fun Γ S Q X => c Γ S (fun b S1 => if b = true then t Γ S1 Q X else u Γ S1 Q X) X := by
  funext Γ S Q X
  unfold dIf
  congr 1
  funext b S1
  cases b <;> rfl
@[simp] theorem dsIf_eq {c : DT} {s t : DS} : dsIf c s t = fun D Γ S => c Γ S (fun b S1 => if b = true then s D Γ S1 else t D Γ S1) (fun x S1 => D.xx x Γ S1) := by
  funext D Γ S
  unfold dsIf
  congr 1
  funext b S1
  cases b <;> rfl
@[simp] theorem dChain_eq {f g : FO} {a b c : DE} : dChain f g a b c = fun Γ S Q X => a Γ S (fun x S1 => b Γ S1 (fun y S2 => f x y S2 fun z S3 => ∃ k, z = .bl k ∧ if k = true then c Γ S3 (fun w S4 => g y w S4 Q) X else Q (.bl false) S3) X) X := by
  funext Γ S Q X
  unfold dChain
  congr 1
  funext x S1
  congr 1
  funext y S2
  congr 1
  funext z S3
  cases z with
  | bl k => cases k <;> simp
  | _ => simp
end

/-! ### what is known of a value -/
def kindM : MO → Nat × Addr
  | .lst _ => (0, 0)
  | .ins C _ => (1, C)
  | .dK _ => (2, 0)
  | .dT _ => (2, 0)
/-- an object stays what it is -/
def Ext (S S' : Sto) : Prop := ∀ a o, S a = some o → ∃ o', S' a = some o' ∧ kindM o' = kindM o
theorem Ext.refl (S : Sto) : Ext S S := fun _ o h => ⟨o, h, rfl⟩
theorem Ext.trans {S S1 S2 : Sto} (a : Ext S S1) (b : Ext S1 S2) : Ext S S2 := fun p o h => by
  obtain ⟨o1, h1, k1⟩ := a p o h
  obtain ⟨o2, h2, k2⟩ := b p o1 h1
  exact ⟨o2, h2, k2.trans k1⟩
theorem Ext.new {S : Sto} {p : Addr} {o : MO} (h : S p = none) : Ext S (S.upd p o) := fun a u e => by
  by_cases ha : a = p
  · subst ha; rw [h] at e; cases e
  · exact ⟨u, by rw [upd_n ha]; exact e, rfl⟩
theorem Ext.wr {S : Sto} {p : Addr} {o o' : MO} (h : S p = some o) (k : kindM o' = kindM o) : Ext S (S.upd p o') := fun a u e => by
  by_cases ha : a = p
  · subst ha; rw [h] at e; cases e; exact ⟨o', upd_s, k⟩
  · exact ⟨u, by rw [upd_n ha]; exact e, rfl⟩
mutual
/-- its type is known; texts of a common length -/
def OkD (cs : List Addr) (S : Sto) : DV → Prop
  | .str z => z.length ≤ sizeLine
  | .tup ds => OkDs cs S ds
  | .ref a => ∃ o, S a = some o ∧ ∀ C fs, o = .ins C fs → C ∈ cs
  | .rol _ => False
  | .ty _ => False
  | _ => True
def OkDs (cs : List Addr) (S : Sto) : List DV → Prop
  | [] => True
  | d :: ds => OkD cs S d ∧ OkDs cs S ds
end
mutual
theorem OkD.mono {cs : List Addr} {S S' : Sto} (e : Ext S S') : ∀ {d : DV}, OkD cs S d → OkD cs S' d
  | .str z, h => by simpa only [OkD] using h
  | .tup ds, h => by
    simp only [OkD] at h ⊢
    exact OkDs.mono e h
  | .ref a, h => by
    simp only [OkD] at h ⊢
    obtain ⟨o, ho, hc⟩ := h
    obtain ⟨o', ho', k⟩ := e a o ho
    refine ⟨o', ho', fun C fs e => ?_⟩
    subst e
    cases o with
    | ins C' fs' =>
      have : C = C' := by simpa [kindM] using k
      exact this ▸ hc C' fs' rfl
    | _ => simp [kindM] at k
  | .rol _, h => by simp only [OkD] at h
  | .ty _, h => by simp only [OkD] at h
  | .non, _ => by simp only [OkD]
  | .bl _, _ => by simp only [OkD]
  | .int _, _ => by simp only [OkD]
theorem OkDs.mono {cs : List Addr} {S S' : Sto} (e : Ext S S') : ∀ {ds : List DV}, OkDs cs S ds → OkDs cs S' ds
  | [], _ => by simp only [OkDs]
  | d :: ds, h => by
    simp only [OkDs] at h ⊢
    exact ⟨OkD.mono e h.1, OkDs.mono e h.2⟩
end
theorem OkDs.all {cs : List Addr} {S : Sto} : ∀ {ds : List DV}, OkDs cs S ds ↔ ∀ d ∈ ds, OkD cs S d
  | [] => by simp [OkDs]
  | d :: ds => by simp [OkDs, OkDs.all]
def dIsInt : DV → Bool
  | .int _ => true
  | .bl _ => true
  | _ => false
def dIsBl : DV → Bool
  | .bl _ => true
  | _ => false
def dIsStr : DV → Bool
  | .str _ => true
  | _ => false
def dIsTup : DV → Bool
  | .tup _ => true
  | _ => false
section
variable {cs : List Addr} {fs : List (Addr × Str)} {S : Sto} {Q : QV} {d : DV}
theorem isi_of {n : String} (hn : n = "int" ∨ n = "bool" ∨ n = "str" ∨ n = "tuple") (h : OkD cs S d) : fIsi (zOf cs fs) [d, .ty n] S Q = Q (.bl (match n with | "int" => dIsInt d | "bool" => dIsBl d | "str" => dIsStr d | _ => dIsTup d)) S := by
  have aux : ∀ {t : DV} {b : Bool}, tyD (zOf cs fs) d S = some t → kitZ cs t (.ty n) = some b → fIsi (zOf cs fs) [d, .ty n] S Q = Q (.bl b) S := fun {t b} e1 e2 => by
    unfold fIsi
    simp only [isCls, e1, Option.bind_some]
    rw [show (zOf cs fs).kit t (.ty n) = some b from e2]
    simp
  cases d with
  | ref a =>
    simp only [OkD] at h
    obtain ⟨o, ho, hc⟩ := h
    cases o with
    | lst xs => rcases hn with rfl | rfl | rfl | rfl <;> exact aux (t := .ty "list") (by simp [tyD, ho]) rfl
    | dK xs => rcases hn with rfl | rfl | rfl | rfl <;> exact aux (t := .ty "dict") (by simp [tyD, ho]) rfl
    | dT xs => rcases hn with rfl | rfl | rfl | rfl <;> exact aux (t := .ty "dict") (by simp [tyD, ho]) rfl
    | ins C gs =>
      have hC : cs.contains C = true := by simpa using hc C gs rfl
      rcases hn with rfl | rfl | rfl | rfl <;> exact aux (t := .ref C) (by simp [tyD, ho, zOf]; simpa using hC) (by simp [kitZ, knT, dIsInt, dIsBl, dIsStr, dIsTup]; simpa using hC)
  | rol _ => simp only [OkD] at h
  | ty _ => simp only [OkD] at h
  | non => rcases hn with rfl | rfl | rfl | rfl <;> exact aux (t := .ty "NoneType") rfl rfl
  | bl _ => rcases hn with rfl | rfl | rfl | rfl <;> exact aux (t := .ty "bool") rfl rfl
  | int _ => rcases hn with rfl | rfl | rfl | rfl <;> exact aux (t := .ty "int") rfl rfl
  | str _ => rcases hn with rfl | rfl | rfl | rfl <;> exact aux (t := .ty "str") rfl rfl
  | tup _ => rcases hn with rfl | rfl | rfl | rfl <;> exact aux (t := .ty "tuple") rfl rfl
theorem isi_int (h : OkD cs S d) : fIsi (zOf cs fs) [d, .ty "int"] S Q = Q (.bl (dIsInt d)) S := isi_of (.inl rfl) h
theorem isi_bool (h : OkD cs S d) : fIsi (zOf cs fs) [d, .ty "bool"] S Q = Q (.bl (dIsBl d)) S := isi_of (.inr (.inl rfl)) h
theorem isi_str (h : OkD cs S d) : fIsi (zOf cs fs) [d, .ty "str"] S Q = Q (.bl (dIsStr d)) S := isi_of (.inr (.inr (.inl rfl))) h
theorem isi_tup (h : OkD cs S d) : fIsi (zOf cs fs) [d, .ty "tuple"] S Q = Q (.bl (dIsTup d)) S := isi_of (.inr (.inr (.inr rfl))) h
end
/-! ### indexes -/
@[simp] theorem atI_0 {α : Type} (a : α) (l : List α) : atI (a :: l) 0 = some a := by
  unfold atI ixN
  rw [if_pos (by decide), if_pos (by simp only [List.length_cons]; omega)]
  rfl
@[simp] theorem atI_1 {α : Type} (a b : α) (l : List α) : atI (a :: b :: l) 1 = some b := by
  unfold atI ixN
  rw [if_pos (by decide), if_pos (by simp only [List.length_cons]; omega)]
  rfl
@[simp] theorem atI_2 {α : Type} (a b c : α) (l : List α) : atI (a :: b :: c :: l) 2 = some c := by
  unfold atI ixN
  rw [if_pos (by decide), if_pos (by simp only [List.length_cons]; omega)]
  rfl
@[simp] theorem atI_3 {α : Type} (a b c d : α) (l : List α) : atI (a :: b :: c :: d :: l) 3 = some d := by
  unfold atI ixN
  rw [if_pos (by decide), if_pos (by simp only [List.length_cons]; omega)]
  rfl
@[simp] theorem atI_4 {α : Type} (a b c d e : α) (l : List α) : atI (a :: b :: c :: d :: e :: l) 4 = some e := by
  unfold atI ixN
  rw [if_pos (by decide), if_pos (by simp only [List.length_cons]; omega)]
  rfl
theorem atI_nn {α : Type} {l : List α} {i : Int} (h0 : 0 ≤ i) (h1 : i < l.length) : ∃ h : i.toNat < l.length, atI l i = some l[i.toNat] := by
  have h : i.toNat < l.length := by omega
  refine ⟨h, ?_⟩
  unfold atI ixN
  rw [if_pos h0, if_pos h1]
  simp
theorem atI_mem {α : Type} {l : List α} {i : Int} (h0 : 0 ≤ i) (h1 : i < l.length) : ∃ x ∈ l, atI l i = some x := by
  obtain ⟨h, e⟩ := atI_nn h0 h1
  exact ⟨_, List.getElem_mem h, e⟩
@[simp] theorem size_line : sizeLine = 16777216 := rfl

@[simp] theorem dvEq_non_non : dvEq (.non) (.non) = true := by simp only [dvEq]
@[simp] theorem dvEq_non_bl {b : Bool} : dvEq (.non) (.bl b) = false := by simp only [dvEq]
@[simp] theorem dvEq_non_int {j : Int} : dvEq (.non) (.int j) = false := by simp only [dvEq]
@[simp] theorem dvEq_non_str {y : Str} : dvEq (.non) (.str y) = false := by simp only [dvEq]
@[simp] theorem dvEq_bl_non {a : Bool} : dvEq (.bl a) (.non) = false := by simp only [dvEq]
@[simp] theorem dvEq_bl_bl {a : Bool} {b : Bool} : dvEq (.bl a) (.bl b) = (a == b) := by simp only [dvEq]
@[simp] theorem dvEq_bl_int {a : Bool} {j : Int} : dvEq (.bl a) (.int j) = ((if a then 1 else 0) == j) := by simp only [dvEq]
@[simp] theorem dvEq_bl_str {a : Bool} {y : Str} : dvEq (.bl a) (.str y) = false := by simp only [dvEq]
@[simp] theorem dvEq_int_non {i : Int} : dvEq (.int i) (.non) = false := by simp only [dvEq]
@[simp] theorem dvEq_int_bl {b : Bool} {i : Int} : dvEq (.int i) (.bl b) = (i == (if b then 1 else 0)) := by simp only [dvEq]
@[simp] theorem dvEq_int_int {i : Int} {j : Int} : dvEq (.int i) (.int j) = (i == j) := by simp only [dvEq]
@[simp] theorem dvEq_int_str {i : Int} {y : Str} : dvEq (.int i) (.str y) = false := by simp only [dvEq]
@[simp] theorem dvEq_str_non {x : Str} : dvEq (.str x) (.non) = false := by simp only [dvEq]
@[simp] theorem dvEq_str_bl {b : Bool} {x : Str} : dvEq (.str x) (.bl b) = false := by simp only [dvEq]
@[simp] theorem dvEq_str_int {j : Int} {x : Str} : dvEq (.str x) (.int j) = false := by simp only [dvEq]
@[simp] theorem dvEq_str_str {x : Str} {y : Str} : dvEq (.str x) (.str y) = (x == y) := by simp only [dvEq]

/-! ### stores that grow -/
/-- nothing is changed, something may be new -/
def Nw (S S' : Sto) : Prop := ∀ a o, S a = some o → S' a = some o
theorem Nw.refl (S : Sto) : Nw S S := fun _ _ h => h
theorem Nw.trans {S S1 S2 : Sto} (a : Nw S S1) (b : Nw S1 S2) : Nw S S2 := fun p o h => b p o (a p o h)
theorem Nw.new {S : Sto} {p : Addr} {o : MO} (h : S p = none) : Nw S (S.upd p o) := fun a u e => by
  by_cases ha : a = p
  · subst ha; rw [h] at e; cases e
  · rw [upd_n ha]; exact e
theorem Nw.ext {S S' : Sto} (n : Nw S S') : Ext S S' := fun a o h => ⟨o, n a o h, rfl⟩
theorem upd_upd2 {S : Sto} {p : Addr} {o u : MO} : (S.upd p o).upd p u = S.upd p u := by
  funext b
  by_cases h : b = p
  · subst h; rw [upd_s, upd_s]
  · rw [upd_n h, upd_n h, upd_n h]

/-! ### loops -/
/-- a for: P by what is left to come -/
theorem for_ind {G : Sto → Prop} {g : DG} {b : DS} {D : DEnds} (P : List DV → Gm → Sto → Prop) (hG : ∀ rest Γ S, P rest Γ S → G S) (h0 : ∀ Γ S, P [] Γ S → D.nx Γ S)
    (hs : ∀ d rest Γ S (K : Gm → Sto → Prop), P (d :: rest) Γ S → (∀ Γ' S', P rest Γ' S' → K Γ' S') → g d Γ S (fun Γ1 S1 => b { D with nx := K, ct := K, bk := D.nx } Γ1 S1) fun x S1 => D.xx x Γ S1) :
    ∀ (ds : List DV) (Γ : Gm) (S : Sto), P ds Γ S → dsLoop G g b D ds Γ S
  | [], Γ, S, h => ⟨hG _ _ _ h, h0 _ _ h⟩
  | d :: ds, Γ, S, h => ⟨hG _ _ _ h, hs d ds Γ S _ h fun Γ' S' h' => for_ind P hG h0 hs ds Γ' S' h'⟩
/-- a comprehension: P by what is left to come and what is laid down -/
theorem comp_ind {G : Sto → Prop} {g : DG} {t : DT} {te : DE} {Γ : Gm} {p : Addr} {Q : Sto → Prop} (P : List DV → List DV → Sto → Prop) (hG : ∀ rest acc S, P rest acc S → G S) (h0 : ∀ acc S, P [] acc S → Q S)
    (hs : ∀ d rest acc S (K : DV → Sto → Prop) (K' : Sto → Prop), P (d :: rest) acc S → (∀ y S', S' p = some (.lst acc) → acc.length < sizeLine → P rest (acc ++ [y]) (S'.upd p (.lst (acc ++ [y]))) → K y S') → (∀ S', P rest acc S' → K' S') →
      g d Γ S (fun Γ1 S1 => t Γ1 S1 (fun b S2 => if b = true then te Γ1 S2 K noQX else K' S2) noQX) noQX) :
    ∀ (ds acc : List DV) (S : Sto), P ds acc S → dcLoop G g t te Γ p Q ds S
  | [], acc, S, h => ⟨hG _ _ _ h, h0 _ _ h⟩
  | d :: ds, acc, S, h => by
    refine ⟨hG _ _ _ h, ?_⟩
    have q := hs d ds acc S (fun y S3 => match S3 p with
      | some (.lst acc) => acc.length < sizeLine ∧ dcLoop G g t te Γ p Q ds (S3.upd p (.lst (acc ++ [y])))
      | _ => False) (fun S2 => dcLoop G g t te Γ p Q ds S2) h (fun y S' e hl hp => ?_) fun S' hp => comp_ind P hG h0 hs ds acc S' hp
    · have e : (fun (Γ1 : Gm) (S1 : Sto) => t Γ1 S1 (fun b S2 => if b = true then te Γ1 S2 (fun y S3 => match S3 p with
          | some (.lst acc) => acc.length < sizeLine ∧ dcLoop G g t te Γ p Q ds (S3.upd p (.lst (acc ++ [y])))
          | _ => False) noQX else dcLoop G g t te Γ p Q ds S2) noQX) = fun Γ1 S1 => t Γ1 S1 (fun b S2 => match b with
          | true => te Γ1 S2 (fun y S3 => match S3 p with
            | some (.lst acc) => acc.length < sizeLine ∧ dcLoop G g t te Γ p Q ds (S3.upd p (.lst (acc ++ [y])))
            | _ => False) noQX
          | false => dcLoop G g t te Γ p Q ds S2) noQX := by
        funext Γ1 S1
        congr 1
        funext b S2
        cases b <;> rfl
      rw [e] at q
      exact q
    · rw [e]
      exact ⟨hl, comp_ind P hG h0 hs ds (acc ++ [y]) _ hp⟩
/-- a comprehension of a list that nothing is dropped from; what an element is worth hangs on it alone -/
theorem comp_map {G : Sto → Prop} {g : DG} {te : DE} {Γ : Gm} {p : Addr} {Q : Sto → Prop} {S : Sto} {ds : List DV} (f : DV → DV) (hp : S p = none) (hl : ds.length ≤ sizeLine) (hG : ∀ S', Nw S S' → G S')
    (hs : ∀ d ∈ ds, ∀ (S' : Sto) (K : DV → Sto → Prop), Nw S S' → (∀ S'', Nw S' S'' → K (f d) S'') → g d Γ S' (fun Γ1 S1 => te Γ1 S1 K noQX) noQX)
    (hQ : ∀ S', Nw S S' → S' p = some (.lst (ds.map f)) → Q S') : dcLoop G g dtYes te Γ p Q ds (S.upd p (.lst [])) := by
  refine comp_ind (fun rest acc S' => (∃ pre, ds = pre ++ rest ∧ acc = pre.map f) ∧ Nw S S' ∧ S' p = some (.lst acc)) (fun _ _ S' h => hG S' h.2.1) (fun acc S' h => ?_) (fun d rest acc S' K K' h hK _ => ?_) ds [] _ ⟨⟨[], rfl, rfl⟩, Nw.new hp, upd_s⟩
  · obtain ⟨⟨pre, e, rfl⟩, n, e2⟩ := h
    rw [List.append_nil] at e
    subst e
    exact hQ S' n e2
  · obtain ⟨⟨pre, e, rfl⟩, n, e2⟩ := h
    have hm : d ∈ ds := by rw [e]; simp
    have hlen : pre.length + 1 ≤ ds.length := by rw [e]; simp
    have q := hs d hm S' K n fun S'' n' => ?_
    · unfold dtYes
      simpa using q
    · refine hK (f d) S'' (n' _ _ e2) (by rw [List.length_map]; omega) ⟨⟨pre ++ [d], by rw [e]; simp, by simp⟩, fun a o ha => ?_, upd_s⟩
      have hne : a ≠ p := fun z => by subst z; rw [hp] at ha; cases ha
      rw [upd_n hne]
      exact n' _ _ (n _ _ ha)
theorem bls_map {f : DV → Bool} : ∀ ds : List DV, blsOf (ds.map fun d => .bl (f d)) = some (ds.map f)
  | [] => rfl
  | d :: ds => by simp [blsOf, bls_map ds]
theorem all_map {S : Sto} {p : Addr} {f : DV → Bool} {ds : List DV} {Q : QV} (e : S p = some (.lst (ds.map fun d => .bl (f d)))) : fAll [.ref p] S Q = Q (.bl (ds.all f)) S := by
  unfold fAll
  simp only [lstOf, e, Option.bind_some, bls_map]
  simp [List.all_map]
theorem any_map {S : Sto} {p : Addr} {f : DV → Bool} {ds : List DV} {Q : QV} (e : S p = some (.lst (ds.map fun d => .bl (f d)))) : fAny [.ref p] S Q = Q (.bl (ds.any f)) S := by
  unfold fAny
  simp only [lstOf, e, Option.bind_some, bls_map]
  simp [List.any_map]
theorem lt1 {c d : Nat} : ([c] : List Nat) < [d] ↔ c < d := by simp [List.cons_lt_cons_iff]
theorem le1 {c d : Nat} : ([c] : List Nat) ≤ [d] ↔ c ≤ d := by rw [← List.not_lt, lt1]; omega

/-! ### the drawing hand -/
/-- a kind of hand: where it stands, the lists that are its own, what holds of them -/
structure HK where
  H : Addr → List Addr → Sto → Prop
  own : ∀ {h A S}, H h A S → h ∈ A ∧ ∀ a ∈ A, ∃ xs, S a = some (.lst xs)
  same : ∀ {h A S S'}, H h A S → (∀ a ∈ A, S' a = S a) → H h A S'
section
variable {hk : HK} {h p : Addr} {A : List Addr} {S S1 S2 S' : Sto}
/-- nothing but the hand is changed -/
def St (hk : HK) (h : Addr) (A : List Addr) (S S' : Sto) : Prop := hk.H h A S ∧ hk.H h A S' ∧ ∀ a o, a ∉ A → S a = some o → S' a = some o
theorem St.refl (n : hk.H h A S) : St hk h A S S := ⟨n, n, fun _ _ _ e => e⟩
theorem St.trans (a : St hk h A S S1) (b : St hk h A S1 S2) : St hk h A S S2 := ⟨a.1, b.2.1, fun p o h1 e => b.2.2 p o h1 (a.2.2 p o h1 e)⟩
theorem HK.ne (n : hk.H h A S) (hp : S p = none) : p ∉ A := fun m => by
  obtain ⟨xs, e⟩ := (hk.own n).2 p m
  rw [hp] at e; cases e
theorem HK.upd {o : MO} (n : hk.H h A S) (h1 : p ∉ A) : hk.H h A (S.upd p o) := hk.same n fun a ha => upd_n fun z => h1 (z ▸ ha)
theorem St.new {o : MO} (n : hk.H h A S) (hp : S p = none) : St hk h A S (S.upd p o) := ⟨n, HK.upd n (HK.ne n hp), fun a u _ e => Nw.new hp a u e⟩
theorem HK.nw (n : hk.H h A S) (w : Nw S S') : hk.H h A S' := hk.same n fun a ha => by
  obtain ⟨xs, e⟩ := (hk.own n).2 a ha
  rw [e]; exact w a _ e
theorem St.nw (n : hk.H h A S) (w : Nw S S') : St hk h A S S' := ⟨n, HK.nw n w, fun a o _ e => w a o e⟩
theorem St.ext (s : St hk h A S S') : Ext S S' := fun a o e => by
  by_cases ha : a ∈ A
  · obtain ⟨xs, e1⟩ := (hk.own s.1).2 a ha
    obtain ⟨ys, e2⟩ := (hk.own s.2.1).2 a ha
    rw [e1] at e; cases e
    exact ⟨_, e2, rfl⟩
  · exact ⟨o, s.2.2 a o ha e, rfl⟩
end
/-- what a draw is worth -/
def drawC (hk : HK) : Ctr := fun ds S Q _ => match ds with
  | [.ref h, .int n] => ∃ A, hk.H h A S ∧ 0 < n ∧ n < 1073741824 ∧ ∀ d S', 0 ≤ d → d < n → St hk h A S S' → Q (.int d) S'
  | _ => False
/-- one of a list -/
def anyC (hk : HK) : Ctr := fun ds S Q _ => match ds with
  | [.ref h, .ref p] => ∃ A xs, hk.H h A S ∧ S p = some (.lst xs) ∧ p ∉ A ∧ xs ≠ [] ∧ xs.length < 1073741824 ∧ ∀ x S', x ∈ xs → St hk h A S S' → Q x S'
  | _ => False
theorem w_any (hk : HK) (ds : List DV) (S : Sto) (Q : QV) (X : QX) (h : anyC hk ds S Q X) :
    (dsRet (dBin fIx (dVar 1) (dCall (drawC hk) (daCons (dVar 0) (daCons (dCB fLen (daCons (dVar 1) daNil)) daNil))))) { nx := fun _ S' => Q .non S', rt := Q, xx := fun x _ S' => X x S' } (startG ["hand", "things"] ds) S := by
  unfold anyC at h
  split at h
  · rename_i h p
    obtain ⟨A, xs, hh, e, np, ne, lt, q⟩ := h
    have lp : 0 < xs.length := List.length_pos_iff.mpr ne
    simp [startG, e, drawC]
    refine ⟨A, hh, by omega, by omega, fun d S' d0 d1 st => ?_⟩
    rw [st.2.2 p _ np e]
    obtain ⟨x, hx, ex⟩ := atI_mem (l := xs) d0 d1
    simp [ex]
    exact q x S' hx st
  · exact h.elim
end M
set_option maxHeartbeats 4000000
namespace M
open PySem PySem.Spec PyProof.Rows L2

/-! ### stepping: the head is unfolded ahead of what follows -/
section
variable {Γ : Gm} {S : Sto} {Q : QV} {X : QX} {d : DV} {o : Option DV} {a b : Int} {p q : Bool} {x y : Str} {ds es : List DV} {i : Nat}
theorem var_0 : dVar 0 (some d :: Γ) S Q X = Q d S := rfl
theorem var_s : dVar (i + 1) (o :: Γ) S Q X = dVar i Γ S Q X := rfl
def truK (x : DV) (S : Sto) (K : Bool → Sto → Prop) : Prop := ∃ b, fTru x S = some b ∧ K b S
theorem truK_bl {K : Bool → Sto → Prop} : truK (.bl p) S K = K p S := by
  unfold truK fTru
  simp
theorem dtTru_k {t : DE} : dtTru t = fun Γ S Q X => t Γ S (fun x S1 => truK x S1 Q) X := dtTru_eq
theorem dAnd_k {t u : DE} : dAnd t u = fun Γ S Q X => t Γ S (fun x S1 => truK x S1 fun b S2 => if b = true then u Γ S2 Q X else Q x S2) X := dAnd_eq
theorem dOr_k {t u : DE} : dOr t u = fun Γ S Q X => t Γ S (fun x S1 => truK x S1 fun b S2 => if b = true then Q x S2 else u Γ S2 Q X) X := dOr_eq
theorem dNot_k {t : DE} : dNot t = fun Γ S Q X => t Γ S (fun x S1 => truK x S1 fun b S2 => Q (.bl (!b)) S2) X := dNot_eq
def blK (x : DV) (S : Sto) (K : Bool → Sto → Prop) : Prop := match x with
  | .bl b => K b S
  | _ => False
theorem blK_bl {K : Bool → Sto → Prop} : blK (.bl p) S K = K p S := rfl
theorem dtV_k {t : DE} : dtV t = fun Γ S Q X => t Γ S (fun x S1 => blK x S1 Q) X := rfl
theorem dChain_k {f g : FO} {a b c : DE} : dChain f g a b c = fun Γ S Q X => a Γ S (fun x S1 => b Γ S1 (fun y S2 => f x y S2 fun z S3 => blK z S3 fun k S4 => if k = true then c Γ S4 (fun w S5 => g y w S5 Q) X else Q (.bl false) S4) X) X := by
  funext Γ S Q X
  unfold dChain
  congr 1
  funext x S1
  congr 1
  funext y S2
  congr 1
  funext z S3
  cases z with
  | bl k => cases k <;> simp [blK]
  | _ => simp [blK]
theorem fEq_i : fEq (.int a) (.int b) S Q = Q (.bl (decide (a = b))) S := rfl
theorem fEq_s : fEq (.str x) (.str y) S Q = Q (.bl (decide (x = y))) S := rfl
theorem fEq_b : fEq (.bl p) (.bl q) S Q = Q (.bl (decide (p = q))) S := rfl
theorem fNe_i : fNe (.int a) (.int b) S Q = Q (.bl (!decide (a = b))) S := rfl
theorem fNe_s : fNe (.str x) (.str y) S Q = Q (.bl (!decide (x = y))) S := rfl
theorem fNe_b : fNe (.bl p) (.bl q) S Q = Q (.bl (!decide (p = q))) S := rfl
theorem fLt_i : fLt (.int a) (.int b) S Q = Q (.bl (decide (a < b))) S := rfl
theorem fLe_i : fLe (.int a) (.int b) S Q = Q (.bl (decide (a ≤ b))) S := rfl
theorem fGt_i : fGt (.int a) (.int b) S Q = Q (.bl (decide (b < a))) S := rfl
theorem fGe_i : fGe (.int a) (.int b) S Q = Q (.bl (decide (b ≤ a))) S := rfl
theorem fLe_s : fLe (.str x) (.str y) S Q = Q (.bl (!decide (y.cps.toList < x.cps.toList))) S := rfl
theorem fLt_s : fLt (.str x) (.str y) S Q = Q (.bl (decide (x.cps.toList < y.cps.toList))) S := rfl
theorem fAdd_i : fAdd (.int a) (.int b) S Q = Q (.int (a + b)) S := rfl
theorem fAdd_t : fAdd (.tup ds) (.tup es) S Q = (ds.length + es.length ≤ sizeLine ∧ Q (.tup (ds ++ es)) S) := rfl
theorem fAdd_s : fAdd (.str x) (.str y) S Q = (x.length + y.length ≤ sizeLine ∧ Q (.str (x ++ y)) S) := rfl
theorem fSub_i : fSub (.int a) (.int b) S Q = Q (.int (a - b)) S := rfl
theorem fMul_i : fMul (.int a) (.int b) S Q = (((-(2 ^ 64) < a ∧ a < 2 ^ 64) ∨ (-(2 ^ 64) < b ∧ b < 2 ^ 64)) ∧ Q (.int (a * b)) S) := rfl
theorem fMod_i : fMod (.int a) (.int b) S Q = (0 < b ∧ Q (.int (a % b)) S) := rfl
theorem fDiv_i : fDiv (.int a) (.int b) S Q = ((0 < b ∧ b < 1073741824) ∧ Q (.int (a / b)) S) := rfl
theorem fPow_i : fPow (.int a) (.int b) S Q = ((0 ≤ b ∧ b ≤ 1000000 ∧ a.natAbs < 2 ^ 64) ∧ Q (.int (a ^ b.toNat)) S) := rfl
theorem fIx_0 {a : DV} : fIx (.tup (a :: ds)) (.int 0) S Q = Q a S := by simp only [fIx, atI_0]
theorem fIx_1 {a b : DV} : fIx (.tup (a :: b :: ds)) (.int 1) S Q = Q b S := by simp only [fIx, atI_1]
theorem fIx_2 {a b c : DV} : fIx (.tup (a :: b :: c :: ds)) (.int 2) S Q = Q c S := by simp only [fIx, atI_2]
theorem fIx_3 {a b c d : DV} : fIx (.tup (a :: b :: c :: d :: ds)) (.int 3) S Q = Q d S := by simp only [fIx, atI_3]
theorem fIx_4 {a b c d e : DV} : fIx (.tup (a :: b :: c :: d :: e :: ds)) (.int 4) S Q = Q e S := by simp only [fIx, atI_4]
theorem fLen_t : fLen [.tup ds] S Q = Q (.int ds.length) S := rfl
theorem fInt_i : fInt [.int a] S Q = Q (.int a) S := rfl
theorem fInt_b : fInt [.bl p] S Q = Q (.int (if p then 1 else 0)) S := rfl
theorem fAbs_i : fAbs [.int a] S Q = Q (.int (if a < 0 then -a else a)) S := rfl
theorem fMax_i : fMax [.int a, .int b] S Q = Q (.int (if b > a then b else a)) S := rfl
theorem fMin_i : fMin [.int a, .int b] S Q = Q (.int (if b < a then b else a)) S := rfl
theorem fStrI_i : fStrI [.int a] S Q = (a.natAbs.log2 < 1920 ∧ Q (.str (toString a)) S) := rfl
theorem fList_t : fList [.tup ds] S Q = ∀ p, S p = none → Q (.ref p) (S.upd p (.lst ds)) := rfl
theorem fTuple_t : fTuple [.tup ds] S Q = Q (.tup ds) S := rfl
theorem fIs_n : fIs d .non S Q = Q (.bl (isNon d)) S := rfl
theorem fIsNot_n : fIsNot d .non S Q = Q (.bl (!isNon d)) S := rfl
theorem fIn_t (h1 : flatD d = true) (h2 : ds.all flatD = true) : fIn d (.tup ds) S Q = Q (.bl (ds.any fun e => dvEq e d)) S := by
  unfold fIn dvIn inFlat
  simp only [h1, h2, Bool.and_self, if_true]
theorem fNotIn_t (h1 : flatD d = true) (h2 : ds.all flatD = true) : fNotIn d (.tup ds) S Q = Q (.bl (!ds.any fun e => dvEq e d)) S := by
  unfold fNotIn dvIn inFlat
  simp only [h1, h2, Bool.and_self, if_true]
theorem fSl_t {lo hi : Option Int} : fSl (.tup ds) lo hi S Q = Q (.tup (M.cutD ds lo hi)) S := rfl
theorem ref_ix {S : Sto} {a : Addr} {ds : List DV} {i : Int} {d : DV} {Q : QV} (e : S a = some (.lst ds)) (h : atI ds i = some d) : fIx (.ref a) (.int i) S Q = Q d S := by
  unfold fIx
  simp only [e, h]
theorem ref_len {S : Sto} {a : Addr} {ds : List DV} {Q : QV} (e : S a = some (.lst ds)) : fLen [.ref a] S Q = Q (.int ds.length) S := by
  unfold fLen seqOf
  simp only [e]
theorem ref_cat {S : Sto} {a b : Addr} {ds es : List DV} {Q : QV} (e : S a = some (.lst ds)) (e' : S b = some (.lst es)) : fAdd (.ref a) (.ref b) S Q = (ds.length + es.length ≤ sizeLine ∧ ∀ p, S p = none → Q (.ref p) (S.upd p (.lst (ds ++ es)))) := by
  unfold fAdd
  simp only [e, e']
end
end M
set_option maxHeartbeats 4000000
namespace K14
open PySem PySem.Spec PyProof.Rows L2 M
def Z (T : Addr) : Zt := zOf [T] [(T, "nodes"), (T, "wires"), (T, "loss"), (T, "most"), (T, "root")]
abbrev E0 (D : QV) (X : QX) : DEnds := { nx := fun _ S' => D .non S', rt := D, xx := fun x _ S' => X x S' }
/-! ### constants -/
@[simp] def v_SIGNED : DV := .str "signed"
@[simp] def v_SEALED : DV := .str "sealed"
@[simp] def v_SECRET : DV := .str "secret"
@[simp] def v_MOST_NODES : DV := .int 9
@[simp] def v_MOST_WIRES : DV := .int 20
@[simp] def v_LEAST_OWNER : DV := .int 10
@[simp] def v_LEAST_SEAL : DV := .int 100
@[simp] def v_MOST_LABELS : DV := .int 4
@[simp] def v_MOST_SERIAL : DV := .int 999999
@[simp] def v_OWN : DV := .tup [.str "signed", .str "sealed", .str "secret"]
@[simp] def v_GONE : DV := .str "gone"
@[simp] def v_NEVER : DV := .str "never"
@[simp] def v_READ : DV := .str "read"
@[simp] def v_FULL : DV := .str "full"
@[simp] def v_CLOSE : DV := .str "close"
@[simp] def v_NONE : DV := .str "none"
/-! ### what the judges say -/
def pInt : DV → Bool
  | .int _ => true
  | _ => false
def pNum (lo hi : Int) : DV → Bool
  | .int i => decide (lo ≤ i) && decide (i ≤ hi)
  | _ => false
def pTup (n : Int) : DV → Bool
  | .tup ds => decide ((ds.length : Int) = n)
  | _ => false
def okSign (c : Nat) : Bool := decide (97 ≤ c) && decide (c ≤ 122)
def pLabel : DV → Bool
  | .str z => decide (1 ≤ z.length) && decide (z.length ≤ 8) && !(decide (z = "signed") || decide (z = "sealed") || decide (z = "secret")) && z.cps.toList.all okSign
  | _ => false
def pLabels (lo hi : Int) : DV → Bool
  | .tup ds => decide (lo ≤ ds.length) && decide ((ds.length : Int) ≤ hi) && ds.all pLabel
  | _ => false
def pMark : DV → Bool
  | .tup [a, b, c] => pNum 0 8 a && pNum 0 999999 b && pLabels 1 4 c
  | _ => false
def pKind (w : Str) (n : Int) : DV → Bool
  | .tup ds => decide ((ds.length : Int) = n) && (match ds with
    | .str z :: _ => decide (z = w)
    | _ => false)
  | _ => false
section
variable (C_Town : Addr)
abbrev OK (S : Sto) (d : DV) : Prop := OkD [C_Town] S d
def c_is_integer : Ctr := fun ds S Q _ => match ds with
  | [d] => OK C_Town S d ∧ Q (.bl (pInt d)) S
  | _ => False
def B_is_integer (C_Town : Addr) : DS :=
 (dsRet (dAnd (dCB (fIsi (Z C_Town)) (daCons (dVar 0) (daCons (dC (.ty "int")) daNil))) (dNot (dCB (fIsi (Z C_Town)) (daCons (dVar 0) (daCons (dC (.ty "bool")) daNil))))))
theorem w_is_integer (ds : List DV) (S : Sto) (Q : QV) (X : QX) (h : c_is_integer C_Town ds S Q X) : B_is_integer C_Town (E0 Q X) (startG ["thing"] ds) S := by
  unfold c_is_integer at h
  split at h
  · rename_i d
    obtain ⟨o, q⟩ := h
    simp [B_is_integer, startG, Z, isi_int o, isi_bool o]
    cases d <;> simpa [dIsInt, dIsBl, pInt] using q
  · exact h.elim
def c_is_within : Ctr := fun ds S Q _ => match ds with
  | [d, .int lo, .int hi] => OK C_Town S d ∧ Q (.bl (pNum lo hi d)) S
  | _ => False
def B_is_within (C_Town : Addr) : DS :=
 (dsRet (dAnd (dCall (c_is_integer C_Town) (daCons (dVar 0) daNil)) (dChain fLe fLe (dVar 1) (dVar 0) (dVar 2))))
theorem w_is_within (ds : List DV) (S : Sto) (Q : QV) (X : QX) (h : c_is_within C_Town ds S Q X) : B_is_within C_Town (E0 Q X) (startG ["thing", "least", "most"] ds) S := by
  unfold c_is_within at h
  split at h
  · rename_i d lo hi
    obtain ⟨o, q⟩ := h
    simp [B_is_within, startG, c_is_integer, o]
    cases d with
    | int i =>
      simp [pInt]
      simp [pNum] at q
      by_cases hl : lo ≤ i
      · simpa [hl] using q
      · simpa [hl] using q
    | _ => simpa [pInt, pNum] using q
  · exact h.elim
def c_is_tuple_of : Ctr := fun ds S Q _ => match ds with
  | [d, .int n] => OK C_Town S d ∧ Q (.bl (pTup n d)) S
  | _ => False
def B_is_tuple_of (C_Town : Addr) : DS :=
 (dsRet (dAnd (dCB (fIsi (Z C_Town)) (daCons (dVar 0) (daCons (dC (.ty "tuple")) daNil))) (dBin fEq (dCB fLen (daCons (dVar 0) daNil)) (dVar 1))))
theorem w_is_tuple_of (ds : List DV) (S : Sto) (Q : QV) (X : QX) (h : c_is_tuple_of C_Town ds S Q X) : B_is_tuple_of C_Town (E0 Q X) (startG ["thing", "size"] ds) S := by
  unfold c_is_tuple_of at h
  split at h
  · rename_i d n
    obtain ⟨o, q⟩ := h
    simp [B_is_tuple_of, startG, Z, isi_tup o]
    cases d <;> simpa [dIsTup, pTup] using q
  · exact h.elim
def c_is_owner : Ctr := fun ds S Q _ => match ds with
  | [d] => OK C_Town S d ∧ Q (.bl (pNum 10 99 d)) S
  | _ => False
def B_is_owner (C_Town : Addr) : DS :=
 (dsRet (dCall (c_is_within C_Town) (daCons (dVar 0) (daCons (dC v_LEAST_OWNER) (daCons (dBin fSub (dC v_LEAST_SEAL) (dC (.int 1))) daNil)))))
theorem w_is_owner (ds : List DV) (S : Sto) (Q : QV) (X : QX) (h : c_is_owner C_Town ds S Q X) : B_is_owner C_Town (E0 Q X) (startG ["thing"] ds) S := by
  unfold c_is_owner at h
  split at h
  · rename_i d
    obtain ⟨o, q⟩ := h
    simpa [B_is_owner, startG, c_is_within, o] using q
  · exact h.elim
/-- wires of a town of n nodes -/
def wiresOk (n : Int) (ws : List DV) : Prop := ws.length ≤ 20 ∧ ∀ w ∈ ws, ∃ a b : Int, w = .tup [.int a, .int b] ∧ 0 ≤ a ∧ a < b ∧ b ≤ n - 1
def c_are_wires (C_Town : Addr) : Ctr := fun ds S Q _ => match ds with
  | [.tup ws, .int n] => wiresOk n ws ∧ Q (.bl true) S
  | _ => False
def B_are_wires (C_Town : Addr) : DS :=
 (dsSeq (dsIf (dtOr (dtNot (dtTru (dCB (fIsi (Z C_Town)) (daCons (dVar 0) (daCons (dC (.ty "tuple")) daNil))))) (dtV (dBin fGt (dCB fLen (daCons (dVar 0) daNil)) (dC v_MOST_WIRES))))
 (dsRet (dC (.bl false)))
 dsNext)
 (dsSeq (dsFor (diSeq (dVar 0)) (dgName 2)
 (dsSeq (dsIf (dtOr (dtNot (dtTru (dCall (c_is_tuple_of C_Town) (daCons (dVar 2) (daCons (dC (.int 2)) daNil))))) (dtOr (dtNot (dtTru (dCall (c_is_within C_Town) (daCons (dBin fIx (dVar 2) (dC (.int 0))) (daCons (dC (.int 0)) (daCons (dBin fSub (dVar 1) (dC (.int 1))) daNil)))))) (dtNot (dtTru (dCall (c_is_within C_Town) (daCons (dBin fIx (dVar 2) (dC (.int 1))) (daCons (dC (.int 0)) (daCons (dBin fSub (dVar 1) (dC (.int 1))) daNil))))))))
 (dsRet (dC (.bl false)))
 dsNext)
 (dsIf (dtV (dBin fGe (dBin fIx (dVar 2) (dC (.int 0))) (dBin fIx (dVar 2) (dC (.int 1)))))
 (dsRet (dC (.bl false)))
 dsNext)))
 (dsRet (dC (.bl true)))))
theorem w_are_wires (ds : List DV) (S : Sto) (Q : QV) (X : QX) (h : c_are_wires C_Town ds S Q X) : B_are_wires C_Town (E0 Q X) (startG ["thing", "nodes", "pair"] ds) S := by
  unfold c_are_wires at h
  split at h
  · rename_i ws n
    obtain ⟨⟨hl, hw⟩, q⟩ := h
    have okw : OK C_Town S (.tup ws) := by
      simp only [OK, OkD]
      rw [OkDs.all]
      intro w hm
      obtain ⟨a, b, rfl, _⟩ := hw w hm
      simp [OkD, OkDs]
    have h20 : ¬ (20 : Int) < ws.length := by omega
    simp [B_are_wires, startG, Z, isi_tup okw, dIsTup, h20]
    refine for_ind (fun rest Γ S' => S' = S ∧ (∃ x, Γ = [some (.tup ws), some (.int n), x]) ∧ ∀ w ∈ rest, ∃ a b : Int, w = .tup [.int a, .int b] ∧ 0 ≤ a ∧ a < b ∧ b ≤ n - 1) (fun _ _ _ _ => trivial) (fun Γ S' h => ?_) (fun d rest Γ S' K h hK => ?_) ws _ S ⟨rfl, ⟨none, rfl⟩, hw⟩
    · obtain ⟨rfl, ⟨x, rfl⟩, _⟩ := h
      simpa using q
    · obtain ⟨rfl, ⟨x, rfl⟩, hr⟩ := h
      obtain ⟨a, b, rfl, h0, h1, h2⟩ := hr d List.mem_cons_self
      have e1 : 0 ≤ b := by omega
      have e2 : a ≤ n - 1 := by omega
      have e3 : ¬ b ≤ a := by omega
      simp [c_is_tuple_of, c_is_within, OK, OkD, OkDs, pTup, pNum, h0, h2, e1, e2, e3]
      exact hK _ _ ⟨rfl, ⟨_, rfl⟩, fun w hm => hr w (List.mem_cons_of_mem _ hm)⟩
  · exact h.elim
end
theorem fld_ok (T : Addr) : (Z T).fld T "nodes" = true ∧ (Z T).fld T "wires" = true ∧ (Z T).fld T "loss" = true ∧ (Z T).fld T "most" = true ∧ (Z T).fld T "root" = true := by
  refine ⟨?_, ?_, ?_, ?_, ?_⟩ <;> simp [Z, zOf]
def townFs (n : Int) (ws : List DV) (l m r : Int) : List (Str × DV) := [("nodes", .int n), ("wires", .tup ws), ("loss", .int l), ("most", .int m), ("root", .int r)]
def c_Town__init__ (C_Town : Addr) : Ctr := fun ds S Q _ => match ds with
  | [.ref x, .int n, .tup ws, .int l, .int m, .int r] => S x = some (.ins C_Town []) ∧ (1 ≤ n ∧ n ≤ 9) ∧ wiresOk n ws ∧ (0 ≤ l ∧ l ≤ 3) ∧ (0 ≤ m ∧ m ≤ 3) ∧ (10 ≤ r ∧ r ≤ 99) ∧ Q .non (S.upd x (.ins C_Town (townFs n ws l m r)))
  | _ => False
section
variable (C_Town : Addr)
def B_Town__init__ (C_Town : Addr) : DS :=
 (dsSeq (dsIf (dtNot (dtTru (dCall (c_is_within C_Town) (daCons (dVar 1) (daCons (dC (.int 1)) (daCons (dC v_MOST_NODES) daNil))))))
 dsNo
 dsNext)
 (dsSeq (dsIf (dtNot (dtTru (dCall (c_are_wires C_Town) (daCons (dVar 2) (daCons (dVar 1) daNil)))))
 dsNo
 dsNext)
 (dsSeq (dsIf (dtNot (dtTru (dCall (c_is_within C_Town) (daCons (dVar 3) (daCons (dC (.int 0)) (daCons (dC (.int 3)) daNil))))))
 dsNo
 dsNext)
 (dsSeq (dsIf (dtNot (dtTru (dCall (c_is_within C_Town) (daCons (dVar 4) (daCons (dC (.int 0)) (daCons (dC (.int 3)) daNil))))))
 dsNo
 dsNext)
 (dsSeq (dsIf (dtNot (dtTru (dCall (c_is_owner C_Town) (daCons (dVar 5) daNil))))
 dsNo
 dsNext)
 (dsSeq (dsFld (Z C_Town) "nodes" (dVar 0) (dVar 1))
 (dsSeq (dsFld (Z C_Town) "wires" (dVar 0) (dVar 2))
 (dsSeq (dsFld (Z C_Town) "loss" (dVar 0) (dVar 3))
 (dsSeq (dsFld (Z C_Town) "most" (dVar 0) (dVar 4))
 (dsFld (Z C_Town) "root" (dVar 0) (dVar 5)))))))))))
theorem w_Town__init__ (ds : List DV) (S : Sto) (Q : QV) (X : QX) (h : c_Town__init__ C_Town ds S Q X) : B_Town__init__ C_Town (E0 Q X) (startG ["self", "nodes", "wires", "loss", "most", "root"] ds) S := by
  unfold c_Town__init__ at h
  split at h
  · rename_i x n ws l m r
    obtain ⟨e, ⟨n1, n2⟩, hw, ⟨l1, l2⟩, ⟨m1, m2⟩, ⟨r1, r2⟩, q⟩ := h
    obtain ⟨f1, f2, f3, f4, f5⟩ := fld_ok C_Town
    simp (decide := true) [B_Town__init__, startG, c_is_within, c_are_wires, c_is_owner, OK, OkD, pNum, n1, n2, hw, l1, l2, m1, m2, r1, r2, e, f1, f2, f3, f4, f5, upd_s, upd_upd2, putD]
    exact q
  · exact h.elim
/-- a town in the store -/
def townOf (T : Addr) (S : Sto) (t : Addr) : Option (Int × List DV) := match S t with
  | some (.ins C fs) => if C = T then (match fs.lookup ("nodes" : Str), fs.lookup ("wires" : Str) with
    | some (.int n), some (.tup ws) => some (n, ws)
    | _, _ => none) else none
  | _ => none
theorem townOf_some {T : Addr} {S : Sto} {t : Addr} {n : Int} {ws : List DV} (h : townOf T S t = some (n, ws)) : ∃ fs, S t = some (.ins T fs) ∧ fs.lookup ("nodes" : Str) = some (.int n) ∧ fs.lookup ("wires" : Str) = some (.tup ws) := by
  unfold townOf at h
  split at h
  · rename_i C fs e
    split at h
    · rename_i hc
      subst hc
      split at h
      · rename_i a b e1 e2
        cases h
        exact ⟨fs, e, e1, e2⟩
      · cases h
    · cases h
  · cases h
theorem town_nw {T : Addr} {S S' : Sto} {t : Addr} {p : Int × List DV} (h : townOf T S t = some p) (w : Nw S S') : townOf T S' t = some p := by
  obtain ⟨n, ws⟩ := p
  obtain ⟨fs, e, e1, e2⟩ := townOf_some h
  unfold townOf
  simp only [w _ _ e, e1, e2, if_true]
theorem town_new {T : Addr} {S : Sto} {t : Addr} {n l m r : Int} {ws : List DV} (e : S t = some (.ins T (townFs n ws l m r))) : townOf T S t = some (n, ws) := by
  unfold townOf
  rw [e]
  simp only [if_true]
  rfl
def c_is_node : Ctr := fun ds S Q _ => match ds with
  | [.ref t, d] => (match townOf C_Town S t with
    | some (n, _) => OK C_Town S d ∧ Q (.bl (pNum 0 (n - 1) d)) S
    | none => False)
  | _ => False
def B_is_node (C_Town : Addr) : DS :=
 (dsRet (dCall (c_is_within C_Town) (daCons (dVar 1) (daCons (dC (.int 0)) (daCons (dBin fSub (dFld (Z C_Town) "nodes" (dVar 0)) (dC (.int 1))) daNil)))))
theorem w_is_node (ds : List DV) (S : Sto) (Q : QV) (X : QX) (h : c_is_node C_Town ds S Q X) : B_is_node C_Town (E0 Q X) (startG ["town", "thing"] ds) S := by
  unfold c_is_node at h
  split at h
  · rename_i t d
    split at h
    · rename_i n ws et
      obtain ⟨o, q⟩ := h
      obtain ⟨fs, e, e1, e2⟩ := townOf_some et
      obtain ⟨f1, f2, f3, f4, f5⟩ := fld_ok C_Town
      simpa [B_is_node, startG, c_is_within, e, f1, e1, o] using q
    · exact h.elim
  · exact h.elim
def c_is_wire : Ctr := fun ds S Q _ => match ds with
  | [.ref t, d] => (match townOf C_Town S t with
    | some (_, ws) => OK C_Town S d ∧ Q (.bl (pNum 0 ((ws.length : Int) - 1) d)) S
    | none => False)
  | _ => False
def B_is_wire (C_Town : Addr) : DS :=
 (dsRet (dCall (c_is_within C_Town) (daCons (dVar 1) (daCons (dC (.int 0)) (daCons (dBin fSub (dCB fLen (daCons (dFld (Z C_Town) "wires" (dVar 0)) daNil)) (dC (.int 1))) daNil)))))
theorem w_is_wire (ds : List DV) (S : Sto) (Q : QV) (X : QX) (h : c_is_wire C_Town ds S Q X) : B_is_wire C_Town (E0 Q X) (startG ["town", "thing"] ds) S := by
  unfold c_is_wire at h
  split at h
  · rename_i t d
    split at h
    · rename_i n ws et
      obtain ⟨o, q⟩ := h
      obtain ⟨fs, e, e1, e2⟩ := townOf_some et
      obtain ⟨f1, f2, f3, f4, f5⟩ := fld_ok C_Town
      simpa [B_is_wire, startG, c_is_within, e, f2, e2, o] using q
    · exact h.elim
  · exact h.elim
theorem str_a : (Str.ofString "a").cps = #[97] := by decide
theorem str_z : (Str.ofString "z").cps = #[122] := by decide
def sgn : DV → Bool
  | .str z => z.cps.toList.all okSign
  | _ => false
def c_is_label : Ctr := fun ds S Q _ => match ds with
  | [d] => OK C_Town S d ∧ ∀ S', Nw S S' → Q (.bl (pLabel d)) S'
  | _ => False
def B_is_label (C_Town : Addr) : DS :=
 (dsSeq (dsIf (dtOr (dtNot (dtTru (dCB (fIsi (Z C_Town)) (daCons (dVar 0) (daCons (dC (.ty "str")) daNil))))) (dtOr (dtNot (dtV (dChain fLe fLe (dC (.int 1)) (dCB fLen (daCons (dVar 0) daNil)) (dC (.int 8))))) (dtV (dBin fIn (dVar 0) (dC v_OWN)))))
 (dsRet (dC (.bl false)))
 dsNext)
 (dsRet (dCB fAll (daCons (dComp (diSeq (dVar 0)) [1] (dgName 1) dtYes (dChain fLe fLe (dC (.str "a")) (dVar 1) (dC (.str "z")))) daNil))))
theorem w_is_label (ds : List DV) (S : Sto) (Q : QV) (X : QX) (h : c_is_label C_Town ds S Q X) : B_is_label C_Town (E0 Q X) (startG ["thing", "sign"] ds) S := by
  unfold c_is_label at h
  split at h
  · rename_i d
    obtain ⟨o, q⟩ := h
    cases d with
    | str z =>
      have hz : z.length ≤ sizeLine := by simpa [OkD] using o
      have hz' : z.length ≤ 16777216 := hz
      simp [B_is_label, startG, Z, isi_str o, dIsStr, hz']
      by_cases h1 : 1 ≤ z.length
      · by_cases h2 : z.length ≤ 8
        · have h1' : (1 : Int) ≤ z.length := by omega
          have h2' : (z.length : Int) ≤ 8 := by omega
          have h3' : ¬ (8 : Int) < z.length := by omega
          simp [h1', h3']
          by_cases hn : z = "signed" ∨ z = "sealed" ∨ z = "secret"
          · have hn2 : Str.ofString "signed" = z ∨ Str.ofString "sealed" = z ∨ Str.ofString "secret" = z := by
              rcases hn with e | e | e <;> simp [e]
            have pl : pLabel (.str z) = false := by
              rcases hn with e | e | e <;> simp [pLabel, e]
            rw [pl] at q
            rw [if_pos hn2]
            exact q S (Nw.refl S)
          · have hn2 : ¬ (Str.ofString "signed" = z ∨ Str.ofString "sealed" = z ∨ Str.ofString "secret" = z) := by
              rintro (e | e | e) <;> simp [← e] at hn
            have pl : pLabel (.str z) = z.cps.toList.all okSign := by
              simp [not_or] at hn
              simp [pLabel, h1, h2, hn]
            rw [pl] at q
            rw [if_neg hn2]
            intro p hp
            refine comp_map (fun d => .bl (sgn d)) hp (by rw [List.length_map]; simpa [Str.length] using hz') (fun _ _ => trivial) (fun d hd S' K n hK => ?_) (fun S' n e => ?_)
            · obtain ⟨c, hc, rfl⟩ := List.mem_map.mp hd
              have hK' := hK S' (Nw.refl _)
              simp [str_a, str_z, sgn, okSign] at hK' ⊢
              simp only [lt1, le1]
              by_cases c1 : 97 ≤ c
              · have e2 : (!decide (122 < c)) = decide (c ≤ 122) := by by_cases c2 : c ≤ 122 <;> simp [c2] <;> omega
                rw [e2]
                simp [c1] at hK'
                exact .inr ⟨c1, hK'⟩
              · simp [c1] at hK'
                exact .inl ⟨by omega, hK'⟩
            · rw [all_map e]
              have := q S' n
              rw [List.all_map]
              simpa [Function.comp_def, sgn] using this
        · have h2' : (8 : Int) < z.length := by omega
          have h1' : (1 : Int) ≤ z.length := by omega
          simpa [h1', h2', pLabel, h2] using q S (Nw.refl S)
      · have h1' : ¬ (1 : Int) ≤ z.length := by omega
        simpa [h1', pLabel, h1] using q S (Nw.refl S)
    | _ => simpa [B_is_label, startG, Z, isi_str o, dIsStr, pLabel] using q S (Nw.refl S)
  · exact h.elim
def c_are_labels : Ctr := fun ds S Q _ => match ds with
  | [d, .int lo, .int hi] => OK C_Town S d ∧ (∀ ds, d = .tup ds → ds.length ≤ sizeLine) ∧ ∀ S', Nw S S' → Q (.bl (pLabels lo hi d)) S'
  | _ => False
def B_are_labels (C_Town : Addr) : DS :=
 (dsRet (dAnd (dCB (fIsi (Z C_Town)) (daCons (dVar 0) (daCons (dC (.ty "tuple")) daNil))) (dAnd (dChain fLe fLe (dVar 1) (dCB fLen (daCons (dVar 0) daNil)) (dVar 2)) (dCB fAll (daCons (dComp (diSeq (dVar 0)) [3] (dgName 3) dtYes (dCall (c_is_label C_Town) (daCons (dVar 3) daNil))) daNil)))))
theorem w_are_labels (ds : List DV) (S : Sto) (Q : QV) (X : QX) (h : c_are_labels C_Town ds S Q X) : B_are_labels C_Town (E0 Q X) (startG ["thing", "least", "most", "one"] ds) S := by
  unfold c_are_labels at h
  split at h
  · rename_i d lo hi
    obtain ⟨o, hl, q⟩ := h
    cases d with
    | tup ds =>
      simp [B_are_labels, startG, Z, isi_tup o, dIsTup]
      have o' : ∀ d ∈ ds, OK C_Town S d := by
        have : OkDs [C_Town] S ds := by simpa only [OK, OkD] using o
        exact OkDs.all.mp this
      by_cases h1 : lo ≤ ds.length
      · by_cases h2 : (ds.length : Int) ≤ hi
        · simp [h1, h2]
          intro p hp
          refine comp_map (fun d => .bl (pLabel d)) hp (hl ds rfl) (fun _ _ => trivial) (fun d hd S' K n hK => ?_) (fun S' n e => ?_)
          · simp [c_is_label]
            exact ⟨(o' d hd).mono n.ext, hK⟩
          · rw [all_map e]
            simpa [pLabels, h1, h2] using q S' n
        · simpa [h1, h2, pLabels] using q S (Nw.refl S)
      · simpa [h1, pLabels] using q S (Nw.refl S)
    | _ => simpa [B_are_labels, startG, Z, isi_tup o, dIsTup, pLabels] using q S (Nw.refl S)
  · exact h.elim
def c_is_name : Ctr := fun ds S Q _ => match ds with
  | [d] => OK C_Town S d ∧ (∀ ds, d = .tup ds → ds.length ≤ sizeLine) ∧ ∀ S', Nw S S' → Q (.bl (pLabels 1 4 d)) S'
  | _ => False
def B_is_name (C_Town : Addr) : DS :=
 (dsRet (dCall (c_are_labels C_Town) (daCons (dVar 0) (daCons (dC (.int 1)) (daCons (dC v_MOST_LABELS) daNil)))))
theorem w_is_name (ds : List DV) (S : Sto) (Q : QV) (X : QX) (h : c_is_name C_Town ds S Q X) : B_is_name C_Town (E0 Q X) (startG ["thing"] ds) S := by
  unfold c_is_name at h
  split at h
  · rename_i d
    simpa [B_is_name, startG, c_are_labels] using h
  · exact h.elim
def c_has_word : Ctr := fun ds S Q _ => match ds with
  | [d, .str w, .int n] => OK C_Town S d ∧ 0 < n ∧ Q (.bl (pKind w n d)) S
  | _ => False
theorem ok_head {C_Town : Addr} {S : Sto} {d : DV} {ds : List DV} (o : OK C_Town S (.tup (d :: ds))) : OK C_Town S d := by
  simp only [OK, OkD, OkDs] at o
  exact o.1
def B_has_word (C_Town : Addr) : DS :=
 (dsRet (dAnd (dCall (c_is_tuple_of C_Town) (daCons (dVar 0) (daCons (dVar 2) daNil))) (dAnd (dCB (fIsi (Z C_Town)) (daCons (dBin fIx (dVar 0) (dC (.int 0))) (daCons (dC (.ty "str")) daNil))) (dBin fEq (dBin fIx (dVar 0) (dC (.int 0))) (dVar 1)))))
theorem w_has_word (ds : List DV) (S : Sto) (Q : QV) (X : QX) (h : c_has_word C_Town ds S Q X) : B_has_word C_Town (E0 Q X) (startG ["thing", "word", "size"] ds) S := by
  unfold c_has_word at h
  split at h
  · rename_i d w n
    obtain ⟨o, hn, q⟩ := h
    cases d with
    | tup ds =>
      simp [B_has_word, startG, c_is_tuple_of, o, pTup]
      by_cases h1 : (ds.length : Int) = n
      · cases ds with
        | nil => simp at h1; omega
        | cons d ds =>
          have od := ok_head o
          have h1' : (ds.length : Int) + 1 = n := by simpa using h1
          simp [h1', Z, isi_str od]
          cases d <;> simpa [dIsStr, pKind, h1'] using q
      · simpa [h1, pKind] using q
    | _ => simpa [B_has_word, startG, c_is_tuple_of, o, pTup, pKind] using q
  · exact h.elim
def c_is_serial : Ctr := fun ds S Q _ => match ds with
  | [d] => OK C_Town S d ∧ Q (.bl (pNum 0 999999 d)) S
  | _ => False
def B_is_serial (C_Town : Addr) : DS :=
 (dsRet (dCall (c_is_within C_Town) (daCons (dVar 0) (daCons (dC (.int 0)) (daCons (dC v_MOST_SERIAL) daNil)))))
theorem w_is_serial (ds : List DV) (S : Sto) (Q : QV) (X : QX) (h : c_is_serial C_Town ds S Q X) : B_is_serial C_Town (E0 Q X) (startG ["thing"] ds) S := by
  unfold c_is_serial at h
  split at h
  · rename_i d
    simpa [B_is_serial, startG, c_is_within] using h
  · exact h.elim
theorem ok_mem {C_Town : Addr} {S : Sto} {ds : List DV} (o : OK C_Town S (.tup ds)) : ∀ d ∈ ds, OK C_Town S d := by
  have : OkDs [C_Town] S ds := by simpa only [OK, OkD] using o
  exact OkDs.all.mp this
mutual
def Sh : DV → Prop
  | .tup ds => ds.length ≤ 100000 ∧ Shs ds
  | _ => True
def Shs : List DV → Prop
  | [] => True
  | d :: ds => Sh d ∧ Shs ds
end
theorem Shs.all : ∀ {ds : List DV}, Shs ds ↔ ∀ d ∈ ds, Sh d
  | [] => by simp [Shs]
  | d :: ds => by simp [Shs, Shs.all]
theorem sh_mem {ds : List DV} (h : Sh (.tup ds)) : ∀ d ∈ ds, Sh d := by
  simp only [Sh] at h
  exact Shs.all.mp h.2
theorem sh_len {d : DV} (h : Sh d) : ∀ ds, d = .tup ds → ds.length ≤ sizeLine := by
  rintro ds rfl
  simp only [Sh] at h
  exact Nat.le_trans h.1 (by decide)
def c_is_mark : Ctr := fun ds S Q _ => match ds with
  | [d] => OK C_Town S d ∧ Sh d ∧ ∀ S', Nw S S' → Q (.bl (pMark d)) S'
  | _ => False
theorem tup3 {ds : List DV} (h : (ds.length : Int) = 3) : ∃ a b c, ds = [a, b, c] := by
  match ds, h with
  | [a, b, c], _ => exact ⟨a, b, c, rfl⟩
  | [], h => simp at h
  | [_], h => simp at h
  | [_, _], h => simp at h
  | _ :: _ :: _ :: _ :: _, h => simp at h; omega
theorem pMark_not3 {ds : List DV} (h : ¬ (ds.length : Int) = 3) : pMark (.tup ds) = false := by
  unfold pMark
  split
  · rename_i e
    cases e
    simp at h
  · rfl
def B_is_mark (C_Town : Addr) : DS :=
 (dsSeq (dsIf (dtOr (dtNot (dtTru (dCall (c_is_tuple_of C_Town) (daCons (dVar 0) (daCons (dC (.int 3)) daNil))))) (dtNot (dtTru (dCall (c_is_within C_Town) (daCons (dBin fIx (dVar 0) (dC (.int 0))) (daCons (dC (.int 0)) (daCons (dBin fSub (dC v_MOST_NODES) (dC (.int 1))) daNil)))))))
 (dsRet (dC (.bl false)))
 dsNext)
 (dsRet (dAnd (dCall (c_is_serial C_Town) (daCons (dBin fIx (dVar 0) (dC (.int 1))) daNil)) (dCall (c_is_name C_Town) (daCons (dBin fIx (dVar 0) (dC (.int 2))) daNil)))))
theorem w_is_mark (ds : List DV) (S : Sto) (Q : QV) (X : QX) (h : c_is_mark C_Town ds S Q X) : B_is_mark C_Town (E0 Q X) (startG ["thing"] ds) S := by
  unfold c_is_mark at h
  split at h
  · rename_i d
    obtain ⟨o, sh, q⟩ := h
    cases d with
    | tup ds =>
      by_cases h3 : (ds.length : Int) = 3
      · obtain ⟨a, b, c, rfl⟩ := tup3 h3
        have oa := ok_mem o a (by simp)
        have ob := ok_mem o b (by simp)
        have oc := ok_mem o c (by simp)
        have sc := sh_len (sh_mem sh c (by simp))
        simp [B_is_mark, startG, c_is_tuple_of, c_is_within, c_is_serial, c_is_name, o, pTup, oa, ob, oc]
        by_cases h1 : pNum 0 8 a = true
        · by_cases h2 : pNum 0 999999 b = true
          · simp [h1, h2]
            exact ⟨sc, fun S' n => by simpa [pMark, h1, h2] using q S' n⟩
          · simpa [h1, h2, pMark] using q S (Nw.refl S)
        · simpa [h1, pMark] using q S (Nw.refl S)
      · simpa [B_is_mark, startG, c_is_tuple_of, o, pTup, h3, pMark_not3 h3] using q S (Nw.refl S)
    | _ => simpa [B_is_mark, startG, c_is_tuple_of, o, pTup, pMark] using q S (Nw.refl S)
  · exact h.elim
end
end K14
set_option maxHeartbeats 4000000
namespace K14
open PySem PySem.Spec PyProof.Rows L2 M
/-! ### what is a statement -/
def memW (nd : Int) : DV → Bool
  | .tup ds => ds.any fun d => dvEq d (.int nd)
  | _ => false
def markIs (nd : Int) : DV → Bool
  | .tup (.int a :: _) => decide (a = nd)
  | _ => false
def pRow (ws : List DV) (nd : Int) : List DV → Bool
  | [.str k, m] => pMark m && ((decide (k = "close") || decide (k = "none")) && markIs nd m || (decide (k = "read") || decide (k = "full")))
  | [.str k, m, x] => pMark m && (decide (k = "gone") || decide (k = "never")) && pNum 0 ((ws.length : Int) - 1) x && (match x with
    | .int i => (match atI ws i with
      | some w => memW nd w
      | none => false)
    | _ => false)
  | _ => false
def pSaid (n : Int) (ws : List DV) : DV → Bool
  | .tup [.str w, nd, row] => decide (w = "signed") && pNum 0 (n - 1) nd && (match nd, row with
    | .int nd, .tup row => pRow ws nd row
    | _, _ => false)
  | _ => false
theorem pKind_shape {w : Str} {d : DV} (h : pKind w 3 d = true) : ∃ a b, d = .tup [.str w, a, b] := by
  unfold pKind at h
  split at h
  · rename_i ds
    simp only [Bool.and_eq_true, decide_eq_true_eq] at h
    obtain ⟨a, b, c, rfl⟩ := tup3 h.1
    have h2 := h.2
    split at h2
    · rename_i e
      cases e
      have := of_decide_eq_true h2
      subst this
      exact ⟨b, c, rfl⟩
    · cases h2
  · cases h
theorem pNum_int {lo hi : Int} {d : DV} (h : pNum lo hi d = true) : ∃ i, d = .int i ∧ lo ≤ i ∧ i ≤ hi := by
  unfold pNum at h
  split at h
  · simp only [Bool.and_eq_true, decide_eq_true_eq] at h
    exact ⟨_, rfl, h⟩
  · cases h
theorem pMark_shape {d : DV} (h : pMark d = true) : ∃ (a : Int) (b c : DV), d = .tup [.int a, b, c] := by
  unfold pMark at h
  split at h
  · rename_i a b c
    simp only [Bool.and_eq_true] at h
    obtain ⟨i, rfl, _⟩ := pNum_int h.1.1
    exact ⟨i, b, c, rfl⟩
  · cases h
theorem said_kind {n : Int} {ws : List DV} {d : DV} (h : pKind "signed" 3 d = false) : pSaid n ws d = false := by
  cases e : pSaid n ws d with
  | false => rfl
  | true =>
    unfold pSaid at e
    split at e
    · simp only [Bool.and_eq_true, decide_eq_true_eq] at e
      rw [← h]
      simp [pKind, e.1.1]
    · cases e
theorem wire_flat {n : Int} {ws : List DV} (h : wiresOk n ws) {i : Int} (h0 : 0 ≤ i) (h1 : i ≤ (ws.length : Int) - 1) : ∃ a b, atI ws i = some (.tup [.int a, .int b]) := by
  obtain ⟨w, hm, e⟩ := atI_mem (l := ws) h0 (by omega)
  obtain ⟨a, b, rfl, _⟩ := h.2 w hm
  exact ⟨a, b, e⟩
section
variable (C_Town : Addr)
def c_statement_of : Ctr := fun ds S Q _ => match ds with
  | [.ref t, d] => ∃ n ws, townOf C_Town S t = some (n, ws) ∧ wiresOk n ws ∧ OK C_Town S d ∧ Sh d ∧ ∀ S' r, Nw S S' → M.isNon r = (!pSaid n ws d) → Q r S'
  | _ => False
theorem nin23 {k : Nat} : ((2 : Int) == (k : Int) || ((3 : Int) == (k : Int))) = (decide (k = 2) || decide (k = 3)) := by
  have h1 : ((2 : Int) == (k : Int)) = decide (k = 2) := by
    rw [Bool.eq_iff_iff]; simp; omega
  have h2 : ((3 : Int) == (k : Int)) = decide (k = 3) := by
    rw [Bool.eq_iff_iff]; simp; omega
  rw [h1, h2]
theorem pRow_not {ws : List DV} {nd : Int} {row : List DV} (h2 : row.length ≠ 2) (h3 : row.length ≠ 3) : pRow ws nd row = false := by
  unfold pRow
  split
  · simp at h2
  · simp at h3
  · rfl
theorem any_mem {nd : Int} {a b : Int} : ([DV.int a, DV.int b].any fun d => dvEq d (.int nd)) = memW nd (.tup [.int a, .int b]) := rfl
def B_statement_of (C_Town : Addr) : DS :=
 (dsSeq (dsIf (dtOr (dtNot (dtTru (dCall (c_has_word C_Town) (daCons (dVar 1) (daCons (dC v_SIGNED) (daCons (dC (.int 3)) daNil)))))) (dtOr (dtNot (dtTru (dCall (c_is_node C_Town) (daCons (dVar 0) (daCons (dBin fIx (dVar 1) (dC (.int 1))) daNil))))) (dtNot (dtTru (dCB (fIsi (Z C_Town)) (daCons (dBin fIx (dVar 1) (dC (.int 2))) (daCons (dC (.ty "tuple")) daNil)))))))
 (dsRet (dC .non))
 dsNext)
 (dsSeq (dsPar 2 3 (daCons (dBin fIx (dVar 1) (dC (.int 1))) (daCons (dBin fIx (dVar 1) (dC (.int 2))) daNil)))
 (dsSeq (dsIf (dtOr (dtV (dBin fNotIn (dCB fLen (daCons (dVar 3) daNil)) (dTup (daCons (dC (.int 2)) (daCons (dC (.int 3)) daNil))))) (dtOr (dtNot (dtTru (dCB (fIsi (Z C_Town)) (daCons (dBin fIx (dVar 3) (dC (.int 0))) (daCons (dC (.ty "str")) daNil))))) (dtNot (dtTru (dCall (c_is_mark C_Town) (daCons (dBin fIx (dVar 3) (dC (.int 1))) daNil))))))
 (dsRet (dC .non))
 dsNext)
 (dsSeq (dsIf (dtV (dBin fEq (dCB fLen (daCons (dVar 3) daNil)) (dC (.int 3))))
 (dsSeq (dsIf (dtOr (dtV (dBin fNotIn (dBin fIx (dVar 3) (dC (.int 0))) (dTup (daCons (dC v_GONE) (daCons (dC v_NEVER) daNil))))) (dtOr (dtNot (dtTru (dCall (c_is_wire C_Town) (daCons (dVar 0) (daCons (dBin fIx (dVar 3) (dC (.int 2))) daNil))))) (dtV (dBin fNotIn (dVar 2) (dBin fIx (dFld (Z C_Town) "wires" (dVar 0)) (dBin fIx (dVar 3) (dC (.int 2))))))))
 (dsRet (dC .non))
 dsNext)
 (dsRet (dTup (daCons (dVar 2) (daCons (dBin fIx (dVar 3) (dC (.int 0))) (daCons (dBin fIx (dVar 3) (dC (.int 1))) (daCons (dBin fIx (dVar 3) (dC (.int 2))) daNil)))))))
 dsNext)
 (dsSeq (dsIf (dtV (dBin fIn (dBin fIx (dVar 3) (dC (.int 0))) (dTup (daCons (dC v_CLOSE) (daCons (dC v_NONE) daNil)))))
 (dsRet (dIf (dtV (dBin fEq (dBin fIx (dBin fIx (dVar 3) (dC (.int 1))) (dC (.int 0))) (dVar 2))) (dTup (daCons (dVar 2) (daCons (dBin fIx (dVar 3) (dC (.int 0))) (daCons (dBin fIx (dVar 3) (dC (.int 1))) (daCons (dC .non) daNil))))) (dC .non)))
 dsNext)
 (dsRet (dIf (dtV (dBin fIn (dBin fIx (dVar 3) (dC (.int 0))) (dTup (daCons (dC v_READ) (daCons (dC v_FULL) daNil))))) (dTup (daCons (dVar 2) (daCons (dBin fIx (dVar 3) (dC (.int 0))) (daCons (dBin fIx (dVar 3) (dC (.int 1))) (daCons (dC .non) daNil))))) (dC .non))))))))
theorem w_statement_of (ds : List DV) (S : Sto) (Q : QV) (X : QX) (h : c_statement_of C_Town ds S Q X) : B_statement_of C_Town (E0 Q X) (startG ["town", "thing", "node", "row"] ds) S := by
  unfold c_statement_of at h
  split at h
  · rename_i t d
    obtain ⟨n, ws, et, wo, o, sh, q⟩ := h
    obtain ⟨fs, es, e1, e2⟩ := townOf_some et
    obtain ⟨f1, f2, f3, f4, f5⟩ := fld_ok C_Town
    have f2' := f2
    simp only [Z] at f2'
    cases hk : pKind "signed" 3 d with
    | false => simpa [B_statement_of, startG, c_has_word, o, hk] using q S .non (Nw.refl S) (by simp [M.isNon, said_kind hk])
    | true =>
      obtain ⟨nd, row, rfl⟩ := pKind_shape hk
      have ond := ok_mem o nd (by simp)
      have orow := ok_mem o row (by simp)
      have srow := sh_mem sh row (by simp)
      cases hn : pNum 0 (n - 1) nd with
      | false => simpa [B_statement_of, startG, c_has_word, c_is_node, o, hk, et, ond, hn] using q S .non (Nw.refl S) (by simp [M.isNon, pSaid, hn])
      | true =>
        obtain ⟨nd, rfl, n0, n1⟩ := pNum_int hn
        simp [B_statement_of, startG, c_has_word, c_is_node, o, hk, ond, et, hn, Z, isi_tup orow]
        cases row with
        | tup row =>
          simp [dIsTup]
          have q0 : pRow ws nd row = false → Q .non S := fun hr => q S .non (Nw.refl S) (by simp [M.isNon, pSaid, hr])
          by_cases h2 : row.length = 2
          · obtain ⟨k, m, rfl⟩ : ∃ k m, row = [k, m] := by
              match row, h2 with
              | [k, m], _ => exact ⟨k, m, rfl⟩
            have ok := ok_mem orow k (by simp)
            have om := ok_mem orow m (by simp)
            have sm := sh_mem srow m (by simp)
            cases k with
            | str k =>
              simp [isi_str ok, dIsStr, c_is_mark]
              refine ⟨om, sm, fun S' n' => ?_⟩
              have qr : ∀ r, M.isNon r = (!pRow ws nd [.str k, m]) → Q r S' := fun r hr => q S' r n' (by rw [hr]; simp [pSaid, hn])
              cases hm : pMark m with
              | false => simpa using qr .non (by simp [M.isNon, pRow, hm])
              | true =>
                obtain ⟨a, b, c, rfl⟩ := pMark_shape hm
                by_cases c1 : k = "close"
                · subst c1
                  by_cases c3 : a = nd
                  · subst c3; simpa using qr _ (by simp [M.isNon, pRow, hm, markIs])
                  · simpa [c3] using qr .non (by simp (decide := true) [M.isNon, pRow, hm, markIs, c3])
                · by_cases c2 : k = "none"
                  · subst c2
                    by_cases c3 : a = nd
                    · subst c3; simpa using qr _ (by simp [M.isNon, pRow, hm, markIs])
                    · simpa [c3] using qr .non (by simp (decide := true) [M.isNon, pRow, hm, markIs, c3])
                  · have c1' : ¬ Str.ofString "close" = k := fun e => c1 e.symm
                    have c2' : ¬ Str.ofString "none" = k := fun e => c2 e.symm
                    by_cases c4 : k = "read"
                    · subst c4; simpa [c1', c2'] using qr _ (by simp [M.isNon, pRow, hm])
                    · by_cases c5 : k = "full"
                      · subst c5; simpa [c1', c2'] using qr _ (by simp [M.isNon, pRow, hm])
                      · have c4' : ¬ Str.ofString "read" = k := fun e => c4 e.symm
                        have c5' : ¬ Str.ofString "full" = k := fun e => c5 e.symm
                        simpa [c1', c2', c4', c5'] using qr .non (by simp [M.isNon, pRow, hm, c1, c2, c4, c5])
            | _ => simpa [isi_str ok, dIsStr] using q0 (by simp [pRow])
          · by_cases h3 : row.length = 3
            · obtain ⟨k, m, x, rfl⟩ : ∃ k m x, row = [k, m, x] := by
                match row, h3 with
                | [k, m, x], _ => exact ⟨k, m, x, rfl⟩
              have ok := ok_mem orow k (by simp)
              have om := ok_mem orow m (by simp)
              have ox := ok_mem orow x (by simp)
              have sm := sh_mem srow m (by simp)
              cases k with
              | str k =>
                simp [isi_str ok, dIsStr, c_is_mark]
                refine ⟨om, sm, fun S' n' => ?_⟩
                have qr : ∀ r, M.isNon r = (!pRow ws nd [.str k, m, x]) → Q r S' := fun r hr => q S' r n' (by rw [hr]; simp [pSaid, hn])
                cases hm : pMark m with
                | false => simpa using qr .non (by simp [M.isNon, pRow, hm])
                | true =>
                  have et' := town_nw et n'
                  have es' := n' _ _ es
                  by_cases c1 : Str.ofString "gone" = k ∨ Str.ofString "never" = k
                  · have c1k : (decide (k = "gone") || decide (k = "never")) = true := by
                      rcases c1 with e | e <;> simp [← e]
                    have c1' : (Str.ofString "gone" == k || Str.ofString "never" == k) = true := by
                      rcases c1 with e | e <;> simp [← e]
                    have ox' : OK C_Town S' x := ox.mono n'.ext
                    cases hx : pNum 0 ((ws.length : Int) - 1) x with
                    | false => simpa [c1, c_is_wire, et', ox', hx] using qr .non (by simp [M.isNon, pRow, hx])
                    | true =>
                      obtain ⟨i, rfl, i0, i1⟩ := pNum_int hx
                      obtain ⟨a, b, ea⟩ := wire_flat wo i0 i1
                      have hw : pRow ws nd [.str k, m, .int i] = memW nd (.tup [.int a, .int b]) := by
                        simp only [pRow, hm, c1k, hx, ea, Bool.true_and, Bool.and_true]
                      rw [hw] at qr
                      simp [c1, c_is_wire, et', ox', hx, es', f2', e2, ea]
                      by_cases c3 : a = nd ∨ b = nd
                      · have : memW nd (.tup [.int a, .int b]) = true := by
                          unfold memW
                          rcases c3 with e | e <;> simp [e]
                        rw [this] at qr
                        simpa [c3, f2'] using qr (.tup [.int nd, .str k, m, .int i]) (by simp [M.isNon])
                      · have : memW nd (.tup [.int a, .int b]) = false := by
                          simp [memW]
                          exact ⟨fun e => c3 (.inl e), fun e => c3 (.inr e)⟩
                        rw [this] at qr
                        simpa [c3, f2'] using qr .non (by simp [M.isNon])
                  · have c1k : (decide (k = "gone") || decide (k = "never")) = false := by
                      simp only [not_or] at c1
                      have h1 : ¬ k = Str.ofString "gone" := fun e => c1.1 e.symm
                      have h2 : ¬ k = Str.ofString "never" := fun e => c1.2 e.symm
                      simp [h1, h2]
                    simpa [c1] using qr .non (by simp only [M.isNon, pRow, c1k, Bool.and_false, Bool.false_and, Bool.not_false])
              | _ => simpa [isi_str ok, dIsStr] using q0 (by simp [pRow])
            · have h2' : ¬ (2 : Int) = row.length := by omega
              have h3' : ¬ (3 : Int) = row.length := by omega
              simpa [h2', h3'] using q0 (pRow_not h2 h3)
        | _ => simpa [dIsTup] using q S .non (Nw.refl S) (by simp [M.isNon, pSaid])
  · exact h.elim
def c_is_statement : Ctr := fun ds S Q _ => match ds with
  | [.ref t, d] => ∃ n ws, townOf C_Town S t = some (n, ws) ∧ wiresOk n ws ∧ OK C_Town S d ∧ Sh d ∧ ∀ S', Nw S S' → Q (.bl (pSaid n ws d)) S'
  | _ => False
def B_is_statement (C_Town : Addr) : DS :=
 (dsRet (dBin fIsNot (dCall (c_statement_of C_Town) (daCons (dVar 0) (daCons (dVar 1) daNil))) (dC .non)))
theorem w_is_statement (ds : List DV) (S : Sto) (Q : QV) (X : QX) (h : c_is_statement C_Town ds S Q X) : B_is_statement C_Town (E0 Q X) (startG ["town", "thing"] ds) S := by
  unfold c_is_statement at h
  split at h
  · rename_i t d
    obtain ⟨n, ws, et, wo, o, sh, q⟩ := h
    simp [B_is_statement, startG, c_statement_of]
    refine ⟨n, ws, et, wo, o, sh, fun S' r n' hr => ?_⟩
    have := q S' n'
    rw [show pSaid n ws d = !M.isNon r by rw [hr, Bool.not_not]] at this
    simpa [M.isNon] using this
  · exact h.elim
end
end K14
set_option maxHeartbeats 4000000
namespace K14
open PySem PySem.Spec PyProof.Rows L2 M
/-! ### the law's own judges -/
theorem abc_cps : (Str.ofString "abcdefghijklmnopqrstuvwxyz").cps = #[97,98,99,100,101,102,103,104,105,106,107,108,109,110,111,112,113,114,115,116,117,118,119,120,121,122] := by decide +kernel
theorem in_abc (c : Nat) : decide (c ∈ (Str.ofString "abcdefghijklmnopqrstuvwxyz").cps.toList) = okSign c := by
  rw [abc_cps, Bool.eq_iff_iff]
  simp only [okSign, decide_eq_true_eq, Bool.and_eq_true, List.mem_cons, List.not_mem_nil, or_false]
  omega
section
variable (C_Town : Addr)
def c__law_is_int : Ctr := c_is_integer C_Town
def B__law_is_int (C_Town : Addr) : DS :=
 (dsRet (dAnd (dCB (fIsi (Z C_Town)) (daCons (dVar 0) (daCons (dC (.ty "int")) daNil))) (dNot (dCB (fIsi (Z C_Town)) (daCons (dVar 0) (daCons (dC (.ty "bool")) daNil))))))
theorem w__law_is_int (ds : List DV) (S : Sto) (Q : QV) (X : QX) (h : c__law_is_int C_Town ds S Q X) : B__law_is_int C_Town (E0 Q X) (startG ["thing"] ds) S := w_is_integer C_Town ds S Q X h
def c__law_is_number : Ctr := fun ds S Q _ => match ds with
  | [d, .int n] => OK C_Town S d ∧ Q (.bl (pNum 0 (n - 1) d)) S
  | _ => False
def B__law_is_number (C_Town : Addr) : DS :=
 (dsRet (dAnd (dCall (c__law_is_int C_Town) (daCons (dVar 0) daNil)) (dChain fLe fLt (dC (.int 0)) (dVar 0) (dVar 1))))
theorem w__law_is_number (ds : List DV) (S : Sto) (Q : QV) (X : QX) (h : c__law_is_number C_Town ds S Q X) : B__law_is_number C_Town (E0 Q X) (startG ["thing", "below"] ds) S := by
  unfold c__law_is_number at h
  split at h
  · rename_i d n
    obtain ⟨o, q⟩ := h
    simp [B__law_is_number, startG, c__law_is_int, c_is_integer, o]
    cases d with
    | int i =>
      have e : decide (i ≤ n - 1) = decide (i < n) := by rw [Bool.eq_iff_iff]; simp; omega
      simp [pNum, e] at q
      by_cases hl : 0 ≤ i
      · simpa [hl, pInt] using q
      · simpa [hl, pInt] using q
    | _ => simpa [pInt, pNum] using q
  · exact h.elim
def c__law_is_label : Ctr := c_is_label C_Town
def B__law_is_label (C_Town : Addr) : DS :=
 (dsSeq (dsIf (dtOr (dtNot (dtTru (dCB (fIsi (Z C_Town)) (daCons (dVar 0) (daCons (dC (.ty "str")) daNil))))) (dtOr (dtNot (dtV (dChain fLe fLe (dC (.int 1)) (dCB fLen (daCons (dVar 0) daNil)) (dC (.int 8))))) (dtV (dBin fIn (dVar 0) (dTup (daCons (dC (.str "secret")) (daCons (dC (.str "signed")) (daCons (dC (.str "sealed")) daNil))))))))
 (dsRet (dC (.bl false)))
 dsNext)
 (dsRet (dCB fAll (daCons (dComp (diSeq (dVar 0)) [1] (dgName 1) dtYes (dBin fIn (dVar 1) (dC (.str "abcdefghijklmnopqrstuvwxyz")))) daNil))))
theorem w__law_is_label (ds : List DV) (S : Sto) (Q : QV) (X : QX) (h : c__law_is_label C_Town ds S Q X) : B__law_is_label C_Town (E0 Q X) (startG ["thing", "sign"] ds) S := by
  unfold c__law_is_label c_is_label at h
  split at h
  · rename_i d
    obtain ⟨o, q⟩ := h
    cases d with
    | str z =>
      have hz : z.length ≤ sizeLine := by simpa [OkD] using o
      have hz' : z.length ≤ 16777216 := hz
      simp only [B__law_is_label, startG, Z]
      simp [isi_str o, dIsStr, hz']
      by_cases h1 : 1 ≤ z.length
      · by_cases h2 : z.length ≤ 8
        · have h1' : (1 : Int) ≤ z.length := by omega
          have h3' : ¬ (8 : Int) < z.length := by omega
          simp [h1', h3']
          by_cases hn : z = "signed" ∨ z = "sealed" ∨ z = "secret"
          · have hn2 : Str.ofString "secret" = z ∨ Str.ofString "signed" = z ∨ Str.ofString "sealed" = z := by
              rcases hn with e | e | e <;> simp [e]
            have pl : pLabel (.str z) = false := by
              rcases hn with e | e | e <;> simp [pLabel, e]
            rw [pl] at q
            rw [if_pos hn2]
            exact q S (Nw.refl S)
          · have hn2 : ¬ (Str.ofString "secret" = z ∨ Str.ofString "signed" = z ∨ Str.ofString "sealed" = z) := by
              rintro (e | e | e) <;> simp [← e] at hn
            have pl : pLabel (.str z) = z.cps.toList.all okSign := by
              simp [not_or] at hn
              simp [pLabel, h1, h2, hn]
            rw [pl] at q
            rw [if_neg hn2]
            intro p hp
            refine comp_map (fun d => .bl (sgn d)) hp (by rw [List.length_map]; simpa [Str.length] using hz') (fun _ _ => trivial) (fun d hd S' K n hK => ?_) (fun S' n e => ?_)
            · obtain ⟨c, hc, rfl⟩ := List.mem_map.mp hd
              have hK' := hK S' (Nw.refl _)
              have e1 : sgn (.str ⟨#[c]⟩) = okSign c := by simp [sgn]
              rw [e1, ← in_abc] at hK'
              simpa [inStr] using hK'
            · rw [all_map e]
              have := q S' n
              rw [List.all_map]
              simpa [Function.comp_def, sgn] using this
        · have h2' : (8 : Int) < z.length := by omega
          have h1' : (1 : Int) ≤ z.length := by omega
          simpa [h1', h2', pLabel, h2] using q S (Nw.refl S)
      · have h1' : ¬ (1 : Int) ≤ z.length := by omega
        simpa [h1', pLabel, h1] using q S (Nw.refl S)
    | _ => simpa [B__law_is_label, startG, Z, isi_str o, dIsStr, pLabel] using q S (Nw.refl S)
  · exact h.elim
def c__law_are_labels : Ctr := c_are_labels C_Town
def B__law_are_labels (C_Town : Addr) : DS :=
 (dsSeq (dsIf (dtOr (dtNot (dtTru (dCB (fIsi (Z C_Town)) (daCons (dVar 0) (daCons (dC (.ty "tuple")) daNil))))) (dtNot (dtV (dChain fLe fLe (dVar 1) (dCB fLen (daCons (dVar 0) daNil)) (dVar 2)))))
 (dsRet (dC (.bl false)))
 dsNext)
 (dsRet (dCB fAll (daCons (dComp (diSeq (dVar 0)) [3] (dgName 3) dtYes (dCall (c__law_is_label C_Town) (daCons (dVar 3) daNil))) daNil))))
theorem w__law_are_labels (ds : List DV) (S : Sto) (Q : QV) (X : QX) (h : c__law_are_labels C_Town ds S Q X) : B__law_are_labels C_Town (E0 Q X) (startG ["thing", "least", "most", "one"] ds) S := by
  unfold c__law_are_labels c_are_labels at h
  split at h
  · rename_i d lo hi
    obtain ⟨o, hl, q⟩ := h
    cases d with
    | tup ds =>
      simp [B__law_are_labels, startG, Z, isi_tup o, dIsTup]
      have o' : ∀ d ∈ ds, OK C_Town S d := ok_mem o
      by_cases h1 : lo ≤ ds.length
      · by_cases h2 : (ds.length : Int) ≤ hi
        · have h2' : ¬ hi < (ds.length : Int) := by omega
          simp [h1, h2']
          intro p hp
          refine comp_map (fun d => .bl (pLabel d)) hp (hl ds rfl) (fun _ _ => trivial) (fun d hd S' K n hK => ?_) (fun S' n e => ?_)
          · simp [c__law_is_label, c_is_label]
            exact ⟨(o' d hd).mono n.ext, hK⟩
          · rw [all_map e]
            simpa [pLabels, h1, h2] using q S' n
        · have h2' : hi < (ds.length : Int) := by omega
          simpa [h1, h2', h2, pLabels] using q S (Nw.refl S)
      · simpa [h1, pLabels] using q S (Nw.refl S)
    | _ => simpa [B__law_are_labels, startG, Z, isi_tup o, dIsTup, pLabels] using q S (Nw.refl S)
  · exact h.elim
def c__law_is_kind : Ctr := c_has_word C_Town
def B__law_is_kind (C_Town : Addr) : DS :=
 (dsRet (dAnd (dCB (fIsi (Z C_Town)) (daCons (dVar 0) (daCons (dC (.ty "tuple")) daNil))) (dAnd (dBin fEq (dCB fLen (daCons (dVar 0) daNil)) (dVar 2)) (dAnd (dCB (fIsi (Z C_Town)) (daCons (dBin fIx (dVar 0) (dC (.int 0))) (daCons (dC (.ty "str")) daNil))) (dBin fEq (dBin fIx (dVar 0) (dC (.int 0))) (dVar 1))))))
theorem w__law_is_kind (ds : List DV) (S : Sto) (Q : QV) (X : QX) (h : c__law_is_kind C_Town ds S Q X) : B__law_is_kind C_Town (E0 Q X) (startG ["thing", "word", "many"] ds) S := by
  unfold c__law_is_kind c_has_word at h
  split at h
  · rename_i d w n
    obtain ⟨o, hn, q⟩ := h
    cases d with
    | tup ds =>
      simp [B__law_is_kind, startG, Z, isi_tup o, dIsTup]
      by_cases h1 : (ds.length : Int) = n
      · cases ds with
        | nil => simp at h1; omega
        | cons d ds =>
          have od := ok_head o
          have h1' : (ds.length : Int) + 1 = n := by simpa using h1
          simp [h1', isi_str od]
          cases d <;> simpa [dIsStr, pKind, h1'] using q
      · simpa [h1, pKind] using q
    | _ => simpa [B__law_is_kind, startG, Z, isi_tup o, dIsTup, pKind] using q
  · exact h.elim
def c__law_is_mark : Ctr := c_is_mark C_Town
def B__law_is_mark (C_Town : Addr) : DS :=
 (dsSeq (dsIf (dtOr (dtNot (dtTru (dCB (fIsi (Z C_Town)) (daCons (dVar 0) (daCons (dC (.ty "tuple")) daNil))))) (dtOr (dtV (dBin fNe (dCB fLen (daCons (dVar 0) daNil)) (dC (.int 3)))) (dtNot (dtTru (dCall (c__law_is_number C_Town) (daCons (dBin fIx (dVar 0) (dC (.int 0))) (daCons (dC (.int 9)) daNil)))))))
 (dsRet (dC (.bl false)))
 dsNext)
 (dsRet (dAnd (dCall (c__law_is_number C_Town) (daCons (dBin fIx (dVar 0) (dC (.int 1))) (daCons (dBin fPow (dC (.int 10)) (dC (.int 6))) daNil))) (dCall (c__law_are_labels C_Town) (daCons (dBin fIx (dVar 0) (dC (.int 2))) (daCons (dC (.int 1)) (daCons (dC (.int 4)) daNil)))))))
theorem w__law_is_mark (ds : List DV) (S : Sto) (Q : QV) (X : QX) (h : c__law_is_mark C_Town ds S Q X) : B__law_is_mark C_Town (E0 Q X) (startG ["thing"] ds) S := by
  unfold c__law_is_mark c_is_mark at h
  split at h
  · rename_i d
    obtain ⟨o, sh, q⟩ := h
    cases d with
    | tup ds =>
      by_cases h3 : (ds.length : Int) = 3
      · obtain ⟨a, b, c, rfl⟩ := tup3 h3
        have oa := ok_mem o a (by simp)
        have ob := ok_mem o b (by simp)
        have oc := ok_mem o c (by simp)
        have sc := sh_len (sh_mem sh c (by simp))
        simp [B__law_is_mark, startG, Z, isi_tup o, dIsTup, c__law_is_number, c__law_are_labels, c_are_labels, oa, ob, oc]
        by_cases h1 : pNum 0 8 a = true
        · by_cases h2 : pNum 0 999999 b = true
          · simp [h1, h2]
            exact ⟨sc, fun S' n => by simpa [pMark, h1, h2] using q S' n⟩
          · simpa [h1, h2, pMark] using q S (Nw.refl S)
        · simpa [h1, pMark] using q S (Nw.refl S)
      · simpa [B__law_is_mark, startG, Z, isi_tup o, dIsTup, h3, pMark_not3 h3] using q S (Nw.refl S)
    | _ => simpa [B__law_is_mark, startG, Z, isi_tup o, dIsTup, pMark] using q S (Nw.refl S)
  · exact h.elim
end
end K14
set_option maxHeartbeats 4000000
namespace K14
open PySem PySem.Spec PyProof.Rows L2 M
theorem kind_len {w : Str} {n : Int} {row : List DV} (h : ¬ (row.length : Int) = n) : pKind w n (.tup row) = false := by
  simp [pKind, h]
theorem kind_str {w k : Str} {rest : List DV} {n : Int} (h : ((rest.length + 1 : Nat) : Int) = n) : pKind w n (.tup (.str k :: rest)) = decide (k = w) := by
  simp [pKind]
  intro _
  simpa using h
theorem kind_nostr {w : Str} {n : Int} {a : DV} {rest : List DV} (h : dIsStr a = false) : pKind w n (.tup (a :: rest)) = false := by
  cases a <;> simp_all [pKind, dIsStr]
theorem kind_notup {w : Str} {n : Int} {a : DV} (h : dIsTup a = false) : pKind w n a = false := by
  cases a <;> simp_all [pKind, dIsTup]
theorem row_nostr {ws : List DV} {nd : Int} {a : DV} {rest : List DV} (h : dIsStr a = false) : pRow ws nd (a :: rest) = false := by
  unfold pRow
  split
  · rename_i e; cases e; simp [dIsStr] at h
  · rename_i e; cases e; simp [dIsStr] at h
  · rfl
section
variable (C_Town : Addr)
def c__law_is_said : Ctr := fun ds S Q _ => match ds with
  | [.int n, .tup ws, d] => wiresOk n ws ∧ OK C_Town S d ∧ Sh d ∧ ∀ S', Nw S S' → Q (.bl (pSaid n ws d)) S'
  | _ => False
def B__law_is_said (C_Town : Addr) : DS :=
 (dsSeq (dsIf (dtOr (dtNot (dtTru (dCall (c__law_is_kind C_Town) (daCons (dVar 2) (daCons (dC (.str "signed")) (daCons (dC (.int 3)) daNil)))))) (dtNot (dtTru (dCall (c__law_is_number C_Town) (daCons (dBin fIx (dVar 2) (dC (.int 1))) (daCons (dVar 0) daNil))))))
 (dsRet (dC (.bl false)))
 dsNext)
 (dsSeq (dsPar 3 4 (daCons (dBin fIx (dVar 2) (dC (.int 1))) (daCons (dBin fIx (dVar 2) (dC (.int 2))) daNil)))
 (dsSeq (dsIf (dtOr (dtTru (dCall (c__law_is_kind C_Town) (daCons (dVar 4) (daCons (dC (.str "gone")) (daCons (dC (.int 3)) daNil))))) (dtTru (dCall (c__law_is_kind C_Town) (daCons (dVar 4) (daCons (dC (.str "never")) (daCons (dC (.int 3)) daNil))))))
 (dsRet (dAnd (dCall (c__law_is_mark C_Town) (daCons (dBin fIx (dVar 4) (dC (.int 1))) daNil)) (dAnd (dCall (c__law_is_number C_Town) (daCons (dBin fIx (dVar 4) (dC (.int 2))) (daCons (dCB fLen (daCons (dVar 1) daNil)) daNil))) (dBin fIn (dVar 3) (dBin fIx (dVar 1) (dBin fIx (dVar 4) (dC (.int 2))))))))
 dsNext)
 (dsSeq (dsIf (dtOr (dtTru (dCall (c__law_is_kind C_Town) (daCons (dVar 4) (daCons (dC (.str "read")) (daCons (dC (.int 2)) daNil))))) (dtTru (dCall (c__law_is_kind C_Town) (daCons (dVar 4) (daCons (dC (.str "full")) (daCons (dC (.int 2)) daNil))))))
 (dsRet (dCall (c__law_is_mark C_Town) (daCons (dBin fIx (dVar 4) (dC (.int 1))) daNil)))
 dsNext)
 (dsSeq (dsIf (dtAnd (dtNot (dtTru (dCall (c__law_is_kind C_Town) (daCons (dVar 4) (daCons (dC (.str "close")) (daCons (dC (.int 2)) daNil)))))) (dtNot (dtTru (dCall (c__law_is_kind C_Town) (daCons (dVar 4) (daCons (dC (.str "none")) (daCons (dC (.int 2)) daNil)))))))
 (dsRet (dC (.bl false)))
 dsNext)
 (dsRet (dAnd (dCall (c__law_is_mark C_Town) (daCons (dBin fIx (dVar 4) (dC (.int 1))) daNil)) (dBin fEq (dBin fIx (dBin fIx (dVar 4) (dC (.int 1))) (dC (.int 0))) (dVar 3)))))))))
theorem w__law_is_said (ds : List DV) (S : Sto) (Q : QV) (X : QX) (h : c__law_is_said C_Town ds S Q X) : B__law_is_said C_Town (E0 Q X) (startG ["nodes", "wires", "thing", "node", "inner"] ds) S := by
  unfold c__law_is_said at h
  split at h
  · rename_i n ws d
    obtain ⟨wo, o, sh, q⟩ := h
    cases hk : pKind "signed" 3 d with
    | false => simpa [B__law_is_said, startG, c__law_is_kind, c_has_word, o, hk, said_kind hk] using q S (Nw.refl S)
    | true =>
      obtain ⟨nd, inner, rfl⟩ := pKind_shape hk
      have ond := ok_mem o nd (by simp)
      have oin := ok_mem o inner (by simp)
      have sin := sh_mem sh inner (by simp)
      cases hn : pNum 0 (n - 1) nd with
      | false => simpa [B__law_is_said, startG, c__law_is_kind, c_has_word, c__law_is_number, o, hk, ond, hn, pSaid] using q S (Nw.refl S)
      | true =>
        obtain ⟨nd, rfl, n0, n1⟩ := pNum_int hn
        simp [B__law_is_said, startG, c__law_is_kind, c_has_word, c__law_is_number, o, hk, ond, hn, oin]
        by_cases ht : dIsTup inner = true
        · obtain ⟨row, rfl⟩ : ∃ row, inner = .tup row := by
            cases inner with
            | tup row => exact ⟨row, rfl⟩
            | _ => simp [dIsTup] at ht
          have q' : ∀ S', Nw S S' → Q (.bl (pRow ws nd row)) S' := fun S' n' => by simpa [pSaid, hn] using q S' n'
          by_cases h3 : (row.length : Int) = 3
          · obtain ⟨k, m, x, rfl⟩ := tup3 h3
            have om := ok_mem oin m (by simp)
            have ox := ok_mem oin x (by simp)
            have sm := sh_mem sin m (by simp)
            have nl : ∀ w, pKind w 2 (.tup [k, m, x]) = false := fun w => kind_len (by simp)
            by_cases hs : dIsStr k = true
            · obtain ⟨k, rfl⟩ : ∃ z, k = .str z := by
                cases k with
                | str z => exact ⟨z, rfl⟩
                | _ => simp [dIsStr] at hs
              have ks : ∀ w, pKind w 3 (.tup [.str k, m, x]) = decide (k = w) := fun w => kind_str (by simp)
              simp only [nl, ks]
              by_cases c1 : k = "gone" ∨ k = "never"
              · have c1k : (decide (k = "gone") || decide (k = "never")) = true := by
                  rcases c1 with e | e <;> simp [e]
                rcases c1 with e | e <;>
                (subst e
                 simp (decide := true) [c__law_is_mark, c_is_mark]
                 refine ⟨om, sm, fun S' n' => ?_⟩
                 cases hm : pMark m with
                 | false => simpa [pRow, hm] using q' S' n'
                 | true =>
                    have ox' : OK C_Town S' x := ox.mono n'.ext
                    cases hx : pNum 0 ((ws.length : Int) - 1) x with
                    | false => simpa [pRow, hm, hx, ox'] using q' S' n'
                    | true =>
                      obtain ⟨i, rfl, i0, i1⟩ := pNum_int hx
                      obtain ⟨a, b, ea⟩ := wire_flat wo i0 i1
                      have hw := q' S' n'
                      simp only [pRow, hm, c1k, hx, ea, Bool.true_and, Bool.and_true] at hw
                      simpa [ox', ea, memW] using hw)
              · simp only [not_or] at c1
                simpa [c1.1, c1.2, pRow] using q' S (Nw.refl S)
            · have hs : dIsStr k = false := by simpa using hs
              simpa [nl, kind_nostr hs, row_nostr hs] using q' S (Nw.refl S)
          · have nl3 : ∀ w, pKind w 3 (.tup row) = false := fun w => kind_len h3
            by_cases h2 : (row.length : Int) = 2
            · obtain ⟨k, m, rfl⟩ : ∃ k m, row = [k, m] := by
                match row, h2 with
                | [k, m], _ => exact ⟨k, m, rfl⟩
                | [], h => simp at h
                | [_], h => simp at h
                | _ :: _ :: _ :: _, h => simp at h; omega
              have om := ok_mem oin m (by simp)
              have sm := sh_mem sin m (by simp)
              by_cases hs : dIsStr k = true
              · obtain ⟨k, rfl⟩ : ∃ z, k = .str z := by
                  cases k with
                  | str z => exact ⟨z, rfl⟩
                  | _ => simp [dIsStr] at hs
                have ks : ∀ w, pKind w 2 (.tup [.str k, m]) = decide (k = w) := fun w => kind_str (by simp)
                simp only [nl3, ks]
                simp [c__law_is_mark, c_is_mark, om, sm]
                by_cases c1 : k = "read"
                · subst c1
                  simpa [pRow] using q'
                · by_cases c2 : k = "full"
                  · subst c2
                    simpa (decide := true) [pRow] using q'
                  · simp [c1, c2]
                    by_cases c3 : k = "close" ∨ k = "none"
                    · have c3k : (decide (k = "close") || decide (k = "none")) = true := by
                        rcases c3 with e | e <;> simp [e]
                      rcases c3 with e | e <;>
                      (subst e
                       simp (decide := true)
                       intro S' n'
                       cases hm : pMark m with
                       | false => simpa [pRow, hm] using q' S' n'
                       | true =>
                         obtain ⟨a, b, c, rfl⟩ := pMark_shape hm
                         have hw := q' S' n'
                         simp (decide := true) only [pRow, hm, c3k, markIs, Bool.true_and, Bool.or_false, decide_false] at hw
                         simpa using hw)
                    · simp only [not_or] at c3
                      simpa [c3.1, c3.2, pRow, c1, c2] using q' S (Nw.refl S)
              · have hs : dIsStr k = false := by simpa using hs
                simpa [nl3, kind_nostr hs, row_nostr hs] using q' S (Nw.refl S)
            · have nl2 : ∀ w, pKind w 2 (.tup row) = false := fun w => kind_len h2
              simpa [nl2, nl3, pRow_not (ws := ws) (nd := nd) (row := row) (by omega) (by omega)] using q' S (Nw.refl S)
        · have ht : dIsTup inner = false := by simpa using ht
          have : pSaid n ws (.tup [.str "signed", .int nd, inner]) = false := by
            cases inner <;> simp_all [dIsTup, pSaid]
          simpa [kind_notup ht, this] using q S (Nw.refl S)
  · exact h.elim
end
end K14
set_option maxHeartbeats 4000000
namespace K14
open PySem PySem.Spec PyProof.Rows L2 M
/-! ### the hand -/
def hk : HK where
  H := fun h A S => ∃ q a b xs, A = [h, q] ∧ h ≠ q ∧ S h = some (.lst [.int a, .int b, .ref q]) ∧ S q = some (.lst (List.map DV.int xs))
  own := fun {h A S} ⟨q, a, b, xs, e, ne, e1, e2⟩ => by
    subst e
    refine ⟨by simp, fun x hx => ?_⟩
    simp only [List.mem_cons, List.not_mem_nil, or_false] at hx
    rcases hx with rfl | rfl
    · exact ⟨_, e1⟩
    · exact ⟨_, e2⟩
  same := fun {h A S S'} ⟨q, a, b, xs, e, ne, e1, e2⟩ k => by
    subst e
    exact ⟨q, a, b, xs, rfl, ne, by rw [k h (by simp)]; exact e1, by rw [k q (by simp)]; exact e2⟩
theorem St.mk {h q : Addr} {A : List Addr} {S S' : Sto} (n : hk.H h A S) (hA : A = [h, q]) (n' : hk.H h A S') (k : ∀ a, a ≠ h → a ≠ q → S' a = S a) : St hk h A S S' :=
  ⟨n, n', fun a o ha e => by
    subst hA
    simp only [List.mem_cons, List.not_mem_nil, or_false, not_or] at ha
    rw [k a ha.1 ha.2]; exact e⟩
section
variable (C_Town : Addr)
def c__law_draw (C_Town : Addr) : Ctr := drawC hk
def B__law_draw (C_Town : Addr) : DS :=
 (dsSeq (dsAsg (dBin fAdd (dBin fIx (dVar 0) (dC (.int 1))) (dC (.int 1))) (dgSub fSetL (dVar 0) (dC (.int 1))))
 (dsSeq (dsIf (dtV (dBin fGt (dCB fLen (daCons (dBin fIx (dVar 0) (dC (.int 2))) daNil)) (dC (.int 0))))
 (dsSeq (dsAsg (dBin fMod (dCB fInt (daCons (dBin fIx (dBin fIx (dVar 0) (dC (.int 2))) (dC (.int 0))) daNil)) (dVar 1)) (dgName 3))
 (dsSeq (dsAsg (dBin fDiv (dBin fIx (dBin fIx (dVar 0) (dC (.int 2))) (dC (.int 0))) (dVar 1)) (dgSub fSetL (dBin fIx (dVar 0) (dC (.int 2))) (dC (.int 0))))
 (dsSeq (dsIf (dtV (dBin fEq (dBin fIx (dBin fIx (dVar 0) (dC (.int 2))) (dC (.int 0))) (dC (.int 0))))
 (dsDrop (dMt isLst mPop (dBin fIx (dVar 0) (dC (.int 2))) (daCons (dC (.int 0)) daNil)))
 dsNext)
 (dsRet (dVar 3)))))
 dsNext)
 (dsSeq (dsAsg (dBin fMod (dCB fInt (daCons (dBin fMul (dBin fAdd (dBin fIx (dVar 0) (dC (.int 0))) (dBin fMul (dC (.int 7919)) (dBin fIx (dVar 0) (dC (.int 1))))) (dC (.int 48271))) daNil)) (dC (.int 2147483647))) (dgName 2))
 (dsSeq (dsAsg (dBin fMod (dCB fInt (daCons (dBin fMul (dVar 2) (dBin fAdd (dBin fDiv (dVar 2) (dC (.int 1009))) (dC (.int 69621)))) daNil)) (dC (.int 2147483647))) (dgName 2))
 (dsSeq (dsAsg (dBin fMod (dCB fInt (daCons (dBin fMul (dVar 2) (dBin fAdd (dBin fDiv (dVar 2) (dC (.int 2003))) (dC (.int 40692)))) daNil)) (dC (.int 2147483399))) (dgName 2))
 (dsRet (dBin fMod (dCB fInt (daCons (dBin fDiv (dVar 2) (dC (.int 16))) daNil)) (dVar 1))))))))
theorem w__law_draw (ds : List DV) (S : Sto) (Q : QV) (X : QX) (h : c__law_draw C_Town ds S Q X) : B__law_draw C_Town (E0 Q X) (startG ["hand", "many", "number", "digit"] ds) S := by
  unfold c__law_draw drawC at h
  split at h
  · rename_i h n
    obtain ⟨A, hh, n0, n1, q⟩ := h
    obtain ⟨p, a, b, xs, rfl, ne, e1, e2⟩ := hh
    have hh : hk.H h [h, p] S := ⟨p, a, b, xs, rfl, ne, e1, e2⟩
    have u1 : ∀ (T : Sto) o, (T.upd p o) h = T h := fun T o => upd_n ne
    have u2 : ∀ (T : Sto) o, (T.upd h o) p = T p := fun T o => upd_n (Ne.symm ne)
    have m0 : ∀ i : Int, 0 ≤ i % n := fun i => Int.emod_nonneg i (by omega)
    have m1 : ∀ i : Int, i % n < n := fun i => Int.emod_lt_of_pos i n0
    cases xs with
    | nil =>
      simp [B__law_draw, startG, e1, e2, fSetL, ixN, upd_s, u1, u2, fInt]
      refine ⟨by omega, by omega, n0, q _ _ (m0 _) (m1 _) (St.mk hh rfl ⟨p, a, b + 1, [], rfl, ne, upd_s, by rw [u2]; exact e2⟩ fun x hx _ => upd_n hx)⟩
    | cons x xs =>
      simp [B__law_draw, startG, e1, e2, fSetL, ixN, upd_s, u1, u2, fInt, n0, n1]
      split
      · simp [isLst, mPop, upd_s, ixN, upd_upd2]
        exact q _ _ (m0 _) (m1 _) (St.mk hh rfl ⟨p, a, b + 1, xs, rfl, ne, by rw [u1]; exact upd_s, upd_s⟩ fun y h1 h2 => by rw [upd_n h2, upd_n h1])
      · exact q _ _ (m0 _) (m1 _) (St.mk hh rfl ⟨p, a, b + 1, x / n :: xs, rfl, ne, by rw [u1]; exact upd_s, upd_s⟩ fun y h1 h2 => by rw [upd_n h2, upd_n h1])
  · exact h.elim
def c__law_any (C_Town : Addr) : Ctr := anyC hk
def B__law_any (C_Town : Addr) : DS :=
 (dsRet (dBin fIx (dVar 1) (dCall (c__law_draw C_Town) (daCons (dVar 0) (daCons (dCB fLen (daCons (dVar 1) daNil)) daNil)))))
theorem w__law_any (ds : List DV) (S : Sto) (Q : QV) (X : QX) (h : c__law_any C_Town ds S Q X) : B__law_any C_Town (E0 Q X) (startG ["hand", "things"] ds) S := w_any hk ds S Q X h
end
theorem any_lit {hk : HK} {h p : Addr} {A : List Addr} {S : Sto} {xs : List DV} {Q : QV} {X : QX} (n : hk.H h A S) (hp : S p = none) (ne : xs ≠ []) (hl : xs.length ≤ 1000) (q : ∀ x S', x ∈ xs → St hk h A S S' → Q x S') : anyC hk [.ref h, .ref p] (S.upd p (.lst xs)) Q X :=
  ⟨A, xs, HK.upd n (HK.ne n hp), upd_s, HK.ne n hp, ne, by omega, fun x S' hx st => q x S' hx ((St.new n hp).trans st)⟩
theorem cut_map {f : Int → DV} (ns : List Int) (lo hi : Option Int) : M.cutD (ns.map f) lo hi = (M.cutD ns lo hi).map f := by
  simp [M.cutD, List.map_take, List.map_drop]
theorem cut_63 (ns : List Int) : (M.cutD ns none (some 63)).length ≤ 63 := by
  simp [M.cutD, HT.sIx]
  omega
section
variable (C_Town : Addr)
def c__law_well (C_Town : Addr) : Ctr := fun ds S Q _ => match ds with
  | [.rol ds] => ∃ ns : List Int, ds = ns.map DV.int ∧ ∀ h A S', hk.H h A S' → Nw S S' → Q (.ref h) S'
  | _ => False
def B__law_well (C_Town : Addr) : DS :=
 (dsSeq (dsAsg (dBin fAdd (dC (.int 977)) (dCB fLen (daCons (dVar 0) daNil))) (dgName 1))
 (dsSeq (dsFor (diSeq (dSl (dVar 0) doNone (doSome (dC (.int 63))))) (dgName 2)
 (dsAsg (dBin fMod (dCB fInt (daCons (dBin fAdd (dBin fAdd (dBin fMul (dVar 1) (dC (.int 69621))) (dBin fMod (dCB fInt (daCons (dVar 2) daNil)) (dC (.int 2147483629)))) (dC (.int 11))) daNil)) (dC (.int 2147483647))) (dgName 1)))
 (dsRet (dLst (daCons (dVar 1) (daCons (dC (.int 0)) (daCons (dComp (diSeq (dSl (dVar 0) doNone (doSome (dC (.int 63))))) [2] (dgName 2) (dtV (dBin fGe (dCB fAbs (daCons (dCB fInt (daCons (dVar 2) daNil)) daNil)) (dBin fPow (dC (.int 10)) (dC (.int 18))))) (dCB fAbs (daCons (dCB fInt (daCons (dVar 2) daNil)) daNil))) daNil)))))))
theorem w__law_well (ds : List DV) (S : Sto) (Q : QV) (X : QX) (h : c__law_well C_Town ds S Q X) : B__law_well C_Town (E0 Q X) (startG ["script", "seed", "cell"] ds) S := by
  unfold c__law_well at h
  split at h
  · rename_i ds
    obtain ⟨ns, rfl, q⟩ := h
    obtain ⟨ms, hms⟩ : ∃ ms, ms = M.cutD ns none (some 63) := ⟨_, rfl⟩
    have hl : ms.length ≤ 63 := by rw [hms]; exact cut_63 ns
    simp [B__law_well, startG, cut_map, ← hms]
    intro p hp
    refine for_ind (fun rest Γ S' => S' = S.upd p (.lst (ms.map DV.int)) ∧ (∃ seed x, Γ = [some (.rol (ns.map DV.int)), some (.int seed), x]) ∧ ∃ rs : List Int, rest = rs.map DV.int) (fun rest Γ S' h => ?_) (fun Γ S' h => ?_) (fun d rest Γ S' K h hK => ?_) _ _ _ ⟨rfl, ⟨_, _, rfl⟩, ms, rfl⟩
    · obtain ⟨rfl, _⟩ := h
      exact upd_s
    · obtain ⟨rfl, ⟨seed, x, rfl⟩, _⟩ := h
      simp [cut_map, ← hms]
      intro p2 hp2 p3 hp3
      have n1 := Nw.new (o := .lst (ms.map DV.int)) hp
      have n2 := Nw.new (o := .lst (ms.map DV.int)) hp2
      have ne : p2 ≠ p3 := fun z => by subst z; rw [upd_s] at hp3; cases hp3
      refine comp_ind (fun rest acc S' => S' = ((S.upd p (.lst (ms.map DV.int))).upd p2 (.lst (ms.map DV.int))).upd p3 (.lst acc) ∧ (∃ ks : List Int, acc = ks.map DV.int) ∧ (∃ rs : List Int, rest = rs.map DV.int) ∧ acc.length + rest.length ≤ 63) (fun rest acc S' h => ?_) (fun acc S' h => ?_) (fun d rest acc S' K K' h hK hK' => ?_) _ [] _ ⟨rfl, ⟨[], rfl⟩, ⟨ms, rfl⟩, by simpa using hl⟩
      · obtain ⟨rfl, _⟩ := h
        show (Sto.upd _ _ _) p2 = _
        rw [upd_n ne, upd_s]
      · obtain ⟨rfl, ⟨ks, rfl⟩, _⟩ := h
        intro h hh
        have ne3 : h ≠ p3 := fun z => by subst z; rw [upd_s] at hh; cases hh
        exact q h [h, p3] _ ⟨p3, seed, 0, ks, rfl, ne3, upd_s, by rw [upd_n (Ne.symm ne3), upd_s]⟩ (((n1.trans n2).trans (Nw.new hp3)).trans (Nw.new hh))
      · obtain ⟨rfl, ⟨ks, rfl⟩, ⟨rs, hr⟩, hlen⟩ := h
        cases rs with
        | nil => simp at hr
        | cons r rs =>
          simp at hr
          obtain ⟨rfl, rfl⟩ := hr
          simp at hlen
          have h1 : ∀ v : Int, K (.int v) (((S.upd p (.lst (ms.map DV.int))).upd p2 (.lst (ms.map DV.int))).upd p3 (.lst (ks.map DV.int))) := fun v =>
            hK (.int v) _ upd_s (by simp; omega) ⟨by rw [upd_upd2], ⟨ks ++ [v], by simp⟩, ⟨rs, rfl⟩, by simp; omega⟩
          have h2 := hK' _ ⟨rfl, ⟨ks, rfl⟩, ⟨rs, rfl⟩, by simp; omega⟩
          simp [fInt, fAbs]
          split <;> split <;> first | exact h1 _ | exact h2
    · obtain ⟨rfl, ⟨seed, x, rfl⟩, ⟨rs, hr⟩⟩ := h
      cases rs with
      | nil => simp at hr
      | cons r rs =>
        simp at hr
        obtain ⟨rfl, rfl⟩ := hr
        simp [fInt]
        exact hK _ _ ⟨rfl, ⟨_, _, rfl⟩, rs, rfl⟩
  · exact h.elim
def c__law_deep (C_Town : Addr) : Ctr := fun ds S Q _ => match ds with
  | [.ref h, d] => ∃ A, hk.H h A S ∧ OK C_Town S d ∧ Sh d ∧ ∀ d' S', OK C_Town S' d' → Sh d' → St hk h A S S' → Q d' S'
  | _ => False
def B__law_deep (C_Town : Addr) : DS :=
 (dsSeq (dsFor (diRng1 (daCons (dBin fAdd (dC (.int 20)) (dCall (c__law_draw C_Town) (daCons (dVar 0) (daCons (dC (.int 15)) daNil)))) daNil)) (dgName 2)
 (dsAsg (dIf (dtV (dBin fEq (dCall (c__law_draw C_Town) (daCons (dVar 0) (daCons (dC (.int 2)) daNil))) (dC (.int 0)))) (dTup (daCons (dVar 1) daNil)) (dLst (daCons (dVar 1) daNil))) (dgName 1)))
 (dsRet (dVar 1)))
theorem w__law_deep (ds : List DV) (S : Sto) (Q : QV) (X : QX) (h : c__law_deep C_Town ds S Q X) : B__law_deep C_Town (E0 Q X) (startG ["hand", "thing", "turn"] ds) S := by
  unfold c__law_deep at h
  split at h
  · rename_i h d
    obtain ⟨A, hh, o, sh, q⟩ := h
    simp [B__law_deep, startG, c__law_draw, drawC]
    refine ⟨A, hh, fun n S1 n0 n1 st => ⟨by omega, by omega, ?_⟩⟩
    refine for_ind (fun rest Γ S' => St hk h A S S' ∧ ∃ d x, OK C_Town S' d ∧ Sh d ∧ Γ = [some (.ref h), some d, x]) (fun _ _ _ _ => trivial) (fun Γ S' h => ?_) (fun t rest Γ S' K h hK => ?_) _ _ _ ⟨st, d, none, o.mono st.ext, sh, rfl⟩
    · obtain ⟨st, d, x, o, sh, rfl⟩ := h
      simpa using q d S' o sh st
    · obtain ⟨st, d, x, o, sh, rfl⟩ := h
      simp [drawC]
      refine ⟨A, st.2.1, fun n S2 n0 n1 st2 => ?_⟩
      have o2 := o.mono st2.ext
      split
      · exact hK _ _ ⟨st.trans st2, _, _, by simp [OK, OkD, OkDs]; exact o2, by simp [Sh, Shs]; exact sh, rfl⟩
      · intro p hp
        exact hK _ _ ⟨(st.trans st2).trans (St.new st2.2.1 hp), _, _, by simp [OK, OkD], by simp [Sh], rfl⟩
  · exact h.elim
def c__law_labelled (C_Town : Addr) : Ctr := fun ds S Q _ => match ds with
  | [.ref h] => ∃ A, hk.H h A S ∧ ∀ z S', z.length ≤ 8 → St hk h A S S' → Q (.str z) S'
  | _ => False
def B__law_labelled (C_Town : Addr) : DS :=
 (dsRet (dCall (c__law_any C_Town) (daCons (dVar 0) (daCons (dLst (daCons (dC (.str "a")) (daCons (dC (.str "b")) (daCons (dC (.str "c")) (daCons (dC (.str "ab")) (daCons (dC (.str "bo")) (daCons (dC (.str "post")) (daCons (dC (.str "z")) (daCons (dC (.str "zz")) (daCons (dC (.str "abcdefgh")) (daCons (dC (.str "zzzzzzzz")) (daCons (dC (.str "d")) (daCons (dC (.str "aa")) daNil))))))))))))) daNil))))
theorem w__law_labelled (ds : List DV) (S : Sto) (Q : QV) (X : QX) (h : c__law_labelled C_Town ds S Q X) : B__law_labelled C_Town (E0 Q X) (startG ["hand"] ds) S := by
  unfold c__law_labelled at h
  split at h
  · rename_i h
    obtain ⟨A, hh, q⟩ := h
    simp [B__law_labelled, startG, c__law_any]
    intro p hp
    refine any_lit hh hp (by simp) (by simp) fun x S' hx st => ?_
    simp only [List.mem_cons, List.not_mem_nil, or_false] at hx
    rcases hx with rfl | rfl | rfl | rfl | rfl | rfl | rfl | rfl | rfl | rfl | rfl | rfl <;> exact q _ S' (by decide) st
  · exact h.elim
/-- the store but for the hand and a new list -/
theorem St.part {hk : HK} {h p : Addr} {A : List Addr} {S S' : Sto} (n : hk.H h A S) (n' : hk.H h A S') (hp : S p = none) (k : ∀ a o, a ∉ A → a ≠ p → S a = some o → S' a = some o) : St hk h A S S' :=
  ⟨n, n', fun a o ha e => k a o ha (fun z => by subst z; rw [hp] at e; cases e) e⟩
def c__law_named (C_Town : Addr) : Ctr := fun ds S Q _ => match ds with
  | [.ref h, .int m] => ∃ A, hk.H h A S ∧ 0 < m ∧ m ≤ 1000 ∧ ∀ (zs : List Str) (S' : Sto), (∀ z ∈ zs, z.length ≤ 8) → zs.length ≤ 1000 → St hk h A S S' → Q (.tup (zs.map DV.str)) S'
  | _ => False
def B__law_named (C_Town : Addr) : DS :=
 (dsRet (dCB fTuple (daCons (dComp (diRng1 (daCons (dBin fAdd (dC (.int 1)) (dCall (c__law_draw C_Town) (daCons (dVar 0) (daCons (dVar 1) daNil)))) daNil)) [2] (dgName 2) dtYes (dCall (c__law_labelled C_Town) (daCons (dVar 0) daNil))) daNil)))
theorem w__law_named (ds : List DV) (S : Sto) (Q : QV) (X : QX) (h : c__law_named C_Town ds S Q X) : B__law_named C_Town (E0 Q X) (startG ["hand", "most", "turn"] ds) S := by
  unfold c__law_named at h
  split at h
  · rename_i h m
    obtain ⟨A, hh, m0, m1, q⟩ := h
    simp [B__law_named, startG, c__law_draw, drawC]
    refine ⟨A, hh, m0, by omega, fun n S1 n0 n1 st => ⟨by omega, by omega, fun p hp => ?_⟩⟩
    have hpA := HK.ne st.2.1 hp
    refine comp_ind (fun rest acc S' => hk.H h A S' ∧ (∀ a o, a ∉ A → a ≠ p → S1 a = some o → S' a = some o) ∧ S' p = some (.lst acc) ∧ (∃ zs : List Str, acc = zs.map DV.str ∧ ∀ z ∈ zs, z.length ≤ 8) ∧ acc.length + rest.length ≤ 1000) (fun _ _ _ _ => trivial) (fun acc S' h => ?_) (fun d rest acc S' K K' h hK _ => ?_) _ [] _ ⟨HK.upd st.2.1 hpA, fun a o _ ha e => by rw [upd_n ha]; exact e, upd_s, ⟨[], rfl, by simp⟩, by simp; omega⟩
    · obtain ⟨h1, h2, h3, ⟨zs, rfl, hz⟩, h5⟩ := h
      simp [fTuple, h3]
      exact q zs S' hz (by simpa using h5) (st.trans (St.part st.2.1 h1 hp h2))
    · obtain ⟨h1, h2, h3, ⟨zs, rfl, hz⟩, h5⟩ := h
      simp at h5
      simp [c__law_labelled]
      refine ⟨A, h1, fun z S2 z0 st2 => ?_⟩
      refine hK (.str z) S2 (st2.2.2 p _ hpA h3) (by simp; omega) ⟨HK.upd st2.2.1 hpA, fun a o ha hn e => ?_, upd_s, ⟨zs ++ [z], by simp, fun y hy => ?_⟩, by simp; omega⟩
      · rw [upd_n hn]
        exact st2.2.2 a o ha (h2 a o ha hn e)
      · rcases List.mem_append.mp hy with hy | hy
        · exact hz y hy
        · rw [List.mem_singleton.mp hy]; exact z0
  · exact h.elim
end
end K14
set_option maxHeartbeats 4000000
namespace K14
open PySem PySem.Spec PyProof.Rows L2 M
theorem wires_ok {T : Addr} {n : Int} {ws : List DV} (h : wiresOk n ws) (S : Sto) : OK T S (.tup ws) := by
  simp only [OK, OkD]
  rw [OkDs.all]
  intro w hm
  obtain ⟨a, b, rfl, _⟩ := h.2 w hm
  simp [OkD, OkDs]
theorem wires_sh {n : Int} {ws : List DV} (h : wiresOk n ws) : Sh (.tup ws) := by
  simp only [Sh]
  refine ⟨by have := h.1; omega, ?_⟩
  rw [Shs.all]
  intro w hm
  obtain ⟨a, b, rfl, _⟩ := h.2 w hm
  simp [Sh, Shs]
theorem St.none {hk : HK} {h p : Addr} {A : List Addr} {S S' : Sto} (s : St hk h A S S') (e : S' p = none) : S p = none := by
  cases e0 : S p with
  | none => rfl
  | some o =>
    rw [s.2.2 p o (HK.ne s.2.1 e) e0] at e
    cases e
section
variable (C_Town : Addr)
def c__law_drawn_town (C_Town : Addr) : Ctr := fun ds S Q _ => match ds with
  | [.ref h] => ∃ A, hk.H h A S ∧ ∀ (n : Int) (ws : List DV) (S' : Sto), 1 ≤ n → n ≤ 9 → wiresOk n ws → St hk h A S S' → Q (.tup [.int n, .tup ws]) S'
  | _ => False
def L0__law_drawn_town (C_Town : Addr) : DS :=
 (dsSeq (dsPar 4 5 (daCons (dCall (c__law_draw C_Town) (daCons (dVar 0) (daCons (dVar 1) daNil))) (daCons (dCall (c__law_draw C_Town) (daCons (dVar 0) (daCons (dVar 1) daNil))) daNil)))
 (dsIf (dtV (dBin fNe (dVar 4) (dVar 5)))
 (dsDrop (dMt isLst mAppend (dVar 2) (daCons (dTup (daCons (dCB fMin (daCons (dVar 4) (daCons (dVar 5) daNil))) (daCons (dCB fMax (daCons (dVar 4) (daCons (dVar 5) daNil))) daNil))) daNil)))
 dsNext))
def B__law_drawn_town (C_Town : Addr) : DS :=
 (dsSeq (dsPar 1 2 (daCons (dBin fAdd (dC (.int 1)) (dCall (c__law_draw C_Town) (daCons (dVar 0) (daCons (dC (.int 9)) daNil)))) (daCons (dLst daNil) daNil)))
 (dsSeq (dsFor (diRng1 (daCons (dIf (dtV (dBin fGt (dVar 1) (dC (.int 1)))) (dCall (c__law_any C_Town) (daCons (dVar 0) (daCons (dLst (daCons (dC (.int 0)) (daCons (dC (.int 1)) (daCons (dC (.int 3)) (daCons (dC (.int 8)) (daCons (dC (.int 20)) daNil)))))) daNil))) (dC (.int 0))) daNil)) (dgName 3)
 (L0__law_drawn_town C_Town))
 (dsRet (dTup (daCons (dVar 1) (daCons (dCB fTuple (daCons (dVar 2) daNil)) daNil))))))
theorem w__law_drawn_town (ds : List DV) (S : Sto) (Q : QV) (X : QX) (h : c__law_drawn_town C_Town ds S Q X) : B__law_drawn_town C_Town (E0 Q X) (startG ["hand", "nodes", "wires", "turn", "one", "other"] ds) S := by
  unfold c__law_drawn_town at h
  split at h
  · rename_i h
    obtain ⟨A, hh, q⟩ := h
    simp [B__law_drawn_town, startG, c__law_draw, drawC, c__law_any]
    refine ⟨A, hh, fun n S1 n0 n1 st p hp => ?_⟩
    have hpA := HK.ne st.2.1 hp
    have st2 : St hk h A S (S1.upd p (.lst [])) := st.trans (St.new st.2.1 hp)
    have hp0 : S p = none := St.none st hp
    have loop : ∀ (S2 : Sto) (rest : List DV), St hk h A S S2 → S2 p = some (.lst []) → rest.length ≤ 20 → dsLoop (fun _ => True) (dgName 3) (L0__law_drawn_town C_Town) { nx := dsRet (dTup (daCons (dVar 1) (daCons (dCB fTuple (daCons (dVar 2) daNil)) daNil))) (E0 Q X), rt := Q, xx := fun x _ S' => X x S' } rest [some (.ref h), some (.int (1 + n)), some (.ref p), none, none, none] S2 := fun S2 rest st2 e2 hl => by
      refine for_ind (fun rest Γ S' => (hk.H h A S' ∧ (∀ a o, a ∉ A → a ≠ p → S a = some o → S' a = some o)) ∧ (∃ x y z, Γ = [some (.ref h), some (.int (1 + n)), some (.ref p), x, y, z]) ∧ ∃ ws, S' p = some (.lst ws) ∧ ws.length + rest.length ≤ 20 ∧ ∀ w ∈ ws, ∃ a b : Int, w = .tup [.int a, .int b] ∧ 0 ≤ a ∧ a < b ∧ b ≤ n) (fun _ _ _ _ => trivial) (fun Γ S' h => ?_) (fun t rest Γ S' K h hK => ?_) rest _ S2 ⟨⟨st2.2.1, fun a o ha _ e => st2.2.2 a o ha e⟩, ⟨_, _, _, rfl⟩, [], e2, by simpa using hl, by simp⟩
      · obtain ⟨⟨h1, h2⟩, ⟨x, y, z, rfl⟩, ws, e, hl, hw⟩ := h
        simp [fTuple, e]
        exact q _ ws S' (by omega) (by omega) ⟨by simpa using hl, fun w hm => by
          obtain ⟨a, b, rfl, h1, h2, h3⟩ := hw w hm
          exact ⟨a, b, rfl, h1, h2, by omega⟩⟩ (St.part st.1 h1 hp0 h2)
      · obtain ⟨⟨h1, h2⟩, ⟨x, y, z, rfl⟩, ws, e, hl, hw⟩ := h
        simp at hl
        simp [L0__law_drawn_town, c__law_draw, drawC]
        refine ⟨A, h1, by omega, by omega, fun a S3 a0 a1 st3 => ⟨A, st3.2.1, by omega, by omega, fun b S4 b0 b1 st4 => ?_⟩⟩
        have e4 : S4 p = some (.lst ws) := st4.2.2 p _ hpA (st3.2.2 p _ hpA e)
        have k4 : ∀ a o, a ∉ A → a ≠ p → S a = some o → S4 a = some o := fun a o ha hn e => st4.2.2 a o ha (st3.2.2 a o ha (h2 a o ha hn e))
        split
        · exact hK _ _ ⟨⟨st4.2.1, k4⟩, ⟨_, _, _, rfl⟩, ws, e4, by omega, hw⟩
        · rename_i hab
          simp [fMin, fMax, isLst, mAppend, e4]
          refine ⟨by omega, hK _ _ ⟨⟨HK.upd st4.2.1 hpA, fun c o hc hn ec => ?_⟩, ⟨_, _, _, rfl⟩, _, upd_s, by simp; omega, fun w hm => ?_⟩⟩
          · rw [upd_n hn]
            exact k4 c o hc hn ec
          · rcases List.mem_append.mp hm with hm | hm
            · exact hw w hm
            · rw [List.mem_singleton.mp hm]
              refine ⟨_, _, rfl, ?_, ?_, ?_⟩ <;> (try split) <;> (try split) <;> omega
    split
    · intro p2 hp2
      refine any_lit st2.2.1 hp2 (by simp) (by simp) fun x S2 hx st3 => ?_
      have fin : ∀ j : Int, 0 ≤ j → j ≤ 20 → -4611686018427387904 ≤ j ∧ j < 4611686018427387904 ∧ dsLoop (fun _ => True) (dgName 3) (L0__law_drawn_town C_Town) { nx := dsRet (dTup (daCons (dVar 1) (daCons (dCB fTuple (daCons (dVar 2) daNil)) daNil))) (E0 Q X), rt := Q, xx := fun x _ S' => X x S' } (List.map (fun (k : Nat) => DV.int k) (List.range j.toNat)) [some (.ref h), some (.int (1 + n)), some (.ref p), none, none, none] S2 := fun j j0 j1 =>
        ⟨by omega, by omega, loop S2 _ (st2.trans st3) (st3.2.2 p _ hpA upd_s) (by simp; omega)⟩
      simp only [List.mem_cons, List.not_mem_nil, or_false] at hx
      rcases hx with rfl | rfl | rfl | rfl | rfl <;> exact fin _ (by decide) (by decide)
    · exact loop _ [] st2 upd_s (by simp)
  · exact h.elim
end
end K14
set_option maxHeartbeats 200000
namespace K14
open PySem PySem.Spec PyProof.Rows L2 M
/-- a statement as it is drawn -/
def Drawn (n : Int) (d : DV) : Prop := ∃ (nd : Int) (w : Str) (s k : Int) (zs : List Str) (rest : List DV), d = .tup [.str "signed", .int nd, .tup (.str w :: .tup [.int s, .int k, .tup (zs.map DV.str)] :: rest)] ∧ 0 ≤ nd ∧ nd < n ∧ w.length ≤ 8 ∧ (∀ z ∈ zs, z.length ≤ 8) ∧ zs.length ≤ 1000 ∧ (rest = [] ∨ ∃ x : Int, rest = [.int x])
theorem strs_ok {T : Addr} {S : Sto} {zs : List Str} (h : ∀ z ∈ zs, z.length ≤ 8) : OkDs [T] S (zs.map DV.str) := by
  rw [OkDs.all]
  intro d hd
  obtain ⟨z, hz, rfl⟩ := List.mem_map.mp hd
  have := h z hz
  simp [OkD]; omega
theorem strs_sh {zs : List Str} : Shs (zs.map DV.str) := by
  rw [Shs.all]
  intro d hd
  obtain ⟨z, hz, rfl⟩ := List.mem_map.mp hd
  simp [Sh]
theorem signed_len : Str.length (Str.ofString "signed") = 6 := by decide
section
variable (C_Town : Addr)
def c__law_drawn (C_Town : Addr) : Ctr := fun ds S Q _ => match ds with
  | [.ref h, .int n, .tup ws] => ∃ A, hk.H h A S ∧ 1 ≤ n ∧ n ≤ 9 ∧ wiresOk n ws ∧ ∀ d S', Drawn n d → St hk h A S S' → Q d S'
  | _ => False
def R6__law_drawn (C_Town : Addr) : DS :=
 (dsRet (dTup (daCons (dC (.str "signed")) (daCons (dVar 3) (daCons (dTup (daCons (dVar 5) (daCons (dVar 7) (daCons (dVar 9) daNil)))) daNil)))))
def R5__law_drawn (C_Town : Addr) : DS :=
 (dsSeq (dsAsg (dIf (dtAnd (dtV (dBin fGt (dCB fLen (daCons (dVar 8) daNil)) (dC (.int 0)))) (dtV (dBin fGt (dCall (c__law_draw C_Town) (daCons (dVar 0) (daCons (dC (.int 4)) daNil))) (dC (.int 0))))) (dCall (c__law_any C_Town) (daCons (dVar 0) (daCons (dVar 8) daNil))) (dCall (c__law_draw C_Town) (daCons (dVar 0) (daCons (dBin fAdd (dCB fLen (daCons (dVar 2) daNil)) (dC (.int 1))) daNil)))) (dgName 9))
 (R6__law_drawn C_Town))
def R4__law_drawn (C_Town : Addr) : DS :=
 (dsSeq (dsAsg (dComp (diEnum (dVar 2)) [10, 9] (dgTup 2 (dgCons (dgName 10) (dgCons (dgName 9) dgNil))) (dtV (dBin fIn (dVar 3) (dVar 9))) (dVar 10)) (dgName 8))
 (R5__law_drawn C_Town))
def R3__law_drawn (C_Town : Addr) : DS :=
 (dsSeq (dsIf (dtV (dBin fNotIn (dVar 5) (dTup (daCons (dC (.str "gone")) (daCons (dC (.str "never")) daNil)))))
 (dsRet (dTup (daCons (dC (.str "signed")) (daCons (dVar 3) (daCons (dTup (daCons (dVar 5) (daCons (dVar 7) daNil))) daNil)))))
 dsNext)
 (R4__law_drawn C_Town))
def R2__law_drawn (C_Town : Addr) : DS :=
 (dsSeq (dsAsg (dTup (daCons (dVar 6) (daCons (dCall (c__law_any C_Town) (daCons (dVar 0) (daCons (dLst (daCons (dC (.int 0)) (daCons (dC (.int 7)) (daCons (dC (.int 999999)) daNil)))) daNil))) (daCons (dCall (c__law_named C_Town) (daCons (dVar 0) (daCons (dC (.int 4)) daNil))) daNil)))) (dgName 7))
 (R3__law_drawn C_Town))
def R1__law_drawn (C_Town : Addr) : DS :=
 (dsSeq (dsAsg (dCall (c__law_any C_Town) (daCons (dVar 0) (daCons (dLst (daCons (dVar 3) (daCons (dVar 3) (daCons (dCall (c__law_draw C_Town) (daCons (dVar 0) (daCons (dVar 1) daNil))) (daCons (dCall (c__law_draw C_Town) (daCons (dVar 0) (daCons (dC (.int 9)) daNil))) daNil))))) daNil))) (dgName 6))
 (R2__law_drawn C_Town))
def R0__law_drawn (C_Town : Addr) : DS :=
 (dsSeq (dsAsg (dCall (c__law_any C_Town) (daCons (dVar 0) (daCons (dVar 4) daNil))) (dgName 5))
 (R1__law_drawn C_Town))
def B__law_drawn (C_Town : Addr) : DS :=
 (dsSeq (dsAsg (dTup (daCons (dCall (c__law_draw C_Town) (daCons (dVar 0) (daCons (dVar 1) daNil))) (daCons (dLst (daCons (dC (.str "gone")) (daCons (dC (.str "never")) (daCons (dC (.str "gone")) (daCons (dC (.str "never")) (daCons (dC (.str "read")) (daCons (dC (.str "full")) (daCons (dC (.str "close")) (daCons (dC (.str "none")) daNil))))))))) daNil))) (dgTup 2 (dgCons (dgName 3) (dgCons (dgName 4) dgNil))))
 (R0__law_drawn C_Town))
theorem w__law_drawn (ds : List DV) (S : Sto) (Q : QV) (X : QX) (h : c__law_drawn C_Town ds S Q X) : B__law_drawn C_Town (E0 Q X) (startG ["hand", "nodes", "wires", "node", "words", "word", "sender", "mark", "own", "wire", "at"] ds) S := by
  unfold c__law_drawn at h
  split at h
  · rename_i h n ws
    obtain ⟨A, hh, n1, n9, wo, q⟩ := h
    simp [B__law_drawn, startG, c__law_draw, drawC]
    refine ⟨A, hh, by omega, by omega, fun nd S1 d0 d1 st1 p1 hp1 => ?_⟩
    have hp1A := HK.ne st1.2.1 hp1
    simp [R0__law_drawn, c__law_any]
    refine any_lit st1.2.1 hp1 (by simp) (by simp) fun x S2 hx st2 => ?_
    obtain ⟨w, rfl, hw⟩ : ∃ w : Str, x = .str w ∧ w.length ≤ 8 := by
      simp only [List.mem_cons, List.not_mem_nil, or_false] at hx
      rcases hx with rfl | rfl | rfl | rfl | rfl | rfl | rfl | rfl <;> exact ⟨_, rfl, by decide⟩
    clear hx
    simp [R1__law_drawn, c__law_draw, drawC, c__law_any]
    refine ⟨A, st2.2.1, by omega, by omega, fun i1 S3 _ _ st3 => ⟨A, st3.2.1, fun i2 S4 _ _ st4 p2 hp2 => ?_⟩⟩
    refine any_lit st4.2.1 hp2 (by simp) (by simp) fun x S5 hx st5 => ?_
    obtain ⟨s, rfl⟩ : ∃ s : Int, x = .int s := by
      simp only [List.mem_cons, List.not_mem_nil, or_false] at hx
      rcases hx with rfl | rfl | rfl | rfl <;> exact ⟨_, rfl⟩
    clear hx
    simp only [R2__law_drawn, c__law_any, dsSeq, dsAsg, dsPar, dsPar3, dsRet, dsRetN, dsDrop, dsNext, dsNo, dsBreak, dsCont, dsFor, dsIf_eq, dsFld, dTup, dLst, daNil, daCons, dVar, dC, dCall, dCB, dMt, dBin, dChain_eq, dtV, dtTru_eq, dtNot, dtAnd_eq, dtOr_eq, dAnd_eq, dOr_eq, dNot_eq, dIf_eq, dNeg, dSl, doNone, doSome, dgName, dgNil, dgCons, dgTup, dgSub, List.getElem?_cons_succ, List.getElem?_cons_zero, List.length_cons, List.length_nil, size_line, Nat.reduceAdd, Nat.reduceLeDiff, true_and, and_true, List.set_cons_succ, List.set_cons_zero, atI_0, atI_1, atI_2, atI_3, upd_s]
    intro p3 hp3
    refine any_lit st5.2.1 hp3 (by simp) (by simp) fun x S6 hx st6 => ?_
    obtain ⟨k, rfl⟩ : ∃ s : Int, x = .int s := by
      simp only [List.mem_cons, List.not_mem_nil, or_false] at hx
      rcases hx with rfl | rfl | rfl <;> exact ⟨_, rfl⟩
    clear hx
    refine ⟨A, st6.2.1, by decide, by decide, fun zs S7 hz hl st7 => ?_⟩
    have stA : St hk h A S S7 := (((((st1.trans st2).trans st3).trans st4).trans st5).trans st6).trans st7
    have fin : ∀ rest, (rest = [] ∨ ∃ x : Int, rest = [.int x]) → ∀ S8, St hk h A S7 S8 → Q (.tup [.str "signed", .int nd, .tup (.str w :: .tup [.int s, .int k, .tup (zs.map DV.str)] :: rest)]) S8 := fun rest hr S8 st8 =>
      q _ S8 ⟨nd, w, s, k, zs, rest, rfl, d0, d1, hw, hz, hl, hr⟩ (stA.trans st8)
    simp [R3__law_drawn]
    split
    · exact fin [] (.inl rfl) S7 (St.refl stA.2.1)
    · simp [R4__law_drawn]
      intro p4 hp4
      refine comp_ind (fun rest acc S' => S' = S7.upd p4 (.lst acc) ∧ (∃ ks : List Int, acc = ks.map DV.int) ∧ (∀ r ∈ rest, ∃ (j : Int) (a b : Int), r = .tup [.int j, .tup [.int a, .int b]]) ∧ acc.length + rest.length ≤ 20) (fun _ _ _ _ => trivial) (fun acc S' h => ?_) (fun d rest acc S' K K' h hK hK' => ?_) _ [] _ ⟨rfl, ⟨[], rfl⟩, fun r hr => ?_, by simpa using wo.1⟩
      · obtain ⟨rfl, ⟨ks, rfl⟩, _, hlen⟩ := h
        have st8 : St hk h A S7 (S7.upd p4 (.lst (ks.map DV.int))) := St.new stA.2.1 hp4
        have hp4A := HK.ne stA.2.1 hp4
        simp at hlen
        have wl := wo.1
        have e2 : ∀ S9, St hk h A (S7.upd p4 (.lst (ks.map DV.int))) S9 → ∀ x : Int, R6__law_drawn C_Town (E0 Q X) [some (.ref h), some (.int n), some (.tup ws), some (.int nd), some (.ref p1), some (.str w), some (.int s), some (.tup [.int s, .int k, .tup (zs.map DV.str)]), some (.ref p4), some (.int x), none] S9 := fun S9 st9 x => by
          simp [R6__law_drawn]
          exact fin [.int x] (.inr ⟨x, rfl⟩) S9 (st8.trans st9)
        have els : ∀ S9, St hk h A (S7.upd p4 (.lst (ks.map DV.int))) S9 → drawC hk [.ref h, .int ((ws.length : Int) + 1)] S9 (fun x S1 => R6__law_drawn C_Town (E0 Q X) [some (.ref h), some (.int n), some (.tup ws), some (.int nd), some (.ref p1), some (.str w), some (.int s), some (.tup [.int s, .int k, .tup (zs.map DV.str)]), some (.ref p4), some x, none] S1) (fun x S1 => X x S1) := fun S9 st9 =>
          ⟨A, st9.2.1, by omega, by omega, fun x S10 _ _ st10 => e2 S10 (st9.trans st10) x⟩
        simp [R5__law_drawn, c__law_draw, c__law_any]
        split
        · refine ⟨A, st8.2.1, by omega, by omega, fun v S9 _ _ st9 => ?_⟩
          dsimp only
          split
          · refine ⟨A, ks.map DV.int, st9.2.1, st9.2.2 p4 _ hp4A upd_s, hp4A, by simp; intro z; subst z; simp at *, by simp; omega, fun x S10 hx st10 => ?_⟩
            obtain ⟨v, _, rfl⟩ := List.mem_map.mp hx
            exact e2 S10 (st9.trans st10) v
          · exact els S9 st9
        · exact els _ (St.refl st8.2.1)
      · obtain ⟨rfl, ⟨ks, rfl⟩, hr, hlen⟩ := h
        obtain ⟨j, a, b, rfl⟩ := hr d List.mem_cons_self
        simp at hlen
        simp
        split
        · exact hK _ _ upd_s (by simp; omega) ⟨by rw [upd_upd2], ⟨ks ++ [j], by simp⟩, fun r hm => hr r (List.mem_cons_of_mem _ hm), by simp; omega⟩
        · exact hK' _ ⟨rfl, ⟨ks, rfl⟩, fun r hm => hr r (List.mem_cons_of_mem _ hm), by simp; omega⟩
      · obtain ⟨⟨w, j⟩, hm, rfl⟩ := List.mem_map.mp hr
        obtain ⟨a, b, rfl, _⟩ := wo.2 w (List.fst_mem_of_mem_zipIdx hm)
        exact ⟨_, a, b, rfl⟩
  · exact h.elim
end
end K14
set_option maxHeartbeats 1000000
namespace K14
open PySem PySem.Spec PyProof.Rows L2 M
/-! ### good values -/
def G (T : Addr) (S : Sto) (d : DV) : Prop := OK T S d ∧ Sh d
section
variable {T : Addr} {S S' : Sto}
theorem G.mono {d : DV} (g : G T S d) (e : Ext S S') : G T S' d := ⟨g.1.mono e, g.2⟩
theorem G_int {i : Int} : G T S (.int i) := ⟨by simp [OK, OkD], by simp [Sh]⟩
theorem G_bl {i : Bool} : G T S (.bl i) := ⟨by simp [OK, OkD], by simp [Sh]⟩
theorem G_non : G T S .non := ⟨by simp [OK, OkD], by simp [Sh]⟩
theorem G_str {z : Str} (h : z.length ≤ 1000) : G T S (.str z) := ⟨by simp only [OK, OkD]; exact Nat.le_trans h (by decide), by simp [Sh]⟩
theorem G_tup {ds : List DV} (h : ∀ d ∈ ds, G T S d) (hl : ds.length ≤ 100000) : G T S (.tup ds) := by
  refine ⟨?_, ?_⟩
  · simp only [OK, OkD]
    exact OkDs.all.mpr fun d hd => (h d hd).1
  · simp only [Sh]
    exact ⟨hl, Shs.all.mpr fun d hd => (h d hd).2⟩
theorem G_lst {p : Addr} {l : List DV} (e : S p = some (.lst l)) : G T S (.ref p) := ⟨by simp only [OK, OkD]; exact ⟨_, e, fun C fs h => by cases h⟩, by simp [Sh]⟩
theorem G_dK {p : Addr} {l} (e : S p = some (.dK l)) : G T S (.ref p) := ⟨by simp only [OK, OkD]; exact ⟨_, e, fun C fs h => by cases h⟩, by simp [Sh]⟩
theorem gnil : ∀ d ∈ ([] : List DV), G T S d := by simp
theorem gcons {a : DV} {l : List DV} (h : G T S a) (h2 : ∀ d ∈ l, G T S d) : ∀ d ∈ a :: l, G T S d := by
  intro d hd
  rcases List.mem_cons.mp hd with rfl | hd
  · exact h
  · exact h2 d hd
theorem G_mem {ds : List DV} (g : G T S (.tup ds)) : ∀ d ∈ ds, G T S d := fun d hd => ⟨ok_mem g.1 d hd, sh_mem g.2 d hd⟩
theorem any_ok {h p : Addr} {A : List Addr} {xs : List DV} {Q : QV} {X : QX} (n : hk.H h A S) (e : S p = some (.lst xs)) (np : p ∉ A) (ne : xs ≠ []) (hl : xs.length ≤ 1000) (ok : ∀ x ∈ xs, G T S x) (q : ∀ x S', G T S' x → St hk h A S S' → Q x S') : anyC hk [.ref h, .ref p] S Q X :=
  ⟨A, xs, n, e, np, ne, by omega, fun x S' hx st => q x S' ((ok x hx).mono st.ext) st⟩
end
section
variable (C_Town : Addr)
def c__law_bend (C_Town : Addr) : Ctr := fun ds S Q _ => match ds with
  | [.ref h, .int n, .tup ws, d] => ∃ A, hk.H h A S ∧ 1 ≤ n ∧ n ≤ 9 ∧ wiresOk n ws ∧ Drawn n d ∧ ∀ d' S', G C_Town S' d' → St hk h A S S' → Q d' S'
  | _ => False
def R3__law_bend (C_Town : Addr) : DS :=
 (dsRet (dTup (daCons (dC (.str "signed")) (daCons (dVar 4) (daCons (dBin fAdd (dTup (daCons (dCall (c__law_any C_Town) (daCons (dVar 0) (daCons (dVar 9) daNil))) daNil)) (dSl (dVar 5) (doSome (dC (.int 1))) doNone)) daNil)))))
def R8__law_bend (C_Town : Addr) : DS :=
 (dsRet (dTup (daCons (dC (.str "signed")) (daCons (dVar 4) (daCons (dBin fAdd (dTup (daCons (dBin fIx (dVar 5) (dC (.int 0))) (daCons (dCall (c__law_any C_Town) (daCons (dVar 0) (daCons (dVar 10) daNil))) daNil))) (dSl (dVar 5) (doSome (dC (.int 2))) doNone)) daNil)))))
def R7__law_bend (C_Town : Addr) : DS :=
 (dsSeq (dsDrop (dMt isLst mAppend (dVar 10) (daCons (dTup (daCons (dBin fEq (dBin fIx (dVar 6) (dC (.int 0))) (dC (.int 1))) (daCons (dBin fIx (dVar 6) (dC (.int 1))) (daCons (dBin fIx (dVar 6) (dC (.int 2))) daNil)))) daNil)))
 (R8__law_bend C_Town))
def R6__law_bend (C_Town : Addr) : DS :=
 (dsSeq (dsAsg (dBin fAdd (dVar 10) (dLst (daCons (dTup (daCons (dBin fIx (dVar 6) (dC (.int 0))) (daCons (dC (.bl true)) (daCons (dBin fIx (dVar 6) (dC (.int 2))) daNil)))) (daCons (dTup (daCons (dBin fIx (dVar 6) (dC (.int 0))) (daCons (dBin fIx (dVar 6) (dC (.int 1))) (daCons (dCB fList (daCons (dBin fIx (dVar 6) (dC (.int 2))) daNil)) daNil)))) (daCons (dTup (daCons (dVar 4) (daCons (dC (.int 3)) (daCons (dTup (daCons (dC (.str "a")) daNil)) daNil)))) daNil))))) (dgName 10))
 (R7__law_bend C_Town))
def R5__law_bend (C_Town : Addr) : DS :=
 (dsSeq (dsAsg (dBin fAdd (dVar 10) (dLst (daCons (dCB fList (daCons (dVar 6) daNil)) (daCons (dSl (dVar 6) doNone (doSome (dC (.int 2)))) (daCons (dTup (daCons (dBin fIx (dVar 6) (dC (.int 0))) (daCons (dBin fIx (dVar 6) (dC (.int 1))) (daCons (dTup daNil) daNil)))) (daCons (dTup (daCons (dBin fIx (dVar 6) (dC (.int 0))) (daCons (dBin fIx (dVar 6) (dC (.int 1))) (daCons (dTup (daCons (dC (.str "A")) daNil)) daNil)))) (daCons (dC .non) daNil))))))) (dgName 10))
 (R6__law_bend C_Town))
def R10__law_bend (C_Town : Addr) : DS :=
 (dsRet (dTup (daCons (dC (.str "signed")) (daCons (dVar 4) (daCons (dBin fAdd (dSl (dVar 5) doNone (doSome (dC (.int 2)))) (dTup (daCons (dCall (c__law_any C_Town) (daCons (dVar 0) (daCons (dVar 11) daNil))) daNil))) daNil)))))
def R12__law_bend (C_Town : Addr) : DS :=
 (dsRet (dTup (daCons (dC (.str "signed")) (daCons (dVar 4) (daCons (dCall (c__law_any C_Town) (daCons (dVar 0) (daCons (dVar 8) daNil))) daNil)))))
def R14__law_bend (C_Town : Addr) : DS :=
 (dsRet (dCall (c__law_any C_Town) (daCons (dVar 0) (daCons (dBin fAdd (dVar 8) (dLst (daCons (dBin fAdd (dTup (daCons (dC (.str "Signed")) daNil)) (dSl (dVar 3) (doSome (dC (.int 1))) doNone)) daNil))) daNil))))
def R16__law_bend (C_Town : Addr) : DS :=
 (dsRet (dTup (daCons (dC (.str "signed")) (daCons (dVar 4) (daCons (dBin fIx (dVar 12) (dC (.int 2))) daNil)))))
def R18__law_bend (C_Town : Addr) : DS :=
 (dsRet (dCall (c__law_any C_Town) (daCons (dVar 0) (daCons (dVar 8) daNil))))
def R17__law_bend (C_Town : Addr) : DS :=
 (dsSeq (dsAsg (dLst (daCons (dC .non) (daCons (dTup daNil) (daCons dNewD (daCons (dC (.bl true)) (daCons (dC (.int 0)) (daCons (dC (.str "read")) (daCons (dLst daNil) (daCons (dCall (c__law_deep C_Town) (daCons (dVar 0) (daCons (dVar 3) daNil))) (daCons (dTup (daCons (dC (.str "signed")) (daCons (dVar 4) daNil))) (daCons (dTup (daCons (dC (.str "signed")) (daCons (dVar 4) (daCons (dVar 3) daNil)))) daNil))))))))))) (dgName 8))
 (R18__law_bend C_Town))
def R15__law_bend (C_Town : Addr) : DS :=
 (dsSeq (dsIf (dtV (dBin fEq (dVar 7) (dC (.int 6))))
 (dsSeq (dsAsg (dCall (c__law_drawn C_Town) (daCons (dVar 0) (daCons (dVar 1) (daCons (dVar 2) daNil)))) (dgName 12))
 (R16__law_bend C_Town))
 dsNext)
 (R17__law_bend C_Town))
def R13__law_bend (C_Town : Addr) : DS :=
 (dsSeq (dsIf (dtV (dBin fEq (dVar 7) (dC (.int 5))))
 (dsSeq (dsAsg (dLst (daCons (dBin fAdd (dTup (daCons (dC (.str "sealed")) daNil)) (dSl (dVar 3) (doSome (dC (.int 1))) doNone)) (daCons (dSl (dVar 3) doNone (doSome (dC (.int 2)))) (daCons (dBin fAdd (dVar 3) (dTup (daCons (dC (.int 0)) daNil))) (daCons (dCB fList (daCons (dVar 3) daNil)) (daCons (dTup (daCons (dVar 3) daNil)) (daCons (dVar 5) daNil))))))) (dgName 8))
 (R14__law_bend C_Town))
 dsNext)
 (R15__law_bend C_Town))
def R11__law_bend (C_Town : Addr) : DS :=
 (dsSeq (dsIf (dtV (dBin fEq (dVar 7) (dC (.int 4))))
 (dsSeq (dsAsg (dLst (daCons (dSl (dVar 5) doNone (doSome (dNeg (dC (.int 1))))) (daCons (dBin fAdd (dVar 5) (dTup (daCons (dC (.int 0)) daNil))) (daCons (dCB fList (daCons (dVar 5) daNil)) (daCons (dSl (dVar 5) doNone (doSome (dC (.int 1)))) (daCons (dTup daNil) (daCons (dBin fIx (dVar 5) (dC (.int 0))) (daCons (dTup (daCons (dVar 5) daNil)) (daCons (dC .non) daNil))))))))) (dgName 8))
 (R12__law_bend C_Town))
 dsNext)
 (R13__law_bend C_Town))
def R9__law_bend (C_Town : Addr) : DS :=
 (dsSeq (dsIf (dtV (dBin fEq (dVar 7) (dC (.int 3))))
 (dsSeq (dsAsg (dLst (daCons (dCB fLen (daCons (dVar 2) daNil)) (daCons (dNeg (dC (.int 1))) (daCons (dC (.int 0)) (daCons (dC (.int 19)) (daCons (dC (.bl true)) (daCons (dC (.bl false)) (daCons (dC .non) (daCons (dC (.str "0")) (daCons (dBin fPow (dC (.int 10)) (dC (.int 11))) (daCons (dTup (daCons (dC (.int 0)) daNil)) daNil))))))))))) (dgName 11))
 (R10__law_bend C_Town))
 dsNext)
 (R11__law_bend C_Town))
def R4__law_bend (C_Town : Addr) : DS :=
 (dsSeq (dsIf (dtV (dBin fEq (dVar 7) (dC (.int 2))))
 (dsSeq (dsAsg (dLst (daCons (dTup (daCons (dBin fIx (dVar 6) (dC (.int 0))) (daCons (dBin fPow (dC (.int 10)) (dC (.int 6))) (daCons (dBin fIx (dVar 6) (dC (.int 2))) daNil)))) (daCons (dTup (daCons (dC (.int 10)) (daCons (dBin fIx (dVar 6) (dC (.int 1))) (daCons (dBin fIx (dVar 6) (dC (.int 2))) daNil)))) (daCons (dTup (daCons (dNeg (dC (.int 1))) (daCons (dBin fIx (dVar 6) (dC (.int 1))) (daCons (dBin fIx (dVar 6) (dC (.int 2))) daNil)))) (daCons (dBin fIx (dVar 6) (dC (.int 2))) (daCons (dBin fAdd (dVar 6) (dTup (daCons (dC (.int 0)) daNil))) daNil)))))) (dgName 10))
 (R5__law_bend C_Town))
 dsNext)
 (R9__law_bend C_Town))
def R2__law_bend (C_Town : Addr) : DS :=
 (dsSeq (dsIf (dtV (dBin fEq (dVar 7) (dC (.int 1))))
 (dsSeq (dsAsg (dLst (daCons (dC (.str "gone")) (daCons (dC (.str "never")) (daCons (dC (.str "read")) (daCons (dC (.str "full")) (daCons (dC (.str "close")) (daCons (dC (.str "none")) (daCons (dC (.str "Read")) (daCons (dC (.str "")) (daCons (dC .non) (daCons (dC (.str "head")) (daCons (dC (.str "carried")) (daCons (dC (.int 1)) daNil))))))))))))) (dgName 9))
 (R3__law_bend C_Town))
 dsNext)
 (R4__law_bend C_Town))
def R1__law_bend (C_Town : Addr) : DS :=
 (dsSeq (dsIf (dtV (dBin fEq (dVar 7) (dC (.int 0))))
 (dsRet (dTup (daCons (dC (.str "signed")) (daCons (dCall (c__law_any C_Town) (daCons (dVar 0) (daCons (dLst (daCons (dBin fMod (dCB fInt (daCons (dBin fAdd (dVar 4) (dC (.int 1))) daNil)) (dVar 1)) (daCons (dVar 1) (daCons (dC (.int 9)) (daCons (dC (.int 10)) (daCons (dC (.bl true)) (daCons (dC .non) (daCons (dNeg (dC (.int 1))) (daCons (dCB fStrI (daCons (dVar 4) daNil)) daNil))))))))) daNil))) (daCons (dVar 5) daNil)))))
 dsNext)
 (R2__law_bend C_Town))
def R0__law_bend (C_Town : Addr) : DS :=
 (dsSeq (dsPar 6 7 (daCons (dBin fIx (dVar 5) (dC (.int 1))) (daCons (dCall (c__law_draw C_Town) (daCons (dVar 0) (daCons (dC (.int 8)) daNil))) daNil)))
 (R1__law_bend C_Town))
def B__law_bend (C_Town : Addr) : DS :=
 (dsSeq (dsPar 4 5 (daCons (dBin fIx (dVar 3) (dC (.int 1))) (daCons (dBin fIx (dVar 3) (dC (.int 2))) daNil)))
 (R0__law_bend C_Town))
/-- the names at the branches -/
def gB (h : Addr) (n : Int) (ws : List DV) (th : DV) (nd : Int) (inn mk : DV) (kd : Int) : Gm := [some (.ref h), some (.int n), some (.tup ws), some th, some (.int nd), some inn, some mk, some (.int kd), none, none, none, none, none]
theorem leb {a b : Nat} (h : Nat.ble a b = true) : a ≤ b := Nat.le_of_ble_eq_true h
section
variable {C_Town}
variable {h : Addr} {n : Int} {ws : List DV} {th : DV} {nd : Int} {inn mk : DV} {A : List Addr} {S : Sto} {Q : QV} {X : QX}
theorem b0 (hh : hk.H h A S) (n1 : 1 ≤ n) (n9 : n ≤ 9) (d0 : 0 ≤ nd) (d1 : nd < n) (gi : ∀ S, G C_Town S inn)
    (q : ∀ d' S', G C_Town S' d' → St hk h A S S' → Q d' S') : R1__law_bend C_Town (E0 Q X) (gB h n ws th nd inn mk 0) S := by
  simp only [R1__law_bend, gB, fEq, dvEqQ, decide_true, if_true, fMod, fInt, fAdd, fStrI, c__law_any, ↓dsSeq, ↓dsAsg, ↓dsPar, ↓dsPar3, ↓dsRet, ↓dsRetN, ↓dsDrop, ↓dsNext, ↓dsNo, ↓dsBreak, ↓dsCont, ↓dsFor, ↓dsIf_eq, ↓dsFld, ↓dTup, ↓dLst, ↓daNil, ↓daCons, ↓var_0, ↓var_s, ↓dC, ↓dCall, ↓dCB, ↓dMt, ↓dBin, ↓dChain_k, ↓dtV_k, ↓dtTru_k, ↓dtNot, ↓dtAnd_eq, ↓dtOr_eq, ↓dAnd_k, ↓dOr_k, ↓dNot_k, ↓dIf_eq, ↓dNeg, ↓dSl, ↓doNone, ↓doSome, ↓dgName, ↓dgNil, ↓dgCons, ↓dgTup, ↓dgSub, ↓dNewD, ↓dMake, ↓diSeq, ↓diEnum, ↓diRng1, ↓diRng2, ↓dComp, ↓truK_bl, ↓blK_bl, ↓fEq_i, ↓fEq_s, ↓fEq_b, ↓fNe_i, ↓fNe_s, ↓fNe_b, ↓fLt_i, ↓fLe_i, ↓fGt_i, ↓fGe_i, ↓fLe_s, ↓fLt_s, ↓fAdd_i, ↓fAdd_t, ↓fAdd_s, ↓fSub_i, ↓fMul_i, ↓fMod_i, ↓fDiv_i, ↓fPow_i, ↓fIx_0, ↓fIx_1, ↓fIx_2, ↓fIx_3, ↓fIx_4, ↓fLen_t, ↓fInt_i, ↓fInt_b, ↓fAbs_i, ↓fMax_i, ↓fMin_i, ↓fStrI_i, ↓fList_t, ↓fTuple_t, ↓fIs_n, ↓fIsNot_n, ↓fSl_t, ↓reduceIte, decide_true, decide_false, Bool.false_eq_true, Int.reduceEq, List.length_cons, List.length_nil, size_line, Nat.reduceAdd, Nat.reduceLeDiff, true_and, and_true, List.set_cons_succ, List.set_cons_zero, upd_s]
  have e9 : nd = 0 ∨ nd = 1 ∨ nd = 2 ∨ nd = 3 ∨ nd = 4 ∨ nd = 5 ∨ nd = 6 ∨ nd = 7 ∨ nd = 8 := by omega
  have e10 : nd.natAbs.log2 < 1920 ∧ Str.length (Str.ofString (toString nd)) ≤ 1000 := by
    rcases e9 with rfl | rfl | rfl | rfl | rfl | rfl | rfl | rfl | rfl <;> decide +kernel
  refine ⟨by omega, e10.1, fun p hp => any_ok (T := C_Town) (HK.upd hh (HK.ne hh hp)) upd_s (HK.ne hh hp) (by simp) (by simp) ?_ fun x S' g st => ?_⟩
  · repeat' (first | exact gnil | refine gcons ?_ ?_ | exact G_int | exact G_bl | exact G_non | exact G_str e10.2)
  · exact q _ S' (G_tup (gcons (G_str (by decide)) (gcons g (gcons (gi S') gnil))) (by simp)) ((St.new hh hp).trans st)
theorem b1 {w : Str} {rest : List DV} (hh : hk.H h A S) (gi : ∀ S, G C_Town S (.tup (.str w :: mk :: rest))) (hr : rest = [] ∨ ∃ x, rest = [x])
    (q : ∀ d' S', G C_Town S' d' → St hk h A S S' → Q d' S') : R2__law_bend C_Town (E0 Q X) (gB h n ws th nd (.tup (.str w :: mk :: rest)) mk 1) S := by
  simp only [R2__law_bend, gB, fEq, dvEqQ, decide_true, if_true, c__law_any, ↓dsSeq, ↓dsAsg, ↓dsPar, ↓dsPar3, ↓dsRet, ↓dsRetN, ↓dsDrop, ↓dsNext, ↓dsNo, ↓dsBreak, ↓dsCont, ↓dsFor, ↓dsIf_eq, ↓dsFld, ↓dTup, ↓dLst, ↓daNil, ↓daCons, ↓var_0, ↓var_s, ↓dC, ↓dCall, ↓dCB, ↓dMt, ↓dBin, ↓dChain_k, ↓dtV_k, ↓dtTru_k, ↓dtNot, ↓dtAnd_eq, ↓dtOr_eq, ↓dAnd_k, ↓dOr_k, ↓dNot_k, ↓dIf_eq, ↓dNeg, ↓dSl, ↓doNone, ↓doSome, ↓dgName, ↓dgNil, ↓dgCons, ↓dgTup, ↓dgSub, ↓dNewD, ↓dMake, ↓diSeq, ↓diEnum, ↓diRng1, ↓diRng2, ↓dComp, ↓truK_bl, ↓blK_bl, ↓fEq_i, ↓fEq_s, ↓fEq_b, ↓fNe_i, ↓fNe_s, ↓fNe_b, ↓fLt_i, ↓fLe_i, ↓fGt_i, ↓fGe_i, ↓fLe_s, ↓fLt_s, ↓fAdd_i, ↓fAdd_t, ↓fAdd_s, ↓fSub_i, ↓fMul_i, ↓fMod_i, ↓fDiv_i, ↓fPow_i, ↓fIx_0, ↓fIx_1, ↓fIx_2, ↓fIx_3, ↓fIx_4, ↓fLen_t, ↓fInt_i, ↓fInt_b, ↓fAbs_i, ↓fMax_i, ↓fMin_i, ↓fStrI_i, ↓fList_t, ↓fTuple_t, ↓fIs_n, ↓fIsNot_n, ↓fSl_t, ↓reduceIte, decide_true, decide_false, Bool.false_eq_true, Int.reduceEq, List.length_cons, List.length_nil, size_line, Nat.reduceAdd, Nat.reduceLeDiff, true_and, and_true, List.set_cons_succ, List.set_cons_zero, upd_s]
  intro p hp
  simp only [R3__law_bend, c__law_any, ↓dsSeq, ↓dsAsg, ↓dsPar, ↓dsPar3, ↓dsRet, ↓dsRetN, ↓dsDrop, ↓dsNext, ↓dsNo, ↓dsBreak, ↓dsCont, ↓dsFor, ↓dsIf_eq, ↓dsFld, ↓dTup, ↓dLst, ↓daNil, ↓daCons, ↓var_0, ↓var_s, ↓dC, ↓dCall, ↓dCB, ↓dMt, ↓dBin, ↓dChain_k, ↓dtV_k, ↓dtTru_k, ↓dtNot, ↓dtAnd_eq, ↓dtOr_eq, ↓dAnd_k, ↓dOr_k, ↓dNot_k, ↓dIf_eq, ↓dNeg, ↓dSl, ↓doNone, ↓doSome, ↓dgName, ↓dgNil, ↓dgCons, ↓dgTup, ↓dgSub, ↓dNewD, ↓dMake, ↓diSeq, ↓diEnum, ↓diRng1, ↓diRng2, ↓dComp, ↓truK_bl, ↓blK_bl, ↓fEq_i, ↓fEq_s, ↓fEq_b, ↓fNe_i, ↓fNe_s, ↓fNe_b, ↓fLt_i, ↓fLe_i, ↓fGt_i, ↓fGe_i, ↓fLe_s, ↓fLt_s, ↓fAdd_i, ↓fAdd_t, ↓fAdd_s, ↓fSub_i, ↓fMul_i, ↓fMod_i, ↓fDiv_i, ↓fPow_i, ↓fIx_0, ↓fIx_1, ↓fIx_2, ↓fIx_3, ↓fIx_4, ↓fLen_t, ↓fInt_i, ↓fInt_b, ↓fAbs_i, ↓fMax_i, ↓fMin_i, ↓fStrI_i, ↓fList_t, ↓fTuple_t, ↓fIs_n, ↓fIsNot_n, ↓fSl_t, ↓reduceIte, decide_true, decide_false, Bool.false_eq_true, Int.reduceEq, List.length_cons, List.length_nil, size_line, Nat.reduceAdd, Nat.reduceLeDiff, true_and, and_true, List.set_cons_succ, List.set_cons_zero, upd_s]
  refine any_ok (T := C_Town) (HK.upd hh (HK.ne hh hp)) upd_s (HK.ne hh hp) (by simp) (by simp) ?_ fun x S' g st => ?_
  · repeat' (first | exact gnil | refine gcons ?_ ?_ | exact G_int | exact G_bl | exact G_non | exact G_str (by decide))
  · have gm := G_mem (gi S')
    have st' := (St.new hh hp).trans st
    rcases hr with rfl | ⟨r, rfl⟩
    · show _ ∧ _
      exact ⟨leb rfl, q _ S' (G_tup (gcons (G_str (by decide)) (gcons G_int (gcons (G_tup (ds := [x, mk]) (gcons g (gcons (gm mk (by simp)) gnil)) (leb rfl)) gnil))) (by simp)) st'⟩
    · show _ ∧ _
      exact ⟨leb rfl, q _ S' (G_tup (gcons (G_str (by decide)) (gcons G_int (gcons (G_tup (ds := [x, mk, r]) (gcons g (gcons (gm mk (by simp)) (gcons (gm r (by simp)) gnil))) (leb rfl)) gnil))) (by simp)) st'⟩
theorem b3 {w : Str} {rest : List DV} (hh : hk.H h A S) (gi : ∀ S, G C_Town S (.tup (.str w :: mk :: rest))) (hr : rest = [] ∨ ∃ x, rest = [x])
    (q : ∀ d' S', G C_Town S' d' → St hk h A S S' → Q d' S') : R9__law_bend C_Town (E0 Q X) (gB h n ws th nd (.tup (.str w :: mk :: rest)) mk 3) S := by
  simp only [R9__law_bend, gB, fEq, dvEqQ, decide_true, if_true, fLen, seqOf, fPow, c__law_any, ↓dsSeq, ↓dsAsg, ↓dsPar, ↓dsPar3, ↓dsRet, ↓dsRetN, ↓dsDrop, ↓dsNext, ↓dsNo, ↓dsBreak, ↓dsCont, ↓dsFor, ↓dsIf_eq, ↓dsFld, ↓dTup, ↓dLst, ↓daNil, ↓daCons, ↓var_0, ↓var_s, ↓dC, ↓dCall, ↓dCB, ↓dMt, ↓dBin, ↓dChain_k, ↓dtV_k, ↓dtTru_k, ↓dtNot, ↓dtAnd_eq, ↓dtOr_eq, ↓dAnd_k, ↓dOr_k, ↓dNot_k, ↓dIf_eq, ↓dNeg, ↓dSl, ↓doNone, ↓doSome, ↓dgName, ↓dgNil, ↓dgCons, ↓dgTup, ↓dgSub, ↓dNewD, ↓dMake, ↓diSeq, ↓diEnum, ↓diRng1, ↓diRng2, ↓dComp, ↓truK_bl, ↓blK_bl, ↓fEq_i, ↓fEq_s, ↓fEq_b, ↓fNe_i, ↓fNe_s, ↓fNe_b, ↓fLt_i, ↓fLe_i, ↓fGt_i, ↓fGe_i, ↓fLe_s, ↓fLt_s, ↓fAdd_i, ↓fAdd_t, ↓fAdd_s, ↓fSub_i, ↓fMul_i, ↓fMod_i, ↓fDiv_i, ↓fPow_i, ↓fIx_0, ↓fIx_1, ↓fIx_2, ↓fIx_3, ↓fIx_4, ↓fLen_t, ↓fInt_i, ↓fInt_b, ↓fAbs_i, ↓fMax_i, ↓fMin_i, ↓fStrI_i, ↓fList_t, ↓fTuple_t, ↓fIs_n, ↓fIsNot_n, ↓fSl_t, ↓reduceIte, decide_true, decide_false, Bool.false_eq_true, Int.reduceEq, List.length_cons, List.length_nil, size_line, Nat.reduceAdd, Nat.reduceLeDiff, true_and, and_true, List.set_cons_succ, List.set_cons_zero, upd_s]
  refine ⟨by decide, fun p hp => ?_⟩
  simp only [R10__law_bend, c__law_any, ↓dsSeq, ↓dsAsg, ↓dsPar, ↓dsPar3, ↓dsRet, ↓dsRetN, ↓dsDrop, ↓dsNext, ↓dsNo, ↓dsBreak, ↓dsCont, ↓dsFor, ↓dsIf_eq, ↓dsFld, ↓dTup, ↓dLst, ↓daNil, ↓daCons, ↓var_0, ↓var_s, ↓dC, ↓dCall, ↓dCB, ↓dMt, ↓dBin, ↓dChain_k, ↓dtV_k, ↓dtTru_k, ↓dtNot, ↓dtAnd_eq, ↓dtOr_eq, ↓dAnd_k, ↓dOr_k, ↓dNot_k, ↓dIf_eq, ↓dNeg, ↓dSl, ↓doNone, ↓doSome, ↓dgName, ↓dgNil, ↓dgCons, ↓dgTup, ↓dgSub, ↓dNewD, ↓dMake, ↓diSeq, ↓diEnum, ↓diRng1, ↓diRng2, ↓dComp, ↓truK_bl, ↓blK_bl, ↓fEq_i, ↓fEq_s, ↓fEq_b, ↓fNe_i, ↓fNe_s, ↓fNe_b, ↓fLt_i, ↓fLe_i, ↓fGt_i, ↓fGe_i, ↓fLe_s, ↓fLt_s, ↓fAdd_i, ↓fAdd_t, ↓fAdd_s, ↓fSub_i, ↓fMul_i, ↓fMod_i, ↓fDiv_i, ↓fPow_i, ↓fIx_0, ↓fIx_1, ↓fIx_2, ↓fIx_3, ↓fIx_4, ↓fLen_t, ↓fInt_i, ↓fInt_b, ↓fAbs_i, ↓fMax_i, ↓fMin_i, ↓fStrI_i, ↓fList_t, ↓fTuple_t, ↓fIs_n, ↓fIsNot_n, ↓fSl_t, ↓reduceIte, decide_true, decide_false, Bool.false_eq_true, Int.reduceEq, List.length_cons, List.length_nil, size_line, Nat.reduceAdd, Nat.reduceLeDiff, true_and, and_true, List.set_cons_succ, List.set_cons_zero, upd_s]
  have hpA := HK.ne hh hp
  have gw := G_mem (gi S)
  have fin : ∀ S1, St hk h A S S1 → S1 p = some (.lst [.int ws.length, .int (-1), .int 0, .int 19, .bl true, .bl false, .non, .str "0", .int (10 ^ (11 : Int).toNat), .tup [.int 0]]) → anyC hk [.ref h, .ref p] S1 (fun x S2 => [DV.str w, mk].length ≤ 16777215 ∧ Q (.tup [.str "signed", .int nd, .tup ([.str w, mk] ++ [x])]) S2) (fun x S1 => X x S1) := fun S1 st1 e => by
    refine any_ok (T := C_Town) st1.2.1 e hpA (by simp) (by simp) ?_ fun x S' g st => ?_
    · repeat' (first | exact gnil | refine gcons ?_ ?_ | exact G_int | exact G_bl | exact G_non | exact G_str (by decide) | refine G_tup ?_ (leb rfl))
    · have gm := G_mem (gi S')
      exact ⟨leb rfl, q _ S' (G_tup (gcons (G_str (by decide)) (gcons G_int (gcons (G_tup (ds := [.str w, mk, x]) (gcons (gm _ (by simp)) (gcons (gm mk (by simp)) (gcons g gnil))) (leb rfl)) gnil))) (by simp)) (st1.trans st)⟩
  rcases hr with rfl | ⟨r, rfl⟩
  · rw [show M.cutD [DV.str w, mk] none (some 2) = [.str w, mk] from rfl]
    exact fin _ (St.new hh hp) upd_s
  · rw [show M.cutD [DV.str w, mk, r] none (some 2) = [.str w, mk] from rfl]
    exact fin _ (St.new hh hp) upd_s
theorem b2 {w : Str} {sd k : Int} {zs : DV} {zl : List DV} {rest : List DV} (hz : zs = .tup zl) (hh : hk.H h A S) (gm : ∀ S, G C_Town S (.tup [.int sd, .int k, zs])) (gi : ∀ S, G C_Town S (.tup (.str w :: .tup [.int sd, .int k, zs] :: rest))) (hr : rest = [] ∨ ∃ x, rest = [x])
    (q : ∀ d' S', G C_Town S' d' → St hk h A S S' → Q d' S') : R4__law_bend C_Town (E0 Q X) (gB h n ws th nd (.tup (.str w :: .tup [.int sd, .int k, zs] :: rest)) (.tup [.int sd, .int k, zs]) 2) S := by
  have gz : ∀ S, G C_Town S zs := fun S => G_mem (gm S) _ (by simp)
  simp only [↓R4__law_bend, gB, ↓dsSeq, ↓dsAsg, ↓dsPar, ↓dsPar3, ↓dsRet, ↓dsRetN, ↓dsDrop, ↓dsNext, ↓dsNo, ↓dsBreak, ↓dsCont, ↓dsFor, ↓dsIf_eq, ↓dsFld, ↓dTup, ↓dLst, ↓daNil, ↓daCons, ↓var_0, ↓var_s, ↓dC, ↓dCall, ↓dCB, ↓dMt, ↓dBin, ↓dChain_k, ↓dtV_k, ↓dtTru_k, ↓dtNot, ↓dtAnd_eq, ↓dtOr_eq, ↓dAnd_k, ↓dOr_k, ↓dNot_k, ↓dIf_eq, ↓dNeg, ↓dSl, ↓doNone, ↓doSome, ↓dgName, ↓dgNil, ↓dgCons, ↓dgTup, ↓dgSub, ↓dNewD, ↓dMake, ↓diSeq, ↓diEnum, ↓diRng1, ↓diRng2, ↓dComp, ↓truK_bl, ↓blK_bl, ↓fEq_i, ↓fEq_s, ↓fEq_b, ↓fNe_i, ↓fNe_s, ↓fNe_b, ↓fLt_i, ↓fLe_i, ↓fGt_i, ↓fGe_i, ↓fLe_s, ↓fLt_s, ↓fAdd_i, ↓fAdd_t, ↓fAdd_s, ↓fSub_i, ↓fMul_i, ↓fMod_i, ↓fDiv_i, ↓fPow_i, ↓fIx_0, ↓fIx_1, ↓fIx_2, ↓fIx_3, ↓fIx_4, ↓fLen_t, ↓fInt_i, ↓fInt_b, ↓fAbs_i, ↓fMax_i, ↓fMin_i, ↓fStrI_i, ↓fList_t, ↓fTuple_t, ↓fIs_n, ↓fIsNot_n, ↓fSl_t, ↓reduceIte, decide_true, decide_false, Bool.false_eq_true, Int.reduceEq, List.length_cons, List.length_nil, size_line, Nat.reduceAdd, Nat.reduceLeDiff, true_and, and_true, List.set_cons_succ, List.set_cons_zero, upd_s]
  refine ⟨by decide, fun p1 hp1 => ?_⟩
  obtain ⟨S1, hS1⟩ : ∃ S1, S1 = S.upd p1 (.lst [.tup [.int sd, .int (10 ^ (6 : Int).toNat), zs], .tup [.int 10, .int k, zs], .tup [.int (-1), .int k, zs], zs, .tup ([.int sd, .int k, zs] ++ [.int 0])]) := ⟨_, rfl⟩
  have e1 : S1 p1 = some (.lst [.tup [.int sd, .int (10 ^ (6 : Int).toNat), zs], .tup [.int 10, .int k, zs], .tup [.int (-1), .int k, zs], zs, .tup ([.int sd, .int k, zs] ++ [.int 0])]) := by rw [hS1, upd_s]
  have st1 : St hk h A S S1 := by rw [hS1]; exact St.new hh hp1
  rw [← hS1]
  simp only [↓R5__law_bend, ↓dsSeq, ↓dsAsg, ↓dsPar, ↓dsPar3, ↓dsRet, ↓dsRetN, ↓dsDrop, ↓dsNext, ↓dsNo, ↓dsBreak, ↓dsCont, ↓dsFor, ↓dsIf_eq, ↓dsFld, ↓dTup, ↓dLst, ↓daNil, ↓daCons, ↓var_0, ↓var_s, ↓dC, ↓dCall, ↓dCB, ↓dMt, ↓dBin, ↓dChain_k, ↓dtV_k, ↓dtTru_k, ↓dtNot, ↓dtAnd_eq, ↓dtOr_eq, ↓dAnd_k, ↓dOr_k, ↓dNot_k, ↓dIf_eq, ↓dNeg, ↓dSl, ↓doNone, ↓doSome, ↓dgName, ↓dgNil, ↓dgCons, ↓dgTup, ↓dgSub, ↓dNewD, ↓dMake, ↓diSeq, ↓diEnum, ↓diRng1, ↓diRng2, ↓dComp, ↓truK_bl, ↓blK_bl, ↓fEq_i, ↓fEq_s, ↓fEq_b, ↓fNe_i, ↓fNe_s, ↓fNe_b, ↓fLt_i, ↓fLe_i, ↓fGt_i, ↓fGe_i, ↓fLe_s, ↓fLt_s, ↓fAdd_i, ↓fAdd_t, ↓fAdd_s, ↓fSub_i, ↓fMul_i, ↓fMod_i, ↓fDiv_i, ↓fPow_i, ↓fIx_0, ↓fIx_1, ↓fIx_2, ↓fIx_3, ↓fIx_4, ↓fLen_t, ↓fInt_i, ↓fInt_b, ↓fAbs_i, ↓fMax_i, ↓fMin_i, ↓fStrI_i, ↓fList_t, ↓fTuple_t, ↓fIs_n, ↓fIsNot_n, ↓fSl_t, ↓reduceIte, decide_true, decide_false, Bool.false_eq_true, Int.reduceEq, List.length_cons, List.length_nil, size_line, Nat.reduceAdd, Nat.reduceLeDiff, true_and, and_true, List.set_cons_succ, List.set_cons_zero, upd_s]
  intro pA hA
  obtain ⟨S2, hS2⟩ : ∃ S2, S2 = S1.upd pA (.lst [.int sd, .int k, zs]) := ⟨_, rfl⟩
  have nw2 : Nw S1 S2 := by rw [hS2]; exact Nw.new hA
  have eA : S2 pA = some (.lst [.int sd, .int k, zs]) := by rw [hS2, upd_s]
  rw [← hS2]
  intro pB hB
  obtain ⟨S3, hS3⟩ : ∃ S3, S3 = S2.upd pB (.lst [.ref pA, .tup [.int sd, .int k], .tup [.int sd, .int k, .tup []], .tup [.int sd, .int k, .tup [.str "A"]], .non]) := ⟨_, rfl⟩
  have nw3 : Nw S2 S3 := by rw [hS3]; exact Nw.new hB
  have eB : S3 pB = some (.lst [.ref pA, .tup [.int sd, .int k], .tup [.int sd, .int k, .tup []], .tup [.int sd, .int k, .tup [.str "A"]], .non]) := by rw [hS3, upd_s]
  rw [show (M.cutD [DV.int sd, .int k, zs] none (some 2)) = [.int sd, .int k] from rfl]
  show fAdd (.ref p1) (.ref pB) (S2.upd pB (.lst [.ref pA, .tup [.int sd, .int k], .tup [.int sd, .int k, .tup []], .tup [.int sd, .int k, .tup [.str "A"]], .non])) _
  rw [← hS3]
  rw [ref_cat (nw3 _ _ (nw2 _ _ e1)) eB]
  refine ⟨leb rfl, fun pC hC => ?_⟩
  obtain ⟨L4, hL4⟩ : ∃ L : List DV, L = [.tup [.int sd, .int (10 ^ (6 : Int).toNat), zs], .tup [.int 10, .int k, zs], .tup [.int (-1), .int k, zs], zs, .tup ([.int sd, .int k, zs] ++ [.int 0])] ++ [.ref pA, .tup [.int sd, .int k], .tup [.int sd, .int k, .tup []], .tup [.int sd, .int k, .tup [.str "A"]], .non] := ⟨_, rfl⟩
  have g4 : ∀ x ∈ L4, G C_Town S3 x := by
    rw [hL4]
    show ∀ x ∈ [DV.tup [.int sd, .int (10 ^ (6 : Int).toNat), zs], .tup [.int 10, .int k, zs], .tup [.int (-1), .int k, zs], zs, .tup [.int sd, .int k, zs, .int 0], .ref pA, .tup [.int sd, .int k], .tup [.int sd, .int k, .tup []], .tup [.int sd, .int k, .tup [.str "A"]], .non], G C_Town S3 x
    repeat' (first | exact gnil | refine gcons ?_ ?_ | exact G_int | exact G_bl | exact G_non | exact G_str (by decide) | exact gz _ | exact G_lst (nw3 _ _ eA) | refine G_tup ?_ (leb rfl))
  have l4 : L4.length = 10 := by rw [hL4]; rfl
  obtain ⟨S4, hS4⟩ : ∃ S4, S4 = S3.upd pC (.lst L4) := ⟨_, rfl⟩
  have nw4 : Nw S3 S4 := by rw [hS4]; exact Nw.new hC
  have e4 : S4 pC = some (.lst L4) := by rw [hS4, upd_s]
  have st4 : St hk h A S S4 := st1.trans (St.nw st1.2.1 ((nw2.trans nw3).trans nw4))
  rw [← hL4, ← hS4]
  subst hz
  simp only [↓R6__law_bend, ↓dsSeq, ↓dsAsg, ↓dsPar, ↓dsPar3, ↓dsRet, ↓dsRetN, ↓dsDrop, ↓dsNext, ↓dsNo, ↓dsBreak, ↓dsCont, ↓dsFor, ↓dsIf_eq, ↓dsFld, ↓dTup, ↓dLst, ↓daNil, ↓daCons, ↓var_0, ↓var_s, ↓dC, ↓dCall, ↓dCB, ↓dMt, ↓dBin, ↓dChain_k, ↓dtV_k, ↓dtTru_k, ↓dtNot, ↓dtAnd_eq, ↓dtOr_eq, ↓dAnd_k, ↓dOr_k, ↓dNot_k, ↓dIf_eq, ↓dNeg, ↓dSl, ↓doNone, ↓doSome, ↓dgName, ↓dgNil, ↓dgCons, ↓dgTup, ↓dgSub, ↓dNewD, ↓dMake, ↓diSeq, ↓diEnum, ↓diRng1, ↓diRng2, ↓dComp, ↓truK_bl, ↓blK_bl, ↓fEq_i, ↓fEq_s, ↓fEq_b, ↓fNe_i, ↓fNe_s, ↓fNe_b, ↓fLt_i, ↓fLe_i, ↓fGt_i, ↓fGe_i, ↓fLe_s, ↓fLt_s, ↓fAdd_i, ↓fAdd_t, ↓fAdd_s, ↓fSub_i, ↓fMul_i, ↓fMod_i, ↓fDiv_i, ↓fPow_i, ↓fIx_0, ↓fIx_1, ↓fIx_2, ↓fIx_3, ↓fIx_4, ↓fLen_t, ↓fInt_i, ↓fInt_b, ↓fAbs_i, ↓fMax_i, ↓fMin_i, ↓fStrI_i, ↓fList_t, ↓fTuple_t, ↓fIs_n, ↓fIsNot_n, ↓fSl_t, ↓reduceIte, decide_true, decide_false, Bool.false_eq_true, Int.reduceEq, List.length_cons, List.length_nil, size_line, Nat.reduceAdd, Nat.reduceLeDiff, true_and, and_true, List.set_cons_succ, List.set_cons_zero, upd_s]
  intro pD hD
  obtain ⟨S5, hS5⟩ : ∃ S5, S5 = S4.upd pD (.lst zl) := ⟨_, rfl⟩
  have nw5 : Nw S4 S5 := by rw [hS5]; exact Nw.new hD
  have eD : S5 pD = some (.lst zl) := by rw [hS5, upd_s]
  rw [← hS5]
  intro pE hE
  obtain ⟨L6, hL6⟩ : ∃ L : List DV, L = [.tup [.int sd, .bl true, .tup zl], .tup [.int sd, .int k, .ref pD], .tup [.int nd, .int 3, .tup [.str "a"]]] := ⟨_, rfl⟩
  obtain ⟨S6, hS6⟩ : ∃ S6, S6 = S5.upd pE (.lst L6) := ⟨_, rfl⟩
  have nw6 : Nw S5 S6 := by rw [hS6]; exact Nw.new hE
  have e6 : S6 pE = some (.lst L6) := by rw [hS6, upd_s]
  have g6 : ∀ x ∈ L6, G C_Town S6 x := by
    rw [hL6]
    repeat' (first | exact gnil | refine gcons ?_ ?_ | exact G_int | exact G_bl | exact G_non | exact G_str (by decide) | exact gz _ | exact G_lst (nw6 _ _ eD) | refine G_tup ?_ (leb rfl))
  have l6 : L6.length = 3 := by rw [hL6]; rfl
  rw [← hL6, ← hS6]
  rw [ref_cat (nw6 _ _ (nw5 _ _ e4)) e6]
  refine ⟨by rw [l4, l6]; exact leb rfl, fun pF hF => ?_⟩
  obtain ⟨S7, hS7⟩ : ∃ S7, S7 = S6.upd pF (.lst (L4 ++ L6)) := ⟨_, rfl⟩
  have nw7 : Nw S6 S7 := by rw [hS7]; exact Nw.new hF
  have e7 : S7 pF = some (.lst (L4 ++ L6)) := by rw [hS7, upd_s]
  have st7 : St hk h A S S7 := st4.trans (St.nw st4.2.1 ((nw5.trans nw6).trans nw7))
  have hFA : pF ∉ A := HK.ne (st4.trans (St.nw st4.2.1 (nw5.trans nw6))).2.1 hF
  rw [← hS7]
  simp only [↓R7__law_bend, isLst, mAppend, e7, ↓dsSeq, ↓dsAsg, ↓dsPar, ↓dsPar3, ↓dsRet, ↓dsRetN, ↓dsDrop, ↓dsNext, ↓dsNo, ↓dsBreak, ↓dsCont, ↓dsFor, ↓dsIf_eq, ↓dsFld, ↓dTup, ↓dLst, ↓daNil, ↓daCons, ↓var_0, ↓var_s, ↓dC, ↓dCall, ↓dCB, ↓dMt, ↓dBin, ↓dChain_k, ↓dtV_k, ↓dtTru_k, ↓dtNot, ↓dtAnd_eq, ↓dtOr_eq, ↓dAnd_k, ↓dOr_k, ↓dNot_k, ↓dIf_eq, ↓dNeg, ↓dSl, ↓doNone, ↓doSome, ↓dgName, ↓dgNil, ↓dgCons, ↓dgTup, ↓dgSub, ↓dNewD, ↓dMake, ↓diSeq, ↓diEnum, ↓diRng1, ↓diRng2, ↓dComp, ↓truK_bl, ↓blK_bl, ↓fEq_i, ↓fEq_s, ↓fEq_b, ↓fNe_i, ↓fNe_s, ↓fNe_b, ↓fLt_i, ↓fLe_i, ↓fGt_i, ↓fGe_i, ↓fLe_s, ↓fLt_s, ↓fAdd_i, ↓fAdd_t, ↓fAdd_s, ↓fSub_i, ↓fMul_i, ↓fMod_i, ↓fDiv_i, ↓fPow_i, ↓fIx_0, ↓fIx_1, ↓fIx_2, ↓fIx_3, ↓fIx_4, ↓fLen_t, ↓fInt_i, ↓fInt_b, ↓fAbs_i, ↓fMax_i, ↓fMin_i, ↓fStrI_i, ↓fList_t, ↓fTuple_t, ↓fIs_n, ↓fIsNot_n, ↓fSl_t, ↓reduceIte, decide_true, decide_false, Bool.false_eq_true, Int.reduceEq, List.length_cons, List.length_nil, size_line, Nat.reduceAdd, Nat.reduceLeDiff, true_and, and_true, List.set_cons_succ, List.set_cons_zero, upd_s]
  refine ⟨by rw [List.length_append, l4, l6]; exact leb rfl, ?_⟩
  have st8 : St hk h A S (S7.upd pF (.lst (L4 ++ L6 ++ [.tup [.bl (decide (sd = 1)), .int k, .tup zl]]))) := by
    have hF0 : S pF = none := St.none (st4.trans (St.nw st4.2.1 (nw5.trans nw6))) hF
    exact St.part hh (HK.upd st7.2.1 hFA) hF0 fun a o ha hn e => by rw [upd_n hn]; exact st7.2.2 a o ha e
  have x8 : Ext S7 (S7.upd pF (.lst (L4 ++ L6 ++ [.tup [.bl (decide (sd = 1)), .int k, .tup zl]]))) := Ext.wr e7 rfl
  have fin : ∀ inn : List DV, (∀ S, G C_Town S (.tup (.str w :: inn))) → inn.length ≤ 5 → anyC hk [.ref h, .ref pF] (S7.upd pF (.lst (L4 ++ L6 ++ [.tup [.bl (decide (sd = 1)), .int k, .tup zl]]))) (fun x S1 => ([DV.str w, x].length + (inn.drop 1).length ≤ sizeLine ∧ Q (.tup [.str "signed", .int nd, .tup ([.str w, x] ++ inn.drop 1)]) S1)) (fun x S1 => X x S1) := fun inn gn hl => by
    refine any_ok (T := C_Town) st8.2.1 upd_s hFA (by simp) (by simp [l4, l6]) ?_ fun x S' g st => ?_
    · intro x hx
      rcases List.mem_append.mp hx with hx | hx
      · rcases List.mem_append.mp hx with hx | hx
        · exact (g4 x hx).mono (((nw4.trans nw5).trans (nw6.trans nw7)).ext.trans x8)
        · exact (g6 x hx).mono (nw7.ext.trans x8)
      · rw [List.mem_singleton.mp hx]
        exact G_tup (gcons G_bl (gcons G_int (gcons (gz _) gnil))) (leb rfl)
    · have gm2 := G_mem (gn S')
      refine ⟨by simp; omega, q _ S' (G_tup (gcons (G_str (by decide)) (gcons G_int (gcons (G_tup ?_ (by simp; omega)) gnil))) (by simp)) (st8.trans st)⟩
      exact gcons (gm2 _ (by simp)) (gcons g fun d hd => gm2 d (List.mem_cons_of_mem _ (List.mem_of_mem_drop hd)))
  simp only [↓R8__law_bend, c__law_any, ↓dsSeq, ↓dsAsg, ↓dsPar, ↓dsPar3, ↓dsRet, ↓dsRetN, ↓dsDrop, ↓dsNext, ↓dsNo, ↓dsBreak, ↓dsCont, ↓dsFor, ↓dsIf_eq, ↓dsFld, ↓dTup, ↓dLst, ↓daNil, ↓daCons, ↓var_0, ↓var_s, ↓dC, ↓dCall, ↓dCB, ↓dMt, ↓dBin, ↓dChain_k, ↓dtV_k, ↓dtTru_k, ↓dtNot, ↓dtAnd_eq, ↓dtOr_eq, ↓dAnd_k, ↓dOr_k, ↓dNot_k, ↓dIf_eq, ↓dNeg, ↓dSl, ↓doNone, ↓doSome, ↓dgName, ↓dgNil, ↓dgCons, ↓dgTup, ↓dgSub, ↓dNewD, ↓dMake, ↓diSeq, ↓diEnum, ↓diRng1, ↓diRng2, ↓dComp, ↓truK_bl, ↓blK_bl, ↓fEq_i, ↓fEq_s, ↓fEq_b, ↓fNe_i, ↓fNe_s, ↓fNe_b, ↓fLt_i, ↓fLe_i, ↓fGt_i, ↓fGe_i, ↓fLe_s, ↓fLt_s, ↓fAdd_i, ↓fAdd_t, ↓fAdd_s, ↓fSub_i, ↓fMul_i, ↓fMod_i, ↓fDiv_i, ↓fPow_i, ↓fIx_0, ↓fIx_1, ↓fIx_2, ↓fIx_3, ↓fIx_4, ↓fLen_t, ↓fInt_i, ↓fInt_b, ↓fAbs_i, ↓fMax_i, ↓fMin_i, ↓fStrI_i, ↓fList_t, ↓fTuple_t, ↓fIs_n, ↓fIsNot_n, ↓fSl_t, ↓reduceIte, decide_true, decide_false, Bool.false_eq_true, Int.reduceEq, List.length_cons, List.length_nil, size_line, Nat.reduceAdd, Nat.reduceLeDiff, true_and, and_true, List.set_cons_succ, List.set_cons_zero, upd_s]
  rcases hr with rfl | ⟨r, rfl⟩
  · exact fin [.tup [.int sd, .int k, .tup zl]] gi (by simp)
  · exact fin [.tup [.int sd, .int k, .tup zl], r] gi (by simp)
theorem b4 {w : Str} {rest : List DV} (hh : hk.H h A S) (gi : ∀ S, G C_Town S (.tup (.str w :: mk :: rest))) (hr : rest = [] ∨ ∃ x, rest = [x])
    (q : ∀ d' S', G C_Town S' d' → St hk h A S S' → Q d' S') : R11__law_bend C_Town (E0 Q X) (gB h n ws th nd (.tup (.str w :: mk :: rest)) mk 4) S := by
  obtain ⟨inn, hi⟩ : ∃ inn, inn = DV.str w :: mk :: rest := ⟨_, rfl⟩
  have il : inn.length ≤ 3 := by
    rw [hi]
    rcases hr with rfl | ⟨r, rfl⟩ <;> simp
  have rl : rest.length ≤ 1 := by
    rcases hr with rfl | ⟨r, rfl⟩ <;> simp
  have g0 : G C_Town S (.str w) := G_mem (gi S) _ (by simp)
  simp only [↓R11__law_bend, gB, ↓dsSeq, ↓dsAsg, ↓dsPar, ↓dsPar3, ↓dsRet, ↓dsRetN, ↓dsDrop, ↓dsNext, ↓dsNo, ↓dsBreak, ↓dsCont, ↓dsFor, ↓dsIf_eq, ↓dsFld, ↓dTup, ↓dLst, ↓daNil, ↓daCons, ↓var_0, ↓var_s, ↓dC, ↓dCall, ↓dCB, ↓dMt, ↓dBin, ↓dChain_k, ↓dtV_k, ↓dtTru_k, ↓dtNot, ↓dtAnd_eq, ↓dtOr_eq, ↓dAnd_k, ↓dOr_k, ↓dNot_k, ↓dIf_eq, ↓dNeg, ↓dSl, ↓doNone, ↓doSome, ↓dgName, ↓dgNil, ↓dgCons, ↓dgTup, ↓dgSub, ↓dNewD, ↓dMake, ↓diSeq, ↓diEnum, ↓diRng1, ↓diRng2, ↓dComp, ↓truK_bl, ↓blK_bl, ↓fEq_i, ↓fEq_s, ↓fEq_b, ↓fNe_i, ↓fNe_s, ↓fNe_b, ↓fLt_i, ↓fLe_i, ↓fGt_i, ↓fGe_i, ↓fLe_s, ↓fLt_s, ↓fAdd_i, ↓fAdd_t, ↓fAdd_s, ↓fSub_i, ↓fMul_i, ↓fMod_i, ↓fDiv_i, ↓fPow_i, ↓fIx_0, ↓fIx_1, ↓fIx_2, ↓fIx_3, ↓fIx_4, ↓fLen_t, ↓fInt_i, ↓fInt_b, ↓fAbs_i, ↓fMax_i, ↓fMin_i, ↓fStrI_i, ↓fList_t, ↓fTuple_t, ↓fIs_n, ↓fIsNot_n, ↓fSl_t, ↓reduceIte, decide_true, decide_false, Bool.false_eq_true, Int.reduceEq, List.length_cons, List.length_nil, size_line, Nat.reduceAdd, Nat.reduceLeDiff, true_and, and_true, List.set_cons_succ, List.set_cons_zero, upd_s]
  rw [← hi] at gi ⊢
  refine ⟨by omega, fun pA hA pB hB => ?_⟩
  have eA : (S.upd pA (.lst inn)) pA = some (.lst inn) := upd_s
  have nw1 : Nw S (S.upd pA (.lst inn)) := Nw.new hA
  have gm : ∀ S, ∀ d ∈ inn, G C_Town S d := fun S => G_mem (gi S)
  have gsub : ∀ S, ∀ l : List DV, (∀ d ∈ l, d ∈ inn) → l.length ≤ 3 → G C_Town S (.tup l) := fun S l hl h3 => G_tup (fun d hd => gm S d (hl d hd)) (by omega)
  have cm : ∀ lo hi, ∀ d ∈ M.cutD inn lo hi, d ∈ inn := fun lo hi d hd => List.mem_of_mem_drop (List.mem_of_mem_take hd)
  have cl : ∀ lo hi, (M.cutD inn lo hi).length ≤ 3 := fun lo hi => by
    refine Nat.le_trans ?_ il
    simp only [M.cutD, List.length_take, List.length_drop]
    omega
  have st1 : St hk h A S (S.upd pA (.lst inn)) := St.new hh hA
  have hB' := HK.ne st1.2.1 hB
  simp only [↓R12__law_bend, c__law_any, ↓dsSeq, ↓dsAsg, ↓dsPar, ↓dsPar3, ↓dsRet, ↓dsRetN, ↓dsDrop, ↓dsNext, ↓dsNo, ↓dsBreak, ↓dsCont, ↓dsFor, ↓dsIf_eq, ↓dsFld, ↓dTup, ↓dLst, ↓daNil, ↓daCons, ↓var_0, ↓var_s, ↓dC, ↓dCall, ↓dCB, ↓dMt, ↓dBin, ↓dChain_k, ↓dtV_k, ↓dtTru_k, ↓dtNot, ↓dtAnd_eq, ↓dtOr_eq, ↓dAnd_k, ↓dOr_k, ↓dNot_k, ↓dIf_eq, ↓dNeg, ↓dSl, ↓doNone, ↓doSome, ↓dgName, ↓dgNil, ↓dgCons, ↓dgTup, ↓dgSub, ↓dNewD, ↓dMake, ↓diSeq, ↓diEnum, ↓diRng1, ↓diRng2, ↓dComp, ↓truK_bl, ↓blK_bl, ↓fEq_i, ↓fEq_s, ↓fEq_b, ↓fNe_i, ↓fNe_s, ↓fNe_b, ↓fLt_i, ↓fLe_i, ↓fGt_i, ↓fGe_i, ↓fLe_s, ↓fLt_s, ↓fAdd_i, ↓fAdd_t, ↓fAdd_s, ↓fSub_i, ↓fMul_i, ↓fMod_i, ↓fDiv_i, ↓fPow_i, ↓fIx_0, ↓fIx_1, ↓fIx_2, ↓fIx_3, ↓fIx_4, ↓fLen_t, ↓fInt_i, ↓fInt_b, ↓fAbs_i, ↓fMax_i, ↓fMin_i, ↓fStrI_i, ↓fList_t, ↓fTuple_t, ↓fIs_n, ↓fIsNot_n, ↓fSl_t, ↓reduceIte, decide_true, decide_false, Bool.false_eq_true, Int.reduceEq, List.length_cons, List.length_nil, size_line, Nat.reduceAdd, Nat.reduceLeDiff, true_and, and_true, List.set_cons_succ, List.set_cons_zero, upd_s]
  refine any_ok (T := C_Town) (HK.upd st1.2.1 hB') upd_s hB' (by simp) (by simp) ?_ fun x S' g st => ?_
  · intro d hd
    refine G.mono (S := S.upd pA (.lst inn)) ?_ (Ext.new hB)
    revert d
    refine gcons (gsub _ _ (cm _ _) (cl _ _)) (gcons (G_tup ?_ (by simp; omega)) (gcons (G_lst eA) (gcons (gsub _ _ (cm _ _) (cl _ _)) (gcons (G_tup gnil (leb rfl)) (gcons ?_ (gcons (G_tup (gcons (gi _) gnil) (leb rfl)) (gcons G_non gnil)))))))
    · intro d hd
      rcases List.mem_append.mp hd with hd | hd
      · exact gm _ d hd
      · rw [List.mem_singleton.mp hd]; exact G_int
    · exact g0.mono nw1.ext
  · exact q _ S' (G_tup (gcons (G_str (by decide)) (gcons G_int (gcons g gnil))) (by simp)) ((st1.trans (St.new st1.2.1 hB)).trans st)
theorem b5 {tl : List DV} (ht : tl.length = 3) (hh : hk.H h A S) (gt : ∀ S, G C_Town S (.tup tl)) (gi : ∀ S, G C_Town S inn)
    (q : ∀ d' S', G C_Town S' d' → St hk h A S S' → Q d' S') : R13__law_bend C_Town (E0 Q X) (gB h n ws (.tup tl) nd inn mk 5) S := by
  simp only [↓R13__law_bend, gB, ↓dsSeq, ↓dsAsg, ↓dsPar, ↓dsPar3, ↓dsRet, ↓dsRetN, ↓dsDrop, ↓dsNext, ↓dsNo, ↓dsBreak, ↓dsCont, ↓dsFor, ↓dsIf_eq, ↓dsFld, ↓dTup, ↓dLst, ↓daNil, ↓daCons, ↓var_0, ↓var_s, ↓dC, ↓dCall, ↓dCB, ↓dMt, ↓dBin, ↓dChain_k, ↓dtV_k, ↓dtTru_k, ↓dtNot, ↓dtAnd_eq, ↓dtOr_eq, ↓dAnd_k, ↓dOr_k, ↓dNot_k, ↓dIf_eq, ↓dNeg, ↓dSl, ↓doNone, ↓doSome, ↓dgName, ↓dgNil, ↓dgCons, ↓dgTup, ↓dgSub, ↓dNewD, ↓dMake, ↓diSeq, ↓diEnum, ↓diRng1, ↓diRng2, ↓dComp, ↓truK_bl, ↓blK_bl, ↓fEq_i, ↓fEq_s, ↓fEq_b, ↓fNe_i, ↓fNe_s, ↓fNe_b, ↓fLt_i, ↓fLe_i, ↓fGt_i, ↓fGe_i, ↓fLe_s, ↓fLt_s, ↓fAdd_i, ↓fAdd_t, ↓fAdd_s, ↓fSub_i, ↓fMul_i, ↓fMod_i, ↓fDiv_i, ↓fPow_i, ↓fIx_0, ↓fIx_1, ↓fIx_2, ↓fIx_3, ↓fIx_4, ↓fLen_t, ↓fInt_i, ↓fInt_b, ↓fAbs_i, ↓fMax_i, ↓fMin_i, ↓fStrI_i, ↓fList_t, ↓fTuple_t, ↓fIs_n, ↓fIsNot_n, ↓fSl_t, ↓reduceIte, decide_true, decide_false, Bool.false_eq_true, Int.reduceEq, List.length_cons, List.length_nil, size_line, Nat.reduceAdd, Nat.reduceLeDiff, true_and, and_true, List.set_cons_succ, List.set_cons_zero, upd_s]
  have gm : ∀ S, ∀ d ∈ tl, G C_Town S d := fun S => G_mem (gt S)
  have cm : ∀ lo hi, ∀ d ∈ M.cutD tl lo hi, d ∈ tl := fun lo hi d hd => List.mem_of_mem_drop (List.mem_of_mem_take hd)
  have cl : ∀ lo hi, (M.cutD tl lo hi).length ≤ 3 := fun lo hi => by
    simp only [M.cutD, List.length_take, List.length_drop]
    omega
  have c1 := cl (some 1) none
  refine ⟨by omega, by omega, fun pA hA pB hB => ?_⟩
  have nw1 : Nw S (S.upd pA (.lst tl)) := Nw.new hA
  have st1 : St hk h A S (S.upd pA (.lst tl)) := St.new hh hA
  obtain ⟨L, hL⟩ : ∃ L, L = [DV.tup ([.str "sealed"] ++ M.cutD tl (some 1) none), .tup (M.cutD tl none (some 2)), .tup (tl ++ [.int 0]), .ref pA, .tup [.tup tl], inn] := ⟨_, rfl⟩
  have gL : ∀ x ∈ L, G C_Town (S.upd pA (.lst tl)) x := by
    rw [hL]
    refine gcons (G_tup (gcons (G_str (by decide)) fun d hd => gm _ d (cm _ _ d hd)) (by simp; omega)) (gcons (G_tup (fun d hd => gm _ d (cm _ _ d hd)) (by have := cl none (some 2); omega)) (gcons (G_tup ?_ (by simp; omega)) (gcons (G_lst upd_s) (gcons (G_tup (gcons (gt _) gnil) (leb rfl)) (gcons (gi _) gnil)))))
    intro d hd
    rcases List.mem_append.mp hd with hd | hd
    · exact gm _ d hd
    · rw [List.mem_singleton.mp hd]; exact G_int
  have lL : L.length = 6 := by rw [hL]; rfl
  rw [← hL]
  obtain ⟨S2, hS2⟩ : ∃ S2, S2 = (S.upd pA (.lst tl)).upd pB (.lst L) := ⟨_, rfl⟩
  have nw2 : Nw (S.upd pA (.lst tl)) S2 := by rw [hS2]; exact Nw.new hB
  have e2 : S2 pB = some (.lst L) := by rw [hS2, upd_s]
  rw [← hS2]
  simp only [↓R14__law_bend, ↓dsSeq, ↓dsAsg, ↓dsPar, ↓dsPar3, ↓dsRet, ↓dsRetN, ↓dsDrop, ↓dsNext, ↓dsNo, ↓dsBreak, ↓dsCont, ↓dsFor, ↓dsIf_eq, ↓dsFld, ↓dTup, ↓dLst, ↓daNil, ↓daCons, ↓var_0, ↓var_s, ↓dC, ↓dCall, ↓dCB, ↓dMt, ↓dBin, ↓dChain_k, ↓dtV_k, ↓dtTru_k, ↓dtNot, ↓dtAnd_eq, ↓dtOr_eq, ↓dAnd_k, ↓dOr_k, ↓dNot_k, ↓dIf_eq, ↓dNeg, ↓dSl, ↓doNone, ↓doSome, ↓dgName, ↓dgNil, ↓dgCons, ↓dgTup, ↓dgSub, ↓dNewD, ↓dMake, ↓diSeq, ↓diEnum, ↓diRng1, ↓diRng2, ↓dComp, ↓truK_bl, ↓blK_bl, ↓fEq_i, ↓fEq_s, ↓fEq_b, ↓fNe_i, ↓fNe_s, ↓fNe_b, ↓fLt_i, ↓fLe_i, ↓fGt_i, ↓fGe_i, ↓fLe_s, ↓fLt_s, ↓fAdd_i, ↓fAdd_t, ↓fAdd_s, ↓fSub_i, ↓fMul_i, ↓fMod_i, ↓fDiv_i, ↓fPow_i, ↓fIx_0, ↓fIx_1, ↓fIx_2, ↓fIx_3, ↓fIx_4, ↓fLen_t, ↓fInt_i, ↓fInt_b, ↓fAbs_i, ↓fMax_i, ↓fMin_i, ↓fStrI_i, ↓fList_t, ↓fTuple_t, ↓fIs_n, ↓fIsNot_n, ↓fSl_t, ↓reduceIte, decide_true, decide_false, Bool.false_eq_true, Int.reduceEq, List.length_cons, List.length_nil, size_line, Nat.reduceAdd, Nat.reduceLeDiff, true_and, and_true, List.set_cons_succ, List.set_cons_zero, upd_s]
  refine ⟨by omega, fun pC hC => ?_⟩
  have nw3 : Nw S2 (S2.upd pC (.lst [.tup ([.str "Signed"] ++ M.cutD tl (some 1) none)])) := Nw.new hC
  rw [ref_cat (nw3 _ _ e2) upd_s]
  refine ⟨by rw [lL]; exact leb rfl, fun pD hD => ?_⟩
  have st2 : St hk h A S (S2.upd pC (.lst [.tup ([.str "Signed"] ++ M.cutD tl (some 1) none)])) := st1.trans (St.nw st1.2.1 (nw2.trans nw3))
  have hDA := HK.ne st2.2.1 hD
  show anyC hk _ _ _ _
  refine any_ok (T := C_Town) (HK.upd st2.2.1 hDA) upd_s hDA (by simp) (by simp [lL]) ?_ fun x S' g st => ?_
  · intro d hd
    rcases List.mem_append.mp hd with hd | hd
    · exact (gL d hd).mono ((nw2.trans nw3).trans (Nw.new hD)).ext
    · rw [List.mem_singleton.mp hd]
      exact G_tup (gcons (G_str (by decide)) fun d hd => gm _ d (cm _ _ d hd)) (by simp; omega)
  · exact q _ S' g ((st2.trans (St.new st2.2.1 hD)).trans st)
theorem b6 (hh : hk.H h A S) (n1 : 1 ≤ n) (n9 : n ≤ 9) (wo : wiresOk n ws) (gd : ∀ d, Drawn n d → ∃ a b c, d = .tup [a, b, c] ∧ ∀ S, G C_Town S c)
    (q : ∀ d' S', G C_Town S' d' → St hk h A S S' → Q d' S') : R15__law_bend C_Town (E0 Q X) (gB h n ws th nd inn mk 6) S := by
  simp only [↓R15__law_bend, gB, ↓dsSeq, ↓dsAsg, ↓dsPar, ↓dsPar3, ↓dsRet, ↓dsRetN, ↓dsDrop, ↓dsNext, ↓dsNo, ↓dsBreak, ↓dsCont, ↓dsFor, ↓dsIf_eq, ↓dsFld, ↓dTup, ↓dLst, ↓daNil, ↓daCons, ↓var_0, ↓var_s, ↓dC, ↓dCall, ↓dCB, ↓dMt, ↓dBin, ↓dChain_k, ↓dtV_k, ↓dtTru_k, ↓dtNot, ↓dtAnd_eq, ↓dtOr_eq, ↓dAnd_k, ↓dOr_k, ↓dNot_k, ↓dIf_eq, ↓dNeg, ↓dSl, ↓doNone, ↓doSome, ↓dgName, ↓dgNil, ↓dgCons, ↓dgTup, ↓dgSub, ↓dNewD, ↓dMake, ↓diSeq, ↓diEnum, ↓diRng1, ↓diRng2, ↓dComp, ↓truK_bl, ↓blK_bl, ↓fEq_i, ↓fEq_s, ↓fEq_b, ↓fNe_i, ↓fNe_s, ↓fNe_b, ↓fLt_i, ↓fLe_i, ↓fGt_i, ↓fGe_i, ↓fLe_s, ↓fLt_s, ↓fAdd_i, ↓fAdd_t, ↓fAdd_s, ↓fSub_i, ↓fMul_i, ↓fMod_i, ↓fDiv_i, ↓fPow_i, ↓fIx_0, ↓fIx_1, ↓fIx_2, ↓fIx_3, ↓fIx_4, ↓fLen_t, ↓fInt_i, ↓fInt_b, ↓fAbs_i, ↓fMax_i, ↓fMin_i, ↓fStrI_i, ↓fList_t, ↓fTuple_t, ↓fIs_n, ↓fIsNot_n, ↓fSl_t, ↓reduceIte, decide_true, decide_false, Bool.false_eq_true, Int.reduceEq, List.length_cons, List.length_nil, size_line, Nat.reduceAdd, Nat.reduceLeDiff, true_and, and_true, List.set_cons_succ, List.set_cons_zero, upd_s]
  refine ⟨A, hh, n1, n9, wo, fun d S' hd st => ?_⟩
  obtain ⟨a, b, c, rfl, gc⟩ := gd d hd
  simp only [↓R16__law_bend, ↓dsSeq, ↓dsAsg, ↓dsPar, ↓dsPar3, ↓dsRet, ↓dsRetN, ↓dsDrop, ↓dsNext, ↓dsNo, ↓dsBreak, ↓dsCont, ↓dsFor, ↓dsIf_eq, ↓dsFld, ↓dTup, ↓dLst, ↓daNil, ↓daCons, ↓var_0, ↓var_s, ↓dC, ↓dCall, ↓dCB, ↓dMt, ↓dBin, ↓dChain_k, ↓dtV_k, ↓dtTru_k, ↓dtNot, ↓dtAnd_eq, ↓dtOr_eq, ↓dAnd_k, ↓dOr_k, ↓dNot_k, ↓dIf_eq, ↓dNeg, ↓dSl, ↓doNone, ↓doSome, ↓dgName, ↓dgNil, ↓dgCons, ↓dgTup, ↓dgSub, ↓dNewD, ↓dMake, ↓diSeq, ↓diEnum, ↓diRng1, ↓diRng2, ↓dComp, ↓truK_bl, ↓blK_bl, ↓fEq_i, ↓fEq_s, ↓fEq_b, ↓fNe_i, ↓fNe_s, ↓fNe_b, ↓fLt_i, ↓fLe_i, ↓fGt_i, ↓fGe_i, ↓fLe_s, ↓fLt_s, ↓fAdd_i, ↓fAdd_t, ↓fAdd_s, ↓fSub_i, ↓fMul_i, ↓fMod_i, ↓fDiv_i, ↓fPow_i, ↓fIx_0, ↓fIx_1, ↓fIx_2, ↓fIx_3, ↓fIx_4, ↓fLen_t, ↓fInt_i, ↓fInt_b, ↓fAbs_i, ↓fMax_i, ↓fMin_i, ↓fStrI_i, ↓fList_t, ↓fTuple_t, ↓fIs_n, ↓fIsNot_n, ↓fSl_t, ↓reduceIte, decide_true, decide_false, Bool.false_eq_true, Int.reduceEq, List.length_cons, List.length_nil, size_line, Nat.reduceAdd, Nat.reduceLeDiff, true_and, and_true, List.set_cons_succ, List.set_cons_zero, upd_s]
  exact q _ S' (G_tup (gcons (G_str (by decide)) (gcons G_int (gcons (gc _) gnil))) (leb rfl)) st
theorem b7 (hh : hk.H h A S) (gt : ∀ S, G C_Town S th)
    (q : ∀ d' S', G C_Town S' d' → St hk h A S S' → Q d' S') : R17__law_bend C_Town (E0 Q X) (gB h n ws th nd inn mk 7) S := by
  simp only [↓R17__law_bend, gB, ↓dsSeq, ↓dsAsg, ↓dsPar, ↓dsPar3, ↓dsRet, ↓dsRetN, ↓dsDrop, ↓dsNext, ↓dsNo, ↓dsBreak, ↓dsCont, ↓dsFor, ↓dsIf_eq, ↓dsFld, ↓dTup, ↓dLst, ↓daNil, ↓daCons, ↓var_0, ↓var_s, ↓dC, ↓dCall, ↓dCB, ↓dMt, ↓dBin, ↓dChain_k, ↓dtV_k, ↓dtTru_k, ↓dtNot, ↓dtAnd_eq, ↓dtOr_eq, ↓dAnd_k, ↓dOr_k, ↓dNot_k, ↓dIf_eq, ↓dNeg, ↓dSl, ↓doNone, ↓doSome, ↓dgName, ↓dgNil, ↓dgCons, ↓dgTup, ↓dgSub, ↓dNewD, ↓dMake, ↓diSeq, ↓diEnum, ↓diRng1, ↓diRng2, ↓dComp, ↓truK_bl, ↓blK_bl, ↓fEq_i, ↓fEq_s, ↓fEq_b, ↓fNe_i, ↓fNe_s, ↓fNe_b, ↓fLt_i, ↓fLe_i, ↓fGt_i, ↓fGe_i, ↓fLe_s, ↓fLt_s, ↓fAdd_i, ↓fAdd_t, ↓fAdd_s, ↓fSub_i, ↓fMul_i, ↓fMod_i, ↓fDiv_i, ↓fPow_i, ↓fIx_0, ↓fIx_1, ↓fIx_2, ↓fIx_3, ↓fIx_4, ↓fLen_t, ↓fInt_i, ↓fInt_b, ↓fAbs_i, ↓fMax_i, ↓fMin_i, ↓fStrI_i, ↓fList_t, ↓fTuple_t, ↓fIs_n, ↓fIsNot_n, ↓fSl_t, ↓reduceIte, decide_true, decide_false, Bool.false_eq_true, Int.reduceEq, List.length_cons, List.length_nil, size_line, Nat.reduceAdd, Nat.reduceLeDiff, true_and, and_true, List.set_cons_succ, List.set_cons_zero, upd_s]
  intro pA hA pB hB
  have st1 : St hk h A S (S.upd pA (.dK [])) := St.new hh hA
  have st2 := st1.trans (St.new (o := .lst []) st1.2.1 hB)
  refine ⟨A, st2.2.1, (gt _).1, (gt (S.upd pA (.dK []))).2, fun d S' od sd st => ?_⟩
  dsimp only
  intro pC hC
  have hCA := HK.ne st.2.1 hC
  have x2 : Ext (S.upd pA (.dK [])) S' := (Nw.new (o := .lst []) hB).ext.trans st.ext
  simp only [↓R18__law_bend, ↓dsSeq, ↓dsAsg, ↓dsPar, ↓dsPar3, ↓dsRet, ↓dsRetN, ↓dsDrop, ↓dsNext, ↓dsNo, ↓dsBreak, ↓dsCont, ↓dsFor, ↓dsIf_eq, ↓dsFld, ↓dTup, ↓dLst, ↓daNil, ↓daCons, ↓var_0, ↓var_s, ↓dC, ↓dCall, ↓dCB, ↓dMt, ↓dBin, ↓dChain_k, ↓dtV_k, ↓dtTru_k, ↓dtNot, ↓dtAnd_eq, ↓dtOr_eq, ↓dAnd_k, ↓dOr_k, ↓dNot_k, ↓dIf_eq, ↓dNeg, ↓dSl, ↓doNone, ↓doSome, ↓dgName, ↓dgNil, ↓dgCons, ↓dgTup, ↓dgSub, ↓dNewD, ↓dMake, ↓diSeq, ↓diEnum, ↓diRng1, ↓diRng2, ↓dComp, ↓truK_bl, ↓blK_bl, ↓fEq_i, ↓fEq_s, ↓fEq_b, ↓fNe_i, ↓fNe_s, ↓fNe_b, ↓fLt_i, ↓fLe_i, ↓fGt_i, ↓fGe_i, ↓fLe_s, ↓fLt_s, ↓fAdd_i, ↓fAdd_t, ↓fAdd_s, ↓fSub_i, ↓fMul_i, ↓fMod_i, ↓fDiv_i, ↓fPow_i, ↓fIx_0, ↓fIx_1, ↓fIx_2, ↓fIx_3, ↓fIx_4, ↓fLen_t, ↓fInt_i, ↓fInt_b, ↓fAbs_i, ↓fMax_i, ↓fMin_i, ↓fStrI_i, ↓fList_t, ↓fTuple_t, ↓fIs_n, ↓fIsNot_n, ↓fSl_t, ↓reduceIte, decide_true, decide_false, Bool.false_eq_true, Int.reduceEq, List.length_cons, List.length_nil, size_line, Nat.reduceAdd, Nat.reduceLeDiff, true_and, and_true, List.set_cons_succ, List.set_cons_zero, upd_s]
  show anyC hk _ _ _ _
  refine any_ok (T := C_Town) (HK.upd st.2.1 hCA) upd_s hCA (by simp) (by simp) ?_ fun x S'' g st' => ?_
  · intro x hx
    refine G.mono (S := S') ?_ (Ext.new hC)
    revert x
    have ga : G C_Town S' (.ref pA) := G.mono (S := S.upd pA (.dK [])) (G_dK upd_s) x2
    have gb : G C_Town S' (.ref pB) := G.mono (S := (S.upd pA (.dK [])).upd pB (.lst [])) (G_lst upd_s) st.ext
    repeat' (first | exact gnil | refine gcons ?_ ?_ | exact G_int | exact G_bl | exact G_non | exact G_str (by decide) | exact ga | exact gb | exact gt _ | exact ⟨od, sd⟩ | refine G_tup ?_ (leb rfl))
  · exact q _ S'' g ((st2.trans (st.trans (St.new st.2.1 hC))).trans st')
end
end
end K14
set_option maxHeartbeats 1000000
namespace K14
open PySem PySem.Spec PyProof.Rows L2 M
section
variable (C_Town : Addr)
theorem drawn_parts {n : Int} {d : DV} (h : Drawn n d) : ∃ (nd : Int) (w : Str) (s k : Int) (zs : List Str) (rest : List DV), d = .tup [.str "signed", .int nd, .tup (.str w :: .tup [.int s, .int k, .tup (zs.map DV.str)] :: rest)] ∧ 0 ≤ nd ∧ nd < n ∧ (rest = [] ∨ ∃ x, rest = [x]) ∧
    (∀ S, G C_Town S (.tup [.int s, .int k, .tup (zs.map DV.str)])) ∧ (∀ S, G C_Town S (.tup (.str w :: .tup [.int s, .int k, .tup (zs.map DV.str)] :: rest))) ∧ ∀ S, G C_Town S d := by
  obtain ⟨nd, w, s, k, zs, rest, rfl, d0, d1, hw, hz, hl, hr⟩ := h
  have gz : ∀ S, G C_Town S (.tup (zs.map DV.str)) := fun S => G_tup (fun d hd => by
    obtain ⟨z, hz', rfl⟩ := List.mem_map.mp hd
    exact G_str (by have := hz z hz'; omega)) (by rw [List.length_map]; omega)
  have gm : ∀ S, G C_Town S (.tup [.int s, .int k, .tup (zs.map DV.str)]) := fun S => G_tup (gcons G_int (gcons G_int (gcons (gz S) gnil))) (leb rfl)
  have gi : ∀ S, G C_Town S (.tup (.str w :: .tup [.int s, .int k, .tup (zs.map DV.str)] :: rest)) := fun S => by
    rcases hr with rfl | ⟨x, rfl⟩
    · exact G_tup (gcons (G_str (by omega)) (gcons (gm S) gnil)) (leb rfl)
    · exact G_tup (gcons (G_str (by omega)) (gcons (gm S) (gcons G_int gnil))) (leb rfl)
  refine ⟨nd, w, s, k, zs, rest, rfl, d0, d1, ?_, gm, gi, fun S => G_tup (gcons (G_str (by decide)) (gcons G_int (gcons (gi S) gnil))) (leb rfl)⟩
  rcases hr with rfl | ⟨x, rfl⟩
  · exact .inl rfl
  · exact .inr ⟨_, rfl⟩
theorem skip7 {s R : DS} {D : DEnds} {h : Addr} {n nd kd j : Int} {ws : List DV} {th inn mk : DV} {S : Sto} (hne : ¬ kd = j) : dsSeq (dsIf (dtV (dBin fEq (dVar 7) (dC (.int j)))) s dsNext) R D (gB h n ws th nd inn mk kd) S = R D (gB h n ws th nd inn mk kd) S := by
  simp only [↓dsSeq, ↓dsIf_eq, ↓dtV_k, ↓dBin, gB, ↓var_0, ↓var_s, ↓dC, ↓fEq_i, ↓blK_bl, hne, decide_false, Bool.false_eq_true, ↓reduceIte, ↓dsNext]
theorem w__law_bend (ds : List DV) (S : Sto) (Q : QV) (X : QX) (h : c__law_bend C_Town ds S Q X) : B__law_bend C_Town (E0 Q X) (startG ["hand", "nodes", "wires", "thing", "node", "inner", "mark", "kind", "some", "words", "marks", "news", "other"] ds) S := by
  unfold c__law_bend at h
  split at h
  · rename_i h n ws d
    obtain ⟨A, hh, n1, n9, wo, hd, q⟩ := h
    have gd : ∀ d, Drawn n d → ∃ a b c, d = .tup [a, b, c] ∧ ∀ S, G C_Town S c := fun d hd => by
      obtain ⟨nd, w, s, k, zs, rest, rfl, _, _, _, _, gi, _⟩ := drawn_parts C_Town hd
      exact ⟨_, _, _, rfl, gi⟩
    obtain ⟨nd, w, s, k, zs, rest, rfl, d0, d1, hr, gm, gi, gt⟩ := drawn_parts C_Town hd
    show B__law_bend C_Town (E0 Q X) [some (.ref h), some (.int n), some (.tup ws), some (.tup [.str "signed", .int nd, .tup (.str w :: .tup [.int s, .int k, .tup (zs.map DV.str)] :: rest)]), none, none, none, none, none, none, none, none, none] S
    simp only [↓B__law_bend, ↓dsSeq, ↓dsAsg, ↓dsPar, ↓dsPar3, ↓dsRet, ↓dsRetN, ↓dsDrop, ↓dsNext, ↓dsNo, ↓dsBreak, ↓dsCont, ↓dsFor, ↓dsIf_eq, ↓dsFld, ↓dTup, ↓dLst, ↓daNil, ↓daCons, ↓var_0, ↓var_s, ↓dC, ↓dCall, ↓dCB, ↓dMt, ↓dBin, ↓dChain_k, ↓dtV_k, ↓dtTru_k, ↓dtNot, ↓dtAnd_eq, ↓dtOr_eq, ↓dAnd_k, ↓dOr_k, ↓dNot_k, ↓dIf_eq, ↓dNeg, ↓dSl, ↓doNone, ↓doSome, ↓dgName, ↓dgNil, ↓dgCons, ↓dgTup, ↓dgSub, ↓dNewD, ↓dMake, ↓diSeq, ↓diEnum, ↓diRng1, ↓diRng2, ↓dComp, ↓truK_bl, ↓blK_bl, ↓fEq_i, ↓fEq_s, ↓fEq_b, ↓fNe_i, ↓fNe_s, ↓fNe_b, ↓fLt_i, ↓fLe_i, ↓fGt_i, ↓fGe_i, ↓fLe_s, ↓fLt_s, ↓fAdd_i, ↓fAdd_t, ↓fAdd_s, ↓fSub_i, ↓fMul_i, ↓fMod_i, ↓fDiv_i, ↓fPow_i, ↓fIx_0, ↓fIx_1, ↓fIx_2, ↓fIx_3, ↓fIx_4, ↓fLen_t, ↓fInt_i, ↓fInt_b, ↓fAbs_i, ↓fMax_i, ↓fMin_i, ↓fStrI_i, ↓fList_t, ↓fTuple_t, ↓fIs_n, ↓fIsNot_n, ↓fSl_t, ↓reduceIte, decide_true, decide_false, Bool.false_eq_true, Int.reduceEq, List.length_cons, List.length_nil, size_line, Nat.reduceAdd, Nat.reduceLeDiff, true_and, and_true, List.set_cons_succ, List.set_cons_zero, upd_s]
    simp only [↓R0__law_bend, c__law_draw, drawC, ↓dsSeq, ↓dsAsg, ↓dsPar, ↓dsPar3, ↓dsRet, ↓dsRetN, ↓dsDrop, ↓dsNext, ↓dsNo, ↓dsBreak, ↓dsCont, ↓dsFor, ↓dsIf_eq, ↓dsFld, ↓dTup, ↓dLst, ↓daNil, ↓daCons, ↓var_0, ↓var_s, ↓dC, ↓dCall, ↓dCB, ↓dMt, ↓dBin, ↓dChain_k, ↓dtV_k, ↓dtTru_k, ↓dtNot, ↓dtAnd_eq, ↓dtOr_eq, ↓dAnd_k, ↓dOr_k, ↓dNot_k, ↓dIf_eq, ↓dNeg, ↓dSl, ↓doNone, ↓doSome, ↓dgName, ↓dgNil, ↓dgCons, ↓dgTup, ↓dgSub, ↓dNewD, ↓dMake, ↓diSeq, ↓diEnum, ↓diRng1, ↓diRng2, ↓dComp, ↓truK_bl, ↓blK_bl, ↓fEq_i, ↓fEq_s, ↓fEq_b, ↓fNe_i, ↓fNe_s, ↓fNe_b, ↓fLt_i, ↓fLe_i, ↓fGt_i, ↓fGe_i, ↓fLe_s, ↓fLt_s, ↓fAdd_i, ↓fAdd_t, ↓fAdd_s, ↓fSub_i, ↓fMul_i, ↓fMod_i, ↓fDiv_i, ↓fPow_i, ↓fIx_0, ↓fIx_1, ↓fIx_2, ↓fIx_3, ↓fIx_4, ↓fLen_t, ↓fInt_i, ↓fInt_b, ↓fAbs_i, ↓fMax_i, ↓fMin_i, ↓fStrI_i, ↓fList_t, ↓fTuple_t, ↓fIs_n, ↓fIsNot_n, ↓fSl_t, ↓reduceIte, decide_true, decide_false, Bool.false_eq_true, Int.reduceEq, List.length_cons, List.length_nil, size_line, Nat.reduceAdd, Nat.reduceLeDiff, true_and, and_true, List.set_cons_succ, List.set_cons_zero, upd_s]
    refine ⟨A, hh, by decide, by decide, fun kd S1 k0 k8 st => ?_⟩
    have q' : ∀ d' S', G C_Town S' d' → St hk h A S1 S' → Q d' S' := fun d' S' g st' => q d' S' g (st.trans st')
    have hh1 := st.2.1
    show R1__law_bend C_Town (E0 Q X) (gB h n ws (.tup [.str "signed", .int nd, .tup (.str w :: .tup [.int s, .int k, .tup (zs.map DV.str)] :: rest)]) nd (.tup (.str w :: .tup [.int s, .int k, .tup (zs.map DV.str)] :: rest)) (.tup [.int s, .int k, .tup (zs.map DV.str)]) kd) S1
    have e8 : kd = 0 ∨ kd = 1 ∨ kd = 2 ∨ kd = 3 ∨ kd = 4 ∨ kd = 5 ∨ kd = 6 ∨ kd = 7 := by omega
    rcases e8 with rfl | rfl | rfl | rfl | rfl | rfl | rfl | rfl
    · exact b0 hh1 n1 n9 d0 d1 gi q'
    · unfold R1__law_bend
      rw [skip7 (by decide)]
      exact b1 hh1 gi hr q'
    · unfold R1__law_bend
      rw [skip7 (by decide)]
      unfold R2__law_bend
      rw [skip7 (by decide)]
      exact b2 rfl hh1 gm gi hr q'
    · unfold R1__law_bend
      rw [skip7 (by decide)]
      unfold R2__law_bend
      rw [skip7 (by decide)]
      unfold R4__law_bend
      rw [skip7 (by decide)]
      exact b3 hh1 gi hr q'
    · unfold R1__law_bend
      rw [skip7 (by decide)]
      unfold R2__law_bend
      rw [skip7 (by decide)]
      unfold R4__law_bend
      rw [skip7 (by decide)]
      unfold R9__law_bend
      rw [skip7 (by decide)]
      exact b4 hh1 gi hr q'
    · unfold R1__law_bend
      rw [skip7 (by decide)]
      unfold R2__law_bend
      rw [skip7 (by decide)]
      unfold R4__law_bend
      rw [skip7 (by decide)]
      unfold R9__law_bend
      rw [skip7 (by decide)]
      unfold R11__law_bend
      rw [skip7 (by decide)]
      exact b5 rfl hh1 gt gi q'
    · unfold R1__law_bend
      rw [skip7 (by decide)]
      unfold R2__law_bend
      rw [skip7 (by decide)]
      unfold R4__law_bend
      rw [skip7 (by decide)]
      unfold R9__law_bend
      rw [skip7 (by decide)]
      unfold R11__law_bend
      rw [skip7 (by decide)]
      unfold R13__law_bend
      rw [skip7 (by decide)]
      exact b6 hh1 n1 n9 wo gd q'
    · unfold R1__law_bend
      rw [skip7 (by decide)]
      unfold R2__law_bend
      rw [skip7 (by decide)]
      unfold R4__law_bend
      rw [skip7 (by decide)]
      unfold R9__law_bend
      rw [skip7 (by decide)]
      unfold R11__law_bend
      rw [skip7 (by decide)]
      unfold R13__law_bend
      rw [skip7 (by decide)]
      unfold R15__law_bend
      rw [skip7 (by decide)]
      exact b7 hh1 gt q'
  · exact h.elim
def R4_law (C_Town : Addr) : DS :=
 (dsAsg (dBin fAdd (dVar 6) (dLst (daCons (dVar 8) (daCons (dCall (c__law_bend C_Town) (daCons (dVar 1) (daCons (dVar 3) (daCons (dVar 4) (daCons (dVar 8) daNil))))) daNil)))) (dgName 6))
def L0_law (C_Town : Addr) : DS :=
 (dsSeq (dsAsg (dCall (c__law_drawn C_Town) (daCons (dVar 1) (daCons (dVar 3) (daCons (dVar 4) daNil)))) (dgName 8))
 (R4_law C_Town))
def R6_law (C_Town : Addr) : DS :=
 (dsIf (dtOr (dtNot (dtTru (dCB (fIsi (Z C_Town)) (daCons (dVar 9) (daCons (dC (.ty "bool")) daNil))))) (dtV (dBin fNe (dVar 9) (dCall (c__law_is_said C_Town) (daCons (dVar 3) (daCons (dVar 4) (daCons (dVar 8) daNil)))))))
 (dsRet (dC (.bl false)))
 dsNext)
def L1_law (C_Town : Addr) : DS :=
 (dsSeq (dsAsg (dCall (c_is_statement C_Town) (daCons (dVar 5) (daCons (dVar 8) daNil))) (dgName 9))
 (R6_law C_Town))
def R5_law (C_Town : Addr) : DS :=
 (dsFor (diSeq (dVar 6)) (dgName 8)
 (L1_law C_Town))
def R3_law (C_Town : Addr) : DS :=
 (dsSeq (dsFor (diRng1 (daCons (dC (.int 16)) daNil)) (dgName 7)
 (L0_law C_Town))
 (R5_law C_Town))
def R2_law (C_Town : Addr) : DS :=
 (dsSeq (dsAsg (dLst (daCons (dVar 5) (daCons (dVar 4) (daCons (dTup (daCons (dC (.str "signed")) (daCons (dC (.int 0)) (daCons (dTup (daCons (dC (.str "never")) (daCons (dTup (daCons (dC (.int 0)) (daCons (dC (.int 0)) (daCons (dTup (daCons (dC (.str "a")) daNil)) daNil)))) (daCons (dC (.int 0)) daNil)))) daNil)))) daNil)))) (dgName 6))
 (R3_law C_Town))
def R1_law (C_Town : Addr) : DS :=
 (dsSeq (dsAsg (dMake C_Town (c_Town__init__ C_Town) (daCons (dVar 3) (daCons (dVar 4) (daCons (dCall (c__law_draw C_Town) (daCons (dVar 1) (daCons (dC (.int 4)) daNil))) (daCons (dCall (c__law_draw C_Town) (daCons (dVar 1) (daCons (dC (.int 4)) daNil))) (daCons (dCall (c__law_any C_Town) (daCons (dVar 1) (daCons (dLst (daCons (dC (.int 10)) (daCons (dC (.int 99)) daNil))) daNil))) daNil)))))) (dgName 5))
 (R2_law C_Town))
def L2_law (C_Town : Addr) : DS :=
 (dsSeq (dsAsg (dCall (c__law_drawn_town C_Town) (daCons (dVar 1) daNil)) (dgTup 2 (dgCons (dgName 3) (dgCons (dgName 4) dgNil))))
 (R1_law C_Town))
def R7_law (C_Town : Addr) : DS :=
 (dsRet (dC (.bl true)))
def R0_law (C_Town : Addr) : DS :=
 (dsSeq (dsFor (diRng1 (daCons (dC (.int 6)) daNil)) (dgName 2)
 (L2_law C_Town))
 (R7_law C_Town))
def B_law (C_Town : Addr) : DS :=
 (dsSeq (dsAsg (dCall (c__law_well C_Town) (daCons (dVar 0) daNil)) (dgName 1))
 (R0_law C_Town))
end
end K14
set_option maxHeartbeats 1000000
namespace K14
open PySem PySem.Spec PyProof.Rows L2 M
theorem town_st {T t h : Addr} {A : List Addr} {S S' : Sto} {p : Int × List DV} (e : townOf T S t = some p) (st : St hk h A S S') : townOf T S' t = some p := by
  obtain ⟨n, ws⟩ := p
  obtain ⟨fs, e0, e1, e2⟩ := townOf_some e
  have ht : t ∉ A := fun m => by
    obtain ⟨xs, ex⟩ := (hk.own st.1).2 t m
    rw [e0] at ex; cases ex
  unfold townOf
  simp only [st.2.2 t _ ht e0, e1, e2, if_true]
theorem town_G {T t : Addr} {S : Sto} {p : Int × List DV} (e : townOf T S t = some p) : G T S (.ref t) := by
  obtain ⟨n, ws⟩ := p
  obtain ⟨fs, e0, _⟩ := townOf_some e
  exact ⟨by simp only [OK, OkD]; exact ⟨_, e0, fun C fs h => by cases h; simp⟩, by simp [Sh]⟩
section
variable (C_Town : Addr)
def c_law (C_Town : Addr) : Ctr := fun ds S Q _ => match ds with
  | [.rol ds] => ∃ ns : List Int, ds = ns.map DV.int ∧ ∀ S', Q (.bl true) S'
  | _ => False
/-- the names of the law -/
def gL (sc : DV) (h : Addr) (x2 x3 x4 x5 x6 x7 x8 x9 : Option DV) : Gm := [some sc, some (.ref h), x2, x3, x4, x5, x6, x7, x8, x9]
section
variable {C_Town}
variable {sc : DV} {h t pt : Addr} {n : Int} {ws : List DV} {A : List Addr} {S : Sto} {Q : QV} {X : QX} {x2 x7 x8 x9 : Option DV} {D : DEnds}
/-- the judging loop -/
theorem l_judge {L : List DV} (hh : hk.H h A S) (et : townOf C_Town S t = some (n, ws)) (wo : wiresOk n ws) (eL : S pt = some (.lst L)) (gl : ∀ x ∈ L, G C_Town S x)
    (k : ∀ S' x8 x9, hk.H h A S' → D.nx (gL sc h x2 (some (.int n)) (some (.tup ws)) (some (.ref t)) (some (.ref pt)) x7 x8 x9) S') :
    R5_law C_Town D (gL sc h x2 (some (.int n)) (some (.tup ws)) (some (.ref t)) (some (.ref pt)) x7 x8 x9) S := by
  have e1 : seqD (.ref pt) S = some L := by simp only [seqD, seqOf, eL]
  simp only [↓R5_law, ↓dsFor, ↓diSeq, gL, ↓var_0, ↓var_s, e1]
  refine for_ind (fun rest Γ S' => Nw S S' ∧ (∃ x8 x9, Γ = gL sc h x2 (some (.int n)) (some (.tup ws)) (some (.ref t)) (some (.ref pt)) x7 x8 x9) ∧ ∀ x ∈ rest, x ∈ L) (fun rest Γ S' h => h.1 _ _ eL) (fun Γ S' h => ?_) (fun d rest Γ S' K h hK => ?_) L _ S ⟨Nw.refl S, ⟨x8, x9, rfl⟩, fun x hx => hx⟩
  · obtain ⟨nw, ⟨x8, x9, rfl⟩, _⟩ := h
    exact k S' x8 x9 (HK.nw hh nw)
  · obtain ⟨nw, ⟨x8, x9, rfl⟩, hr⟩ := h
    have gd := (gl d (hr d List.mem_cons_self)).mono nw.ext
    simp only [↓L1_law, gL, c_is_statement, ↓dsSeq, ↓dsAsg, ↓dsPar, ↓dsPar3, ↓dsRet, ↓dsRetN, ↓dsDrop, ↓dsNext, ↓dsNo, ↓dsBreak, ↓dsCont, ↓dsFor, ↓dsIf_eq, ↓dsFld, ↓dTup, ↓dLst, ↓daNil, ↓daCons, ↓var_0, ↓var_s, ↓dC, ↓dCall, ↓dCB, ↓dMt, ↓dBin, ↓dChain_k, ↓dtV_k, ↓dtTru_k, ↓dtNot, ↓dtAnd_eq, ↓dtOr_eq, ↓dAnd_k, ↓dOr_k, ↓dNot_k, ↓dIf_eq, ↓dNeg, ↓dSl, ↓doNone, ↓doSome, ↓dgName, ↓dgNil, ↓dgCons, ↓dgTup, ↓dgSub, ↓dNewD, ↓dMake, ↓diSeq, ↓diEnum, ↓diRng1, ↓diRng2, ↓dComp, ↓truK_bl, ↓blK_bl, ↓fEq_i, ↓fEq_s, ↓fEq_b, ↓fNe_i, ↓fNe_s, ↓fNe_b, ↓fLt_i, ↓fLe_i, ↓fGt_i, ↓fGe_i, ↓fLe_s, ↓fLt_s, ↓fAdd_i, ↓fAdd_t, ↓fAdd_s, ↓fSub_i, ↓fMul_i, ↓fMod_i, ↓fDiv_i, ↓fPow_i, ↓fIx_0, ↓fIx_1, ↓fIx_2, ↓fIx_3, ↓fIx_4, ↓fLen_t, ↓fInt_i, ↓fInt_b, ↓fAbs_i, ↓fMax_i, ↓fMin_i, ↓fStrI_i, ↓fList_t, ↓fTuple_t, ↓fIs_n, ↓fIsNot_n, ↓fSl_t, ↓reduceIte, decide_true, decide_false, Bool.false_eq_true, Int.reduceEq, List.length_cons, List.length_nil, size_line, Nat.reduceAdd, Nat.reduceLeDiff, true_and, and_true, List.set_cons_succ, List.set_cons_zero, upd_s]
    refine ⟨n, ws, town_nw et nw, wo, gd.1, gd.2, fun S2 nw2 => ?_⟩
    have gd2 := gd.mono nw2.ext
    simp only [↓R6_law, ↓dsSeq, ↓dsAsg, ↓dsPar, ↓dsPar3, ↓dsRet, ↓dsRetN, ↓dsDrop, ↓dsNext, ↓dsNo, ↓dsBreak, ↓dsCont, ↓dsFor, ↓dsIf_eq, ↓dsFld, ↓dTup, ↓dLst, ↓daNil, ↓daCons, ↓var_0, ↓var_s, ↓dC, ↓dCall, ↓dCB, ↓dMt, ↓dBin, ↓dChain_k, ↓dtV_k, ↓dtTru_k, ↓dtNot, ↓dtAnd_eq, ↓dtOr_eq, ↓dAnd_k, ↓dOr_k, ↓dNot_k, ↓dIf_eq, ↓dNeg, ↓dSl, ↓doNone, ↓doSome, ↓dgName, ↓dgNil, ↓dgCons, ↓dgTup, ↓dgSub, ↓dNewD, ↓dMake, ↓diSeq, ↓diEnum, ↓diRng1, ↓diRng2, ↓dComp, ↓truK_bl, ↓blK_bl, ↓fEq_i, ↓fEq_s, ↓fEq_b, ↓fNe_i, ↓fNe_s, ↓fNe_b, ↓fLt_i, ↓fLe_i, ↓fGt_i, ↓fGe_i, ↓fLe_s, ↓fLt_s, ↓fAdd_i, ↓fAdd_t, ↓fAdd_s, ↓fSub_i, ↓fMul_i, ↓fMod_i, ↓fDiv_i, ↓fPow_i, ↓fIx_0, ↓fIx_1, ↓fIx_2, ↓fIx_3, ↓fIx_4, ↓fLen_t, ↓fInt_i, ↓fInt_b, ↓fAbs_i, ↓fMax_i, ↓fMin_i, ↓fStrI_i, ↓fList_t, ↓fTuple_t, ↓fIs_n, ↓fIsNot_n, ↓fSl_t, ↓reduceIte, decide_true, decide_false, Bool.false_eq_true, Int.reduceEq, List.length_cons, List.length_nil, size_line, Nat.reduceAdd, Nat.reduceLeDiff, true_and, and_true, List.set_cons_succ, List.set_cons_zero, upd_s]
    have ib : ∀ (b : Bool) (S : Sto) (Q : QV), fIsi (Z C_Town) [.bl b, .ty "bool"] S Q = Q (.bl true) S := fun b S Q => isi_bool (cs := [C_Town]) (by simp only [OkD])
    rw [ib]
    simp only [c__law_is_said, Bool.not_true, ↓dsSeq, ↓dsAsg, ↓dsPar, ↓dsPar3, ↓dsRet, ↓dsRetN, ↓dsDrop, ↓dsNext, ↓dsNo, ↓dsBreak, ↓dsCont, ↓dsFor, ↓dsIf_eq, ↓dsFld, ↓dTup, ↓dLst, ↓daNil, ↓daCons, ↓var_0, ↓var_s, ↓dC, ↓dCall, ↓dCB, ↓dMt, ↓dBin, ↓dChain_k, ↓dtV_k, ↓dtTru_k, ↓dtNot, ↓dtAnd_eq, ↓dtOr_eq, ↓dAnd_k, ↓dOr_k, ↓dNot_k, ↓dIf_eq, ↓dNeg, ↓dSl, ↓doNone, ↓doSome, ↓dgName, ↓dgNil, ↓dgCons, ↓dgTup, ↓dgSub, ↓dNewD, ↓dMake, ↓diSeq, ↓diEnum, ↓diRng1, ↓diRng2, ↓dComp, ↓truK_bl, ↓blK_bl, ↓fEq_i, ↓fEq_s, ↓fEq_b, ↓fNe_i, ↓fNe_s, ↓fNe_b, ↓fLt_i, ↓fLe_i, ↓fGt_i, ↓fGe_i, ↓fLe_s, ↓fLt_s, ↓fAdd_i, ↓fAdd_t, ↓fAdd_s, ↓fSub_i, ↓fMul_i, ↓fMod_i, ↓fDiv_i, ↓fPow_i, ↓fIx_0, ↓fIx_1, ↓fIx_2, ↓fIx_3, ↓fIx_4, ↓fLen_t, ↓fInt_i, ↓fInt_b, ↓fAbs_i, ↓fMax_i, ↓fMin_i, ↓fStrI_i, ↓fList_t, ↓fTuple_t, ↓fIs_n, ↓fIsNot_n, ↓fSl_t, ↓reduceIte, decide_true, decide_false, Bool.false_eq_true, Int.reduceEq, List.length_cons, List.length_nil, size_line, Nat.reduceAdd, Nat.reduceLeDiff, true_and, and_true, List.set_cons_succ, List.set_cons_zero, upd_s]
    refine ⟨wo, gd2.1, gd2.2, fun S3 nw3 => ?_⟩
    try simp only [↓dsSeq, ↓dsAsg, ↓dsPar, ↓dsPar3, ↓dsRet, ↓dsRetN, ↓dsDrop, ↓dsNext, ↓dsNo, ↓dsBreak, ↓dsCont, ↓dsFor, ↓dsIf_eq, ↓dsFld, ↓dTup, ↓dLst, ↓daNil, ↓daCons, ↓var_0, ↓var_s, ↓dC, ↓dCall, ↓dCB, ↓dMt, ↓dBin, ↓dChain_k, ↓dtV_k, ↓dtTru_k, ↓dtNot, ↓dtAnd_eq, ↓dtOr_eq, ↓dAnd_k, ↓dOr_k, ↓dNot_k, ↓dIf_eq, ↓dNeg, ↓dSl, ↓doNone, ↓doSome, ↓dgName, ↓dgNil, ↓dgCons, ↓dgTup, ↓dgSub, ↓dNewD, ↓dMake, ↓diSeq, ↓diEnum, ↓diRng1, ↓diRng2, ↓dComp, ↓truK_bl, ↓blK_bl, ↓fEq_i, ↓fEq_s, ↓fEq_b, ↓fNe_i, ↓fNe_s, ↓fNe_b, ↓fLt_i, ↓fLe_i, ↓fGt_i, ↓fGe_i, ↓fLe_s, ↓fLt_s, ↓fAdd_i, ↓fAdd_t, ↓fAdd_s, ↓fSub_i, ↓fMul_i, ↓fMod_i, ↓fDiv_i, ↓fPow_i, ↓fIx_0, ↓fIx_1, ↓fIx_2, ↓fIx_3, ↓fIx_4, ↓fLen_t, ↓fInt_i, ↓fInt_b, ↓fAbs_i, ↓fMax_i, ↓fMin_i, ↓fStrI_i, ↓fList_t, ↓fTuple_t, ↓fIs_n, ↓fIsNot_n, ↓fSl_t, ↓reduceIte, decide_true, decide_false, Bool.false_eq_true, Int.reduceEq, List.length_cons, List.length_nil, size_line, Nat.reduceAdd, Nat.reduceLeDiff, true_and, and_true, List.set_cons_succ, List.set_cons_zero, upd_s]
    exact hK _ _ ⟨(nw.trans nw2).trans nw3, ⟨_, _, rfl⟩, fun x hx => hr x (List.mem_cons_of_mem _ hx)⟩
/-- the drawing loop, then the judging one -/
theorem l_things {L : List DV} (hh : hk.H h A S) (hp : pt ∉ A) (n1 : 1 ≤ n) (n9 : n ≤ 9) (et : townOf C_Town S t = some (n, ws)) (wo : wiresOk n ws) (eL : S pt = some (.lst L)) (gl : ∀ x ∈ L, G C_Town S x) (hl : L.length = 3)
    (k : ∀ S' x6 x7 x8 x9, hk.H h A S' → D.nx (gL sc h x2 (some (.int n)) (some (.tup ws)) (some (.ref t)) x6 x7 x8 x9) S') :
    R3_law C_Town D (gL sc h x2 (some (.int n)) (some (.tup ws)) (some (.ref t)) (some (.ref pt)) x7 x8 x9) S := by
  simp only [↓R3_law, ↓dsSeq, ↓dsFor, ↓diRng1, ↓daCons, ↓daNil, ↓dC]
  refine ⟨by decide, by decide, ?_⟩
  refine for_ind (fun rest Γ S' => (hk.H h A S' ∧ townOf C_Town S' t = some (n, ws)) ∧ ∃ pt x7 x8 x9 L, Γ = gL sc h x2 (some (.int n)) (some (.tup ws)) (some (.ref t)) (some (.ref pt)) x7 x8 x9 ∧ pt ∉ A ∧ S' pt = some (.lst L) ∧ (∀ x ∈ L, G C_Town S' x) ∧ L.length + 2 * rest.length ≤ 50) (fun _ _ _ _ => trivial) (fun Γ S' h => ?_) (fun d rest Γ S' K h hK => ?_) _ _ S ⟨⟨hh, et⟩, pt, x7, x8, x9, L, rfl, hp, eL, gl, by simp [hl]⟩
  · obtain ⟨⟨h1, h2⟩, pt, x7, x8, x9, L, rfl, hp, eL, gl, _⟩ := h
    exact l_judge h1 h2 wo eL gl fun S' x8 x9 h' => k S' _ _ _ _ h'
  · obtain ⟨⟨h1, h2⟩, pt, x7, x8, x9, L, rfl, hp, eL, gl, hl⟩ := h
    simp only [↓L0_law, gL, c__law_drawn, ↓dsSeq, ↓dsAsg, ↓dsPar, ↓dsPar3, ↓dsRet, ↓dsRetN, ↓dsDrop, ↓dsNext, ↓dsNo, ↓dsBreak, ↓dsCont, ↓dsFor, ↓dsIf_eq, ↓dsFld, ↓dTup, ↓dLst, ↓daNil, ↓daCons, ↓var_0, ↓var_s, ↓dC, ↓dCall, ↓dCB, ↓dMt, ↓dBin, ↓dChain_k, ↓dtV_k, ↓dtTru_k, ↓dtNot, ↓dtAnd_eq, ↓dtOr_eq, ↓dAnd_k, ↓dOr_k, ↓dNot_k, ↓dIf_eq, ↓dNeg, ↓dSl, ↓doNone, ↓doSome, ↓dgName, ↓dgNil, ↓dgCons, ↓dgTup, ↓dgSub, ↓dNewD, ↓dMake, ↓diSeq, ↓diEnum, ↓diRng1, ↓diRng2, ↓dComp, ↓truK_bl, ↓blK_bl, ↓fEq_i, ↓fEq_s, ↓fEq_b, ↓fNe_i, ↓fNe_s, ↓fNe_b, ↓fLt_i, ↓fLe_i, ↓fGt_i, ↓fGe_i, ↓fLe_s, ↓fLt_s, ↓fAdd_i, ↓fAdd_t, ↓fAdd_s, ↓fSub_i, ↓fMul_i, ↓fMod_i, ↓fDiv_i, ↓fPow_i, ↓fIx_0, ↓fIx_1, ↓fIx_2, ↓fIx_3, ↓fIx_4, ↓fLen_t, ↓fInt_i, ↓fInt_b, ↓fAbs_i, ↓fMax_i, ↓fMin_i, ↓fStrI_i, ↓fList_t, ↓fTuple_t, ↓fIs_n, ↓fIsNot_n, ↓fSl_t, ↓reduceIte, decide_true, decide_false, Bool.false_eq_true, Int.reduceEq, List.length_cons, List.length_nil, size_line, Nat.reduceAdd, Nat.reduceLeDiff, true_and, and_true, List.set_cons_succ, List.set_cons_zero, upd_s]
    refine ⟨A, h1, n1, n9, wo, fun th S2 hd st2 => ?_⟩
    obtain ⟨_, _, _, _, _, _, _, _, _, _, _, _, gth⟩ := drawn_parts C_Town hd
    simp only [↓R4_law, c__law_bend, ↓dsSeq, ↓dsAsg, ↓dsPar, ↓dsPar3, ↓dsRet, ↓dsRetN, ↓dsDrop, ↓dsNext, ↓dsNo, ↓dsBreak, ↓dsCont, ↓dsFor, ↓dsIf_eq, ↓dsFld, ↓dTup, ↓dLst, ↓daNil, ↓daCons, ↓var_0, ↓var_s, ↓dC, ↓dCall, ↓dCB, ↓dMt, ↓dBin, ↓dChain_k, ↓dtV_k, ↓dtTru_k, ↓dtNot, ↓dtAnd_eq, ↓dtOr_eq, ↓dAnd_k, ↓dOr_k, ↓dNot_k, ↓dIf_eq, ↓dNeg, ↓dSl, ↓doNone, ↓doSome, ↓dgName, ↓dgNil, ↓dgCons, ↓dgTup, ↓dgSub, ↓dNewD, ↓dMake, ↓diSeq, ↓diEnum, ↓diRng1, ↓diRng2, ↓dComp, ↓truK_bl, ↓blK_bl, ↓fEq_i, ↓fEq_s, ↓fEq_b, ↓fNe_i, ↓fNe_s, ↓fNe_b, ↓fLt_i, ↓fLe_i, ↓fGt_i, ↓fGe_i, ↓fLe_s, ↓fLt_s, ↓fAdd_i, ↓fAdd_t, ↓fAdd_s, ↓fSub_i, ↓fMul_i, ↓fMod_i, ↓fDiv_i, ↓fPow_i, ↓fIx_0, ↓fIx_1, ↓fIx_2, ↓fIx_3, ↓fIx_4, ↓fLen_t, ↓fInt_i, ↓fInt_b, ↓fAbs_i, ↓fMax_i, ↓fMin_i, ↓fStrI_i, ↓fList_t, ↓fTuple_t, ↓fIs_n, ↓fIsNot_n, ↓fSl_t, ↓reduceIte, decide_true, decide_false, Bool.false_eq_true, Int.reduceEq, List.length_cons, List.length_nil, size_line, Nat.reduceAdd, Nat.reduceLeDiff, true_and, and_true, List.set_cons_succ, List.set_cons_zero, upd_s]
    refine ⟨A, st2.2.1, n1, n9, wo, hd, fun d' S3 gd st3 p hpn => ?_⟩
    have st13 := st2.trans st3
    have e3 : S3 pt = some (.lst L) := st13.2.2 pt _ hp eL
    rw [ref_cat (Nw.new hpn _ _ e3) upd_s]
    simp only [List.length_cons] at hl
    refine ⟨by simp; omega, fun p2 hp2 => ?_⟩
    have st4 : St hk h A S3 (S3.upd p (.lst [th, d'])) := St.new st3.2.1 hpn
    have hp2A := HK.ne st4.2.1 hp2
    have st5 := st4.trans (St.new (o := .lst (L ++ [th, d'])) st4.2.1 hp2)
    refine hK _ _ ⟨⟨st5.2.1, town_st h2 (st13.trans st5)⟩, p2, _, _, _, _, rfl, hp2A, upd_s, fun x hx => ?_, by simp; omega⟩
    rcases List.mem_append.mp hx with hx | hx
    · exact (gl x hx).mono (st13.trans st5).ext
    · simp only [List.mem_cons, List.not_mem_nil, or_false] at hx
      rcases hx with rfl | rfl
      · exact gth _
      · exact gd.mono st5.ext
/-- one town -/
theorem l_town {x3 x4 x5 x6 : Option DV} (hh : hk.H h A S) (k : ∀ S' x3 x4 x5 x6 x7 x8 x9, hk.H h A S' → D.nx (gL sc h x2 x3 x4 x5 x6 x7 x8 x9) S') : L2_law C_Town D (gL sc h x2 x3 x4 x5 x6 x7 x8 x9) S := by
  simp only [↓L2_law, gL, c__law_drawn_town, ↓dsSeq, ↓dsAsg, ↓dsPar, ↓dsPar3, ↓dsRet, ↓dsRetN, ↓dsDrop, ↓dsNext, ↓dsNo, ↓dsBreak, ↓dsCont, ↓dsFor, ↓dsIf_eq, ↓dsFld, ↓dTup, ↓dLst, ↓daNil, ↓daCons, ↓var_0, ↓var_s, ↓dC, ↓dCall, ↓dCB, ↓dMt, ↓dBin, ↓dChain_k, ↓dtV_k, ↓dtTru_k, ↓dtNot, ↓dtAnd_eq, ↓dtOr_eq, ↓dAnd_k, ↓dOr_k, ↓dNot_k, ↓dIf_eq, ↓dNeg, ↓dSl, ↓doNone, ↓doSome, ↓dgName, ↓dgNil, ↓dgCons, ↓dgTup, ↓dgSub, ↓dNewD, ↓dMake, ↓diSeq, ↓diEnum, ↓diRng1, ↓diRng2, ↓dComp, ↓truK_bl, ↓blK_bl, ↓fEq_i, ↓fEq_s, ↓fEq_b, ↓fNe_i, ↓fNe_s, ↓fNe_b, ↓fLt_i, ↓fLe_i, ↓fGt_i, ↓fGe_i, ↓fLe_s, ↓fLt_s, ↓fAdd_i, ↓fAdd_t, ↓fAdd_s, ↓fSub_i, ↓fMul_i, ↓fMod_i, ↓fDiv_i, ↓fPow_i, ↓fIx_0, ↓fIx_1, ↓fIx_2, ↓fIx_3, ↓fIx_4, ↓fLen_t, ↓fInt_i, ↓fInt_b, ↓fAbs_i, ↓fMax_i, ↓fMin_i, ↓fStrI_i, ↓fList_t, ↓fTuple_t, ↓fIs_n, ↓fIsNot_n, ↓fSl_t, ↓reduceIte, decide_true, decide_false, Bool.false_eq_true, Int.reduceEq, List.length_cons, List.length_nil, size_line, Nat.reduceAdd, Nat.reduceLeDiff, true_and, and_true, List.set_cons_succ, List.set_cons_zero, upd_s]
  refine ⟨A, hh, fun n ws S1 n1 n9 wo st1 => ?_⟩
  simp only [↓R1_law, c__law_draw, drawC, c__law_any, ↓dsSeq, ↓dsAsg, ↓dsPar, ↓dsPar3, ↓dsRet, ↓dsRetN, ↓dsDrop, ↓dsNext, ↓dsNo, ↓dsBreak, ↓dsCont, ↓dsFor, ↓dsIf_eq, ↓dsFld, ↓dTup, ↓dLst, ↓daNil, ↓daCons, ↓var_0, ↓var_s, ↓dC, ↓dCall, ↓dCB, ↓dMt, ↓dBin, ↓dChain_k, ↓dtV_k, ↓dtTru_k, ↓dtNot, ↓dtAnd_eq, ↓dtOr_eq, ↓dAnd_k, ↓dOr_k, ↓dNot_k, ↓dIf_eq, ↓dNeg, ↓dSl, ↓doNone, ↓doSome, ↓dgName, ↓dgNil, ↓dgCons, ↓dgTup, ↓dgSub, ↓dNewD, ↓dMake, ↓diSeq, ↓diEnum, ↓diRng1, ↓diRng2, ↓dComp, ↓truK_bl, ↓blK_bl, ↓fEq_i, ↓fEq_s, ↓fEq_b, ↓fNe_i, ↓fNe_s, ↓fNe_b, ↓fLt_i, ↓fLe_i, ↓fGt_i, ↓fGe_i, ↓fLe_s, ↓fLt_s, ↓fAdd_i, ↓fAdd_t, ↓fAdd_s, ↓fSub_i, ↓fMul_i, ↓fMod_i, ↓fDiv_i, ↓fPow_i, ↓fIx_0, ↓fIx_1, ↓fIx_2, ↓fIx_3, ↓fIx_4, ↓fLen_t, ↓fInt_i, ↓fInt_b, ↓fAbs_i, ↓fMax_i, ↓fMin_i, ↓fStrI_i, ↓fList_t, ↓fTuple_t, ↓fIs_n, ↓fIsNot_n, ↓fSl_t, ↓reduceIte, decide_true, decide_false, Bool.false_eq_true, Int.reduceEq, List.length_cons, List.length_nil, size_line, Nat.reduceAdd, Nat.reduceLeDiff, true_and, and_true, List.set_cons_succ, List.set_cons_zero, upd_s]
  refine ⟨A, st1.2.1, by decide, by decide, fun l S2 l0 l1 st2 => ⟨A, st2.2.1, by decide, by decide, fun m S3 m0 m1 st3 p hp => ?_⟩⟩
  refine any_lit st3.2.1 hp (by simp) (by simp) fun r S4 hr st4 => ?_
  have hr' : ∃ i : Int, r = .int i ∧ 10 ≤ i ∧ i ≤ 99 := by
    simp only [List.mem_cons, List.not_mem_nil, or_false] at hr
    rcases hr with rfl | rfl
    · exact ⟨10, rfl, by decide, by decide⟩
    · exact ⟨99, rfl, by decide, by decide⟩
  obtain ⟨r, rfl, r0, r1⟩ := hr'
  intro x hx
  refine ⟨upd_s, ⟨n1, n9⟩, wo, ⟨l0, by omega⟩, ⟨m0, by omega⟩, ⟨r0, r1⟩, rfl, ?_⟩
  rw [upd_upd2]
  have st14 := ((st1.trans st2).trans st3).trans st4
  have hxA := HK.ne st14.2.1 hx
  have st5 := st14.trans (St.new (o := .ins C_Town (townFs n ws l m r)) st14.2.1 hx)
  have et : townOf C_Town (S4.upd x (.ins C_Town (townFs n ws l m r))) x = some (n, ws) := town_new upd_s
  simp only [↓R2_law, ↓dsSeq, ↓dsAsg, ↓dsPar, ↓dsPar3, ↓dsRet, ↓dsRetN, ↓dsDrop, ↓dsNext, ↓dsNo, ↓dsBreak, ↓dsCont, ↓dsFor, ↓dsIf_eq, ↓dsFld, ↓dTup, ↓dLst, ↓daNil, ↓daCons, ↓var_0, ↓var_s, ↓dC, ↓dCall, ↓dCB, ↓dMt, ↓dBin, ↓dChain_k, ↓dtV_k, ↓dtTru_k, ↓dtNot, ↓dtAnd_eq, ↓dtOr_eq, ↓dAnd_k, ↓dOr_k, ↓dNot_k, ↓dIf_eq, ↓dNeg, ↓dSl, ↓doNone, ↓doSome, ↓dgName, ↓dgNil, ↓dgCons, ↓dgTup, ↓dgSub, ↓dNewD, ↓dMake, ↓diSeq, ↓diEnum, ↓diRng1, ↓diRng2, ↓dComp, ↓truK_bl, ↓blK_bl, ↓fEq_i, ↓fEq_s, ↓fEq_b, ↓fNe_i, ↓fNe_s, ↓fNe_b, ↓fLt_i, ↓fLe_i, ↓fGt_i, ↓fGe_i, ↓fLe_s, ↓fLt_s, ↓fAdd_i, ↓fAdd_t, ↓fAdd_s, ↓fSub_i, ↓fMul_i, ↓fMod_i, ↓fDiv_i, ↓fPow_i, ↓fIx_0, ↓fIx_1, ↓fIx_2, ↓fIx_3, ↓fIx_4, ↓fLen_t, ↓fInt_i, ↓fInt_b, ↓fAbs_i, ↓fMax_i, ↓fMin_i, ↓fStrI_i, ↓fList_t, ↓fTuple_t, ↓fIs_n, ↓fIsNot_n, ↓fSl_t, ↓reduceIte, decide_true, decide_false, Bool.false_eq_true, Int.reduceEq, List.length_cons, List.length_nil, size_line, Nat.reduceAdd, Nat.reduceLeDiff, true_and, and_true, List.set_cons_succ, List.set_cons_zero, upd_s]
  intro p2 hp2
  have hp2A := HK.ne st5.2.1 hp2
  have st6 := St.new (o := .lst [.ref x, .tup ws, .tup [.str "signed", .int 0, .tup [.str "never", .tup [.int 0, .int 0, .tup [.str "a"]], .int 0]]]) st5.2.1 hp2
  refine l_things st6.2.1 hp2A n1 n9 (town_st et st6) wo upd_s ?_ rfl fun S' x6 x7 x8 x9 h' => k S' _ _ _ _ _ _ _ h'
  refine gcons (town_G (town_st et st6)) (gcons ⟨wires_ok wo _, wires_sh wo⟩ (gcons ?_ gnil))
  repeat' (first | exact gnil | refine gcons ?_ ?_ | exact G_int | exact G_str (by decide) | refine G_tup ?_ (leb rfl))
end
theorem w_law (ds : List DV) (S : Sto) (Q : QV) (X : QX) (h : c_law C_Town ds S Q X) : B_law C_Town (E0 Q X) (startG ["script", "hand", "turn", "nodes", "wires", "town", "things", "again", "thing", "flag"] ds) S := by
  unfold c_law at h
  split at h
  · rename_i ds
    obtain ⟨ns, rfl, q⟩ := h
    show B_law C_Town (E0 Q X) [some (.rol (ns.map DV.int)), none, none, none, none, none, none, none, none, none] S
    simp only [↓B_law, c__law_well, ↓dsSeq, ↓dsAsg, ↓dsPar, ↓dsPar3, ↓dsRet, ↓dsRetN, ↓dsDrop, ↓dsNext, ↓dsNo, ↓dsBreak, ↓dsCont, ↓dsFor, ↓dsIf_eq, ↓dsFld, ↓dTup, ↓dLst, ↓daNil, ↓daCons, ↓var_0, ↓var_s, ↓dC, ↓dCall, ↓dCB, ↓dMt, ↓dBin, ↓dChain_k, ↓dtV_k, ↓dtTru_k, ↓dtNot, ↓dtAnd_eq, ↓dtOr_eq, ↓dAnd_k, ↓dOr_k, ↓dNot_k, ↓dIf_eq, ↓dNeg, ↓dSl, ↓doNone, ↓doSome, ↓dgName, ↓dgNil, ↓dgCons, ↓dgTup, ↓dgSub, ↓dNewD, ↓dMake, ↓diSeq, ↓diEnum, ↓diRng1, ↓diRng2, ↓dComp, ↓truK_bl, ↓blK_bl, ↓fEq_i, ↓fEq_s, ↓fEq_b, ↓fNe_i, ↓fNe_s, ↓fNe_b, ↓fLt_i, ↓fLe_i, ↓fGt_i, ↓fGe_i, ↓fLe_s, ↓fLt_s, ↓fAdd_i, ↓fAdd_t, ↓fAdd_s, ↓fSub_i, ↓fMul_i, ↓fMod_i, ↓fDiv_i, ↓fPow_i, ↓fIx_0, ↓fIx_1, ↓fIx_2, ↓fIx_3, ↓fIx_4, ↓fLen_t, ↓fInt_i, ↓fInt_b, ↓fAbs_i, ↓fMax_i, ↓fMin_i, ↓fStrI_i, ↓fList_t, ↓fTuple_t, ↓fIs_n, ↓fIsNot_n, ↓fSl_t, ↓reduceIte, decide_true, decide_false, Bool.false_eq_true, Int.reduceEq, List.length_cons, List.length_nil, size_line, Nat.reduceAdd, Nat.reduceLeDiff, true_and, and_true, List.set_cons_succ, List.set_cons_zero, upd_s]
    refine ⟨ns, rfl, fun h A S1 hh nw => ?_⟩
    simp only [↓R0_law, ↓dsSeq, ↓dsFor, ↓diRng1, ↓daCons, ↓daNil, ↓dC]
    refine ⟨by decide, by decide, ?_⟩
    refine for_ind (fun rest Γ S' => hk.H h A S' ∧ ∃ x2 x3 x4 x5 x6 x7 x8 x9, Γ = gL (.rol (ns.map DV.int)) h x2 x3 x4 x5 x6 x7 x8 x9) (fun _ _ _ _ => trivial) (fun Γ S' h => ?_) (fun d rest Γ S' K h hK => ?_) _ _ S1 ⟨hh, _, _, _, _, _, _, _, _, rfl⟩
    · exact q S'
    · obtain ⟨h1, x2, x3, x4, x5, x6, x7, x8, x9, rfl⟩ := h
      exact l_town (D := { E0 Q X with nx := K, ct := K, bk := _ }) (x2 := some d) h1 fun S' x3 x4 x5 x6 x7 x8 x9 h' => hK _ _ ⟨h', _, _, _, _, _, _, _, _, rfl⟩
  · exact h.elim
end
end K14
set_option maxHeartbeats 0
namespace K14
open PySem PySem.Spec PyProof.Rows L2 M
/-! ### the text -/
def top (i : Nat) : Stmt := PySem.Challenge.pw_townpost_k14_statements_judged.main.body.getD i (.Pass ⟨0, 0, 0, 0⟩)
abbrev s_is_tuple_of : Stmt := top 3
def N_is_tuple_of : List Str := ["thing", "size"]
abbrev s_is_integer : Stmt := top 1
def N_is_integer : List Str := ["thing"]
abbrev s_is_within : Stmt := top 2
def N_is_within : List Str := ["thing", "least", "most"]
abbrev s_are_wires : Stmt := top 16
def N_are_wires : List Str := ["thing", "nodes", "pair"]
abbrev s_is_owner : Stmt := top 15
def N_is_owner : List Str := ["thing"]
abbrev s_Town__init__ : Stmt := inClass (top 17) 0
def N_Town__init__ : List Str := ["self", "nodes", "wires", "loss", "most", "root"]
abbrev s__law_draw : Stmt := top 41
def N__law_draw : List Str := ["hand", "many", "number", "digit"]
abbrev s__law_any : Stmt := top 42
def N__law_any : List Str := ["hand", "things"]
abbrev s__law_deep : Stmt := top 44
def N__law_deep : List Str := ["hand", "thing", "turn"]
abbrev s__law_labelled : Stmt := top 49
def N__law_labelled : List Str := ["hand"]
abbrev s__law_named : Stmt := top 50
def N__law_named : List Str := ["hand", "most", "turn"]
abbrev s__law_drawn : Stmt := top 54
def N__law_drawn : List Str := ["hand", "nodes", "wires", "node", "words", "word", "sender", "mark", "own", "wire", "at"]
abbrev s__law_bend : Stmt := top 55
def N__law_bend : List Str := ["hand", "nodes", "wires", "thing", "node", "inner", "mark", "kind", "some", "words", "marks", "news", "other"]
abbrev s__law_drawn_town : Stmt := top 52
def N__law_drawn_town : List Str := ["hand", "nodes", "wires", "turn", "one", "other"]
abbrev s__law_is_kind : Stmt := top 48
def N__law_is_kind : List Str := ["thing", "word", "many"]
abbrev s__law_is_label : Stmt := top 46
def N__law_is_label : List Str := ["thing", "sign"]
abbrev s__law_are_labels : Stmt := top 47
def N__law_are_labels : List Str := ["thing", "least", "most", "one"]
abbrev s__law_is_int : Stmt := top 43
def N__law_is_int : List Str := ["thing"]
abbrev s__law_is_number : Stmt := top 45
def N__law_is_number : List Str := ["thing", "below"]
abbrev s__law_is_mark : Stmt := top 51
def N__law_is_mark : List Str := ["thing"]
abbrev s__law_is_said : Stmt := top 53
def N__law_is_said : List Str := ["nodes", "wires", "thing", "node", "inner"]
abbrev s__law_well : Stmt := top 40
def N__law_well : List Str := ["script", "seed", "cell"]
abbrev s_has_word : Stmt := top 27
def N_has_word : List Str := ["thing", "word", "size"]
abbrev s_is_label : Stmt := top 24
def N_is_label : List Str := ["thing", "sign"]
abbrev s_are_labels : Stmt := top 25
def N_are_labels : List Str := ["thing", "least", "most", "one"]
abbrev s_is_name : Stmt := top 26
def N_is_name : List Str := ["thing"]
abbrev s_is_serial : Stmt := top 28
def N_is_serial : List Str := ["thing"]
abbrev s_is_mark : Stmt := top 36
def N_is_mark : List Str := ["thing"]
abbrev s_is_node : Stmt := top 18
def N_is_node : List Str := ["town", "thing"]
abbrev s_is_wire : Stmt := top 19
def N_is_wire : List Str := ["town", "thing"]
abbrev s_statement_of : Stmt := top 37
def N_statement_of : List Str := ["town", "thing", "node", "row"]
abbrev s_is_statement : Stmt := top 38
def N_is_statement : List Str := ["town", "thing"]
abbrev s_law : Stmt := top 56
def N_law : List Str := ["script", "hand", "turn", "nodes", "wires", "town", "things", "again", "thing", "flag"]
def G_is_tuple_of (C_Town : Addr) : List (Str × GV) := [("isinstance", .bi), ("len", .bi), ("tuple", .bi)]
theorem e_is_tuple_of (C_Town : Addr) : cSs 60 (cfg N_is_tuple_of (defScope s_is_tuple_of) (G_is_tuple_of C_Town) (fun _ => none) (Z C_Town)) (defBody s_is_tuple_of) = some (B_is_tuple_of C_Town) := by kernel_rfl
theorem sc_is_tuple_of : FnScope N_is_tuple_of ["thing", "size"] (defScope s_is_tuple_of) := ⟨rfl, rfl, rfl, by decide +kernel, rfl, by decide +kernel, by decide +kernel⟩
def G_is_integer (C_Town : Addr) : List (Str × GV) := [("bool", .bi), ("int", .bi), ("isinstance", .bi)]
theorem e_is_integer (C_Town : Addr) : cSs 60 (cfg N_is_integer (defScope s_is_integer) (G_is_integer C_Town) (fun _ => none) (Z C_Town)) (defBody s_is_integer) = some (B_is_integer C_Town) := by kernel_rfl
theorem sc_is_integer : FnScope N_is_integer ["thing"] (defScope s_is_integer) := ⟨rfl, rfl, rfl, by decide +kernel, rfl, by decide +kernel, by decide +kernel⟩
def G_is_within (C_Town : Addr) : List (Str × GV) := [("is_integer", .fn (c_is_integer C_Town))]
theorem e_is_within (C_Town : Addr) : cSs 60 (cfg N_is_within (defScope s_is_within) (G_is_within C_Town) (fun _ => none) (Z C_Town)) (defBody s_is_within) = some (B_is_within C_Town) := by kernel_rfl
theorem sc_is_within : FnScope N_is_within ["thing", "least", "most"] (defScope s_is_within) := ⟨rfl, rfl, rfl, by decide +kernel, rfl, by decide +kernel, by decide +kernel⟩
def G_are_wires (C_Town : Addr) : List (Str × GV) := [("MOST_WIRES", .cv v_MOST_WIRES), ("is_tuple_of", .fn (c_is_tuple_of C_Town)), ("is_within", .fn (c_is_within C_Town)), ("isinstance", .bi), ("len", .bi), ("tuple", .bi)]
theorem e_are_wires (C_Town : Addr) : cSs 60 (cfg N_are_wires (defScope s_are_wires) (G_are_wires C_Town) (fun _ => none) (Z C_Town)) (defBody s_are_wires) = some (B_are_wires C_Town) := by kernel_rfl
theorem sc_are_wires : FnScope N_are_wires ["thing", "nodes"] (defScope s_are_wires) := ⟨rfl, rfl, rfl, by decide +kernel, rfl, by decide +kernel, by decide +kernel⟩
def G_is_owner (C_Town : Addr) : List (Str × GV) := [("LEAST_OWNER", .cv v_LEAST_OWNER), ("LEAST_SEAL", .cv v_LEAST_SEAL), ("is_within", .fn (c_is_within C_Town))]
theorem e_is_owner (C_Town : Addr) : cSs 60 (cfg N_is_owner (defScope s_is_owner) (G_is_owner C_Town) (fun _ => none) (Z C_Town)) (defBody s_is_owner) = some (B_is_owner C_Town) := by kernel_rfl
theorem sc_is_owner : FnScope N_is_owner ["thing"] (defScope s_is_owner) := ⟨rfl, rfl, rfl, by decide +kernel, rfl, by decide +kernel, by decide +kernel⟩
def G_Town__init__ (C_Town : Addr) : List (Str × GV) := [("MOST_NODES", .cv v_MOST_NODES), ("are_wires", .fn (c_are_wires C_Town)), ("is_owner", .fn (c_is_owner C_Town)), ("is_within", .fn (c_is_within C_Town))]
theorem e_Town__init__ (C_Town : Addr) : cSs 60 (cfg N_Town__init__ (defScope s_Town__init__) (G_Town__init__ C_Town) (fun _ => none) (Z C_Town)) (defBody s_Town__init__) = some (B_Town__init__ C_Town) := by kernel_rfl
theorem sc_Town__init__ : FnScope N_Town__init__ ["self", "nodes", "wires", "loss", "most", "root"] (defScope s_Town__init__) := ⟨rfl, rfl, rfl, by decide +kernel, rfl, by decide +kernel, by decide +kernel⟩
def G__law_draw (C_Town : Addr) : List (Str × GV) := [("int", .bi), ("len", .bi)]
theorem e__law_draw (C_Town : Addr) : cSs 60 (cfg N__law_draw (defScope s__law_draw) (G__law_draw C_Town) (fun _ => none) (Z C_Town)) (defBody s__law_draw) = some (B__law_draw C_Town) := by kernel_rfl
theorem sc__law_draw : FnScope N__law_draw ["hand", "many"] (defScope s__law_draw) := ⟨rfl, rfl, rfl, by decide +kernel, rfl, by decide +kernel, by decide +kernel⟩
def G__law_any (C_Town : Addr) : List (Str × GV) := [("_law_draw", .fn (c__law_draw C_Town)), ("len", .bi)]
theorem e__law_any (C_Town : Addr) : cSs 60 (cfg N__law_any (defScope s__law_any) (G__law_any C_Town) (fun _ => none) (Z C_Town)) (defBody s__law_any) = some (B__law_any C_Town) := by kernel_rfl
theorem sc__law_any : FnScope N__law_any ["hand", "things"] (defScope s__law_any) := ⟨rfl, rfl, rfl, by decide +kernel, rfl, by decide +kernel, by decide +kernel⟩
def G__law_deep (C_Town : Addr) : List (Str × GV) := [("_law_draw", .fn (c__law_draw C_Town)), ("range", .bi)]
theorem e__law_deep (C_Town : Addr) : cSs 60 (cfg N__law_deep (defScope s__law_deep) (G__law_deep C_Town) (fun _ => none) (Z C_Town)) (defBody s__law_deep) = some (B__law_deep C_Town) := by kernel_rfl
theorem sc__law_deep : FnScope N__law_deep ["hand", "thing"] (defScope s__law_deep) := ⟨rfl, rfl, rfl, by decide +kernel, rfl, by decide +kernel, by decide +kernel⟩
def G__law_labelled (C_Town : Addr) : List (Str × GV) := [("_law_any", .fn (c__law_any C_Town))]
theorem e__law_labelled (C_Town : Addr) : cSs 60 (cfg N__law_labelled (defScope s__law_labelled) (G__law_labelled C_Town) (fun _ => none) (Z C_Town)) (defBody s__law_labelled) = some (B__law_labelled C_Town) := by kernel_rfl
theorem sc__law_labelled : FnScope N__law_labelled ["hand"] (defScope s__law_labelled) := ⟨rfl, rfl, rfl, by decide +kernel, rfl, by decide +kernel, by decide +kernel⟩
def G__law_named (C_Town : Addr) : List (Str × GV) := [("_law_draw", .fn (c__law_draw C_Town)), ("_law_labelled", .fn (c__law_labelled C_Town)), ("range", .bi), ("tuple", .bi)]
theorem e__law_named (C_Town : Addr) : cSs 60 (cfg N__law_named (defScope s__law_named) (G__law_named C_Town) (fun _ => none) (Z C_Town)) (defBody s__law_named) = some (B__law_named C_Town) := by kernel_rfl
theorem sc__law_named : FnScope N__law_named ["hand", "most"] (defScope s__law_named) := ⟨rfl, rfl, rfl, by decide +kernel, rfl, by decide +kernel, by decide +kernel⟩
def G__law_drawn (C_Town : Addr) : List (Str × GV) := [("_law_any", .fn (c__law_any C_Town)), ("_law_draw", .fn (c__law_draw C_Town)), ("_law_named", .fn (c__law_named C_Town)), ("enumerate", .bi), ("len", .bi)]
theorem e__law_drawn (C_Town : Addr) : cSs 60 (cfg N__law_drawn (defScope s__law_drawn) (G__law_drawn C_Town) (fun _ => none) (Z C_Town)) (defBody s__law_drawn) = some (B__law_drawn C_Town) := by kernel_rfl
theorem sc__law_drawn : FnScope N__law_drawn ["hand", "nodes", "wires"] (defScope s__law_drawn) := ⟨rfl, rfl, rfl, by decide +kernel, rfl, by decide +kernel, by decide +kernel⟩
def G__law_bend (C_Town : Addr) : List (Str × GV) := [("_law_any", .fn (c__law_any C_Town)), ("_law_deep", .fn (c__law_deep C_Town)), ("_law_draw", .fn (c__law_draw C_Town)), ("_law_drawn", .fn (c__law_drawn C_Town)), ("int", .bi), ("len", .bi), ("list", .bi), ("str", .bi)]
theorem e__law_bend (C_Town : Addr) : cSs 60 (cfg N__law_bend (defScope s__law_bend) (G__law_bend C_Town) (fun _ => none) (Z C_Town)) (defBody s__law_bend) = some (B__law_bend C_Town) := by kernel_rfl
theorem sc__law_bend : FnScope N__law_bend ["hand", "nodes", "wires", "thing"] (defScope s__law_bend) := ⟨rfl, rfl, rfl, by decide +kernel, rfl, by decide +kernel, by decide +kernel⟩
def G__law_drawn_town (C_Town : Addr) : List (Str × GV) := [("_law_any", .fn (c__law_any C_Town)), ("_law_draw", .fn (c__law_draw C_Town)), ("max", .bi), ("min", .bi), ("range", .bi), ("tuple", .bi)]
theorem e__law_drawn_town (C_Town : Addr) : cSs 60 (cfg N__law_drawn_town (defScope s__law_drawn_town) (G__law_drawn_town C_Town) (fun _ => none) (Z C_Town)) (defBody s__law_drawn_town) = some (B__law_drawn_town C_Town) := by kernel_rfl
theorem sc__law_drawn_town : FnScope N__law_drawn_town ["hand"] (defScope s__law_drawn_town) := ⟨rfl, rfl, rfl, by decide +kernel, rfl, by decide +kernel, by decide +kernel⟩
def G__law_is_kind (C_Town : Addr) : List (Str × GV) := [("isinstance", .bi), ("len", .bi), ("str", .bi), ("tuple", .bi)]
theorem e__law_is_kind (C_Town : Addr) : cSs 60 (cfg N__law_is_kind (defScope s__law_is_kind) (G__law_is_kind C_Town) (fun _ => none) (Z C_Town)) (defBody s__law_is_kind) = some (B__law_is_kind C_Town) := by kernel_rfl
theorem sc__law_is_kind : FnScope N__law_is_kind ["thing", "word", "many"] (defScope s__law_is_kind) := ⟨rfl, rfl, rfl, by decide +kernel, rfl, by decide +kernel, by decide +kernel⟩
def G__law_is_label (C_Town : Addr) : List (Str × GV) := [("all", .bi), ("isinstance", .bi), ("len", .bi), ("str", .bi)]
theorem e__law_is_label (C_Town : Addr) : cSs 60 (cfg N__law_is_label (defScope s__law_is_label) (G__law_is_label C_Town) (fun _ => none) (Z C_Town)) (defBody s__law_is_label) = some (B__law_is_label C_Town) := by kernel_rfl
theorem sc__law_is_label : FnScope N__law_is_label ["thing"] (defScope s__law_is_label) := ⟨rfl, rfl, rfl, by decide +kernel, rfl, by decide +kernel, by decide +kernel⟩
def G__law_are_labels (C_Town : Addr) : List (Str × GV) := [("_law_is_label", .fn (c__law_is_label C_Town)), ("all", .bi), ("isinstance", .bi), ("len", .bi), ("tuple", .bi)]
theorem e__law_are_labels (C_Town : Addr) : cSs 60 (cfg N__law_are_labels (defScope s__law_are_labels) (G__law_are_labels C_Town) (fun _ => none) (Z C_Town)) (defBody s__law_are_labels) = some (B__law_are_labels C_Town) := by kernel_rfl
theorem sc__law_are_labels : FnScope N__law_are_labels ["thing", "least", "most"] (defScope s__law_are_labels) := ⟨rfl, rfl, rfl, by decide +kernel, rfl, by decide +kernel, by decide +kernel⟩
def G__law_is_int (C_Town : Addr) : List (Str × GV) := [("bool", .bi), ("int", .bi), ("isinstance", .bi)]
theorem e__law_is_int (C_Town : Addr) : cSs 60 (cfg N__law_is_int (defScope s__law_is_int) (G__law_is_int C_Town) (fun _ => none) (Z C_Town)) (defBody s__law_is_int) = some (B__law_is_int C_Town) := by kernel_rfl
theorem sc__law_is_int : FnScope N__law_is_int ["thing"] (defScope s__law_is_int) := ⟨rfl, rfl, rfl, by decide +kernel, rfl, by decide +kernel, by decide +kernel⟩
def G__law_is_number (C_Town : Addr) : List (Str × GV) := [("_law_is_int", .fn (c__law_is_int C_Town))]
theorem e__law_is_number (C_Town : Addr) : cSs 60 (cfg N__law_is_number (defScope s__law_is_number) (G__law_is_number C_Town) (fun _ => none) (Z C_Town)) (defBody s__law_is_number) = some (B__law_is_number C_Town) := by kernel_rfl
theorem sc__law_is_number : FnScope N__law_is_number ["thing", "below"] (defScope s__law_is_number) := ⟨rfl, rfl, rfl, by decide +kernel, rfl, by decide +kernel, by decide +kernel⟩
def G__law_is_mark (C_Town : Addr) : List (Str × GV) := [("_law_are_labels", .fn (c__law_are_labels C_Town)), ("_law_is_number", .fn (c__law_is_number C_Town)), ("isinstance", .bi), ("len", .bi), ("tuple", .bi)]
theorem e__law_is_mark (C_Town : Addr) : cSs 60 (cfg N__law_is_mark (defScope s__law_is_mark) (G__law_is_mark C_Town) (fun _ => none) (Z C_Town)) (defBody s__law_is_mark) = some (B__law_is_mark C_Town) := by kernel_rfl
theorem sc__law_is_mark : FnScope N__law_is_mark ["thing"] (defScope s__law_is_mark) := ⟨rfl, rfl, rfl, by decide +kernel, rfl, by decide +kernel, by decide +kernel⟩
def G__law_is_said (C_Town : Addr) : List (Str × GV) := [("_law_is_kind", .fn (c__law_is_kind C_Town)), ("_law_is_mark", .fn (c__law_is_mark C_Town)), ("_law_is_number", .fn (c__law_is_number C_Town)), ("len", .bi)]
theorem e__law_is_said (C_Town : Addr) : cSs 60 (cfg N__law_is_said (defScope s__law_is_said) (G__law_is_said C_Town) (fun _ => none) (Z C_Town)) (defBody s__law_is_said) = some (B__law_is_said C_Town) := by kernel_rfl
theorem sc__law_is_said : FnScope N__law_is_said ["nodes", "wires", "thing"] (defScope s__law_is_said) := ⟨rfl, rfl, rfl, by decide +kernel, rfl, by decide +kernel, by decide +kernel⟩
def G__law_well (C_Town : Addr) : List (Str × GV) := [("abs", .bi), ("int", .bi), ("len", .bi)]
theorem e__law_well (C_Town : Addr) : cSs 60 (cfg N__law_well (defScope s__law_well) (G__law_well C_Town) (fun _ => none) (Z C_Town)) (defBody s__law_well) = some (B__law_well C_Town) := by kernel_rfl
theorem sc__law_well : FnScope N__law_well ["script"] (defScope s__law_well) := ⟨rfl, rfl, rfl, by decide +kernel, rfl, by decide +kernel, by decide +kernel⟩
def G_has_word (C_Town : Addr) : List (Str × GV) := [("is_tuple_of", .fn (c_is_tuple_of C_Town)), ("isinstance", .bi), ("str", .bi)]
theorem e_has_word (C_Town : Addr) : cSs 60 (cfg N_has_word (defScope s_has_word) (G_has_word C_Town) (fun _ => none) (Z C_Town)) (defBody s_has_word) = some (B_has_word C_Town) := by kernel_rfl
theorem sc_has_word : FnScope N_has_word ["thing", "word", "size"] (defScope s_has_word) := ⟨rfl, rfl, rfl, by decide +kernel, rfl, by decide +kernel, by decide +kernel⟩
def G_is_label (C_Town : Addr) : List (Str × GV) := [("OWN", .cv v_OWN), ("all", .bi), ("isinstance", .bi), ("len", .bi), ("str", .bi)]
theorem e_is_label (C_Town : Addr) : cSs 60 (cfg N_is_label (defScope s_is_label) (G_is_label C_Town) (fun _ => none) (Z C_Town)) (defBody s_is_label) = some (B_is_label C_Town) := by kernel_rfl
theorem sc_is_label : FnScope N_is_label ["thing"] (defScope s_is_label) := ⟨rfl, rfl, rfl, by decide +kernel, rfl, by decide +kernel, by decide +kernel⟩
def G_are_labels (C_Town : Addr) : List (Str × GV) := [("all", .bi), ("is_label", .fn (c_is_label C_Town)), ("isinstance", .bi), ("len", .bi), ("tuple", .bi)]
theorem e_are_labels (C_Town : Addr) : cSs 60 (cfg N_are_labels (defScope s_are_labels) (G_are_labels C_Town) (fun _ => none) (Z C_Town)) (defBody s_are_labels) = some (B_are_labels C_Town) := by kernel_rfl
theorem sc_are_labels : FnScope N_are_labels ["thing", "least", "most"] (defScope s_are_labels) := ⟨rfl, rfl, rfl, by decide +kernel, rfl, by decide +kernel, by decide +kernel⟩
def G_is_name (C_Town : Addr) : List (Str × GV) := [("MOST_LABELS", .cv v_MOST_LABELS), ("are_labels", .fn (c_are_labels C_Town))]
theorem e_is_name (C_Town : Addr) : cSs 60 (cfg N_is_name (defScope s_is_name) (G_is_name C_Town) (fun _ => none) (Z C_Town)) (defBody s_is_name) = some (B_is_name C_Town) := by kernel_rfl
theorem sc_is_name : FnScope N_is_name ["thing"] (defScope s_is_name) := ⟨rfl, rfl, rfl, by decide +kernel, rfl, by decide +kernel, by decide +kernel⟩
def G_is_serial (C_Town : Addr) : List (Str × GV) := [("MOST_SERIAL", .cv v_MOST_SERIAL), ("is_within", .fn (c_is_within C_Town))]
theorem e_is_serial (C_Town : Addr) : cSs 60 (cfg N_is_serial (defScope s_is_serial) (G_is_serial C_Town) (fun _ => none) (Z C_Town)) (defBody s_is_serial) = some (B_is_serial C_Town) := by kernel_rfl
theorem sc_is_serial : FnScope N_is_serial ["thing"] (defScope s_is_serial) := ⟨rfl, rfl, rfl, by decide +kernel, rfl, by decide +kernel, by decide +kernel⟩
def G_is_mark (C_Town : Addr) : List (Str × GV) := [("MOST_NODES", .cv v_MOST_NODES), ("is_name", .fn (c_is_name C_Town)), ("is_serial", .fn (c_is_serial C_Town)), ("is_tuple_of", .fn (c_is_tuple_of C_Town)), ("is_within", .fn (c_is_within C_Town))]
theorem e_is_mark (C_Town : Addr) : cSs 60 (cfg N_is_mark (defScope s_is_mark) (G_is_mark C_Town) (fun _ => none) (Z C_Town)) (defBody s_is_mark) = some (B_is_mark C_Town) := by kernel_rfl
theorem sc_is_mark : FnScope N_is_mark ["thing"] (defScope s_is_mark) := ⟨rfl, rfl, rfl, by decide +kernel, rfl, by decide +kernel, by decide +kernel⟩
def G_is_node (C_Town : Addr) : List (Str × GV) := [("is_within", .fn (c_is_within C_Town))]
theorem e_is_node (C_Town : Addr) : cSs 60 (cfg N_is_node (defScope s_is_node) (G_is_node C_Town) (fun _ => none) (Z C_Town)) (defBody s_is_node) = some (B_is_node C_Town) := by kernel_rfl
theorem sc_is_node : FnScope N_is_node ["town", "thing"] (defScope s_is_node) := ⟨rfl, rfl, rfl, by decide +kernel, rfl, by decide +kernel, by decide +kernel⟩
def G_is_wire (C_Town : Addr) : List (Str × GV) := [("is_within", .fn (c_is_within C_Town)), ("len", .bi)]
theorem e_is_wire (C_Town : Addr) : cSs 60 (cfg N_is_wire (defScope s_is_wire) (G_is_wire C_Town) (fun _ => none) (Z C_Town)) (defBody s_is_wire) = some (B_is_wire C_Town) := by kernel_rfl
theorem sc_is_wire : FnScope N_is_wire ["town", "thing"] (defScope s_is_wire) := ⟨rfl, rfl, rfl, by decide +kernel, rfl, by decide +kernel, by decide +kernel⟩
def G_statement_of (C_Town : Addr) : List (Str × GV) := [("CLOSE", .cv v_CLOSE), ("FULL", .cv v_FULL), ("GONE", .cv v_GONE), ("NEVER", .cv v_NEVER), ("NONE", .cv v_NONE), ("READ", .cv v_READ), ("SIGNED", .cv v_SIGNED), ("has_word", .fn (c_has_word C_Town)), ("is_mark", .fn (c_is_mark C_Town)), ("is_node", .fn (c_is_node C_Town)), ("is_wire", .fn (c_is_wire C_Town)), ("isinstance", .bi), ("len", .bi), ("str", .bi), ("tuple", .bi)]
theorem e_statement_of (C_Town : Addr) : cSs 60 (cfg N_statement_of (defScope s_statement_of) (G_statement_of C_Town) (fun _ => none) (Z C_Town)) (defBody s_statement_of) = some (B_statement_of C_Town) := by kernel_rfl
theorem sc_statement_of : FnScope N_statement_of ["town", "thing"] (defScope s_statement_of) := ⟨rfl, rfl, rfl, by decide +kernel, rfl, by decide +kernel, by decide +kernel⟩
def G_is_statement (C_Town : Addr) : List (Str × GV) := [("statement_of", .fn (c_statement_of C_Town))]
theorem e_is_statement (C_Town : Addr) : cSs 60 (cfg N_is_statement (defScope s_is_statement) (G_is_statement C_Town) (fun _ => none) (Z C_Town)) (defBody s_is_statement) = some (B_is_statement C_Town) := by kernel_rfl
theorem sc_is_statement : FnScope N_is_statement ["town", "thing"] (defScope s_is_statement) := ⟨rfl, rfl, rfl, by decide +kernel, rfl, by decide +kernel, by decide +kernel⟩
def G_law (C_Town : Addr) : List (Str × GV) := [("Town", .mk C_Town (c_Town__init__ C_Town)), ("_law_any", .fn (c__law_any C_Town)), ("_law_bend", .fn (c__law_bend C_Town)), ("_law_draw", .fn (c__law_draw C_Town)), ("_law_drawn", .fn (c__law_drawn C_Town)), ("_law_drawn_town", .fn (c__law_drawn_town C_Town)), ("_law_is_said", .fn (c__law_is_said C_Town)), ("_law_well", .fn (c__law_well C_Town)), ("bool", .bi), ("is_statement", .fn (c_is_statement C_Town)), ("isinstance", .bi), ("range", .bi)]
theorem e_law (C_Town : Addr) : cSs 60 (cfg N_law (defScope s_law) (G_law C_Town) (fun _ => none) (Z C_Town)) (defBody s_law) = some (B_law C_Town) := by kernel_rfl
theorem sc_law : FnScope N_law ["script"] (defScope s_law) := ⟨rfl, rfl, rfl, by decide +kernel, rfl, by decide +kernel, by decide +kernel⟩
def d_is_tuple_of : He.DefD := ⟨("is_tuple_of", none), "is_tuple_of", "is_tuple_of", defArgs s_is_tuple_of, defBody s_is_tuple_of, defScope s_is_tuple_of, [], []⟩
def d_is_integer : He.DefD := ⟨("is_integer", none), "is_integer", "is_integer", defArgs s_is_integer, defBody s_is_integer, defScope s_is_integer, [], []⟩
def d_is_within : He.DefD := ⟨("is_within", none), "is_within", "is_within", defArgs s_is_within, defBody s_is_within, defScope s_is_within, [], []⟩
def d_are_wires : He.DefD := ⟨("are_wires", none), "are_wires", "are_wires", defArgs s_are_wires, defBody s_are_wires, defScope s_are_wires, [], []⟩
def d_is_owner : He.DefD := ⟨("is_owner", none), "is_owner", "is_owner", defArgs s_is_owner, defBody s_is_owner, defScope s_is_owner, [], []⟩
def d_Town__init__ : He.DefD := ⟨("Town", some "__init__"), "__init__", "Town.__init__", defArgs s_Town__init__, defBody s_Town__init__, defScope s_Town__init__, [], []⟩
def d__law_draw : He.DefD := ⟨("_law_draw", none), "_law_draw", "_law_draw", defArgs s__law_draw, defBody s__law_draw, defScope s__law_draw, [], []⟩
def d__law_any : He.DefD := ⟨("_law_any", none), "_law_any", "_law_any", defArgs s__law_any, defBody s__law_any, defScope s__law_any, [], []⟩
def d__law_deep : He.DefD := ⟨("_law_deep", none), "_law_deep", "_law_deep", defArgs s__law_deep, defBody s__law_deep, defScope s__law_deep, [], []⟩
def d__law_labelled : He.DefD := ⟨("_law_labelled", none), "_law_labelled", "_law_labelled", defArgs s__law_labelled, defBody s__law_labelled, defScope s__law_labelled, [], []⟩
def d__law_named : He.DefD := ⟨("_law_named", none), "_law_named", "_law_named", defArgs s__law_named, defBody s__law_named, defScope s__law_named, [], []⟩
def d__law_drawn : He.DefD := ⟨("_law_drawn", none), "_law_drawn", "_law_drawn", defArgs s__law_drawn, defBody s__law_drawn, defScope s__law_drawn, [], []⟩
def d__law_bend : He.DefD := ⟨("_law_bend", none), "_law_bend", "_law_bend", defArgs s__law_bend, defBody s__law_bend, defScope s__law_bend, [], []⟩
def d__law_drawn_town : He.DefD := ⟨("_law_drawn_town", none), "_law_drawn_town", "_law_drawn_town", defArgs s__law_drawn_town, defBody s__law_drawn_town, defScope s__law_drawn_town, [], []⟩
def d__law_is_kind : He.DefD := ⟨("_law_is_kind", none), "_law_is_kind", "_law_is_kind", defArgs s__law_is_kind, defBody s__law_is_kind, defScope s__law_is_kind, [], []⟩
def d__law_is_label : He.DefD := ⟨("_law_is_label", none), "_law_is_label", "_law_is_label", defArgs s__law_is_label, defBody s__law_is_label, defScope s__law_is_label, [], []⟩
def d__law_are_labels : He.DefD := ⟨("_law_are_labels", none), "_law_are_labels", "_law_are_labels", defArgs s__law_are_labels, defBody s__law_are_labels, defScope s__law_are_labels, [], []⟩
def d__law_is_int : He.DefD := ⟨("_law_is_int", none), "_law_is_int", "_law_is_int", defArgs s__law_is_int, defBody s__law_is_int, defScope s__law_is_int, [], []⟩
def d__law_is_number : He.DefD := ⟨("_law_is_number", none), "_law_is_number", "_law_is_number", defArgs s__law_is_number, defBody s__law_is_number, defScope s__law_is_number, [], []⟩
def d__law_is_mark : He.DefD := ⟨("_law_is_mark", none), "_law_is_mark", "_law_is_mark", defArgs s__law_is_mark, defBody s__law_is_mark, defScope s__law_is_mark, [], []⟩
def d__law_is_said : He.DefD := ⟨("_law_is_said", none), "_law_is_said", "_law_is_said", defArgs s__law_is_said, defBody s__law_is_said, defScope s__law_is_said, [], []⟩
def d__law_well : He.DefD := ⟨("_law_well", none), "_law_well", "_law_well", defArgs s__law_well, defBody s__law_well, defScope s__law_well, [], []⟩
def d_has_word : He.DefD := ⟨("has_word", none), "has_word", "has_word", defArgs s_has_word, defBody s_has_word, defScope s_has_word, [], []⟩
def d_is_label : He.DefD := ⟨("is_label", none), "is_label", "is_label", defArgs s_is_label, defBody s_is_label, defScope s_is_label, [], []⟩
def d_are_labels : He.DefD := ⟨("are_labels", none), "are_labels", "are_labels", defArgs s_are_labels, defBody s_are_labels, defScope s_are_labels, [], []⟩
def d_is_name : He.DefD := ⟨("is_name", none), "is_name", "is_name", defArgs s_is_name, defBody s_is_name, defScope s_is_name, [], []⟩
def d_is_serial : He.DefD := ⟨("is_serial", none), "is_serial", "is_serial", defArgs s_is_serial, defBody s_is_serial, defScope s_is_serial, [], []⟩
def d_is_mark : He.DefD := ⟨("is_mark", none), "is_mark", "is_mark", defArgs s_is_mark, defBody s_is_mark, defScope s_is_mark, [], []⟩
def d_is_node : He.DefD := ⟨("is_node", none), "is_node", "is_node", defArgs s_is_node, defBody s_is_node, defScope s_is_node, [], []⟩
def d_is_wire : He.DefD := ⟨("is_wire", none), "is_wire", "is_wire", defArgs s_is_wire, defBody s_is_wire, defScope s_is_wire, [], []⟩
def d_statement_of : He.DefD := ⟨("statement_of", none), "statement_of", "statement_of", defArgs s_statement_of, defBody s_statement_of, defScope s_statement_of, [], []⟩
def d_is_statement : He.DefD := ⟨("is_statement", none), "is_statement", "is_statement", defArgs s_is_statement, defBody s_is_statement, defScope s_is_statement, [], []⟩
def d_law : He.DefD := ⟨("law", none), "law", "law", defArgs s_law, defBody s_law, defScope s_law, [], []⟩
def fn0 : List He.DefD := [d_is_tuple_of, d_is_integer, d_is_within, d_are_wires, d_is_owner, d_Town__init__, d__law_draw, d__law_any, d__law_deep, d__law_labelled, d__law_named, d__law_drawn, d__law_bend, d__law_drawn_town, d__law_is_kind, d__law_is_label, d__law_are_labels, d__law_is_int, d__law_is_number, d__law_is_mark, d__law_is_said, d__law_well, d_has_word, d_is_label, d_are_labels, d_is_name, d_is_serial, d_is_mark, d_is_node, d_is_wire]
def fn1 : List He.DefD := [d_statement_of, d_is_statement, d_law]
def fn : List He.DefD := fn0 ++ fn1
def fa0 : List He.Fa := [.glo "is_tuple_of", .glo "is_integer", .glo "is_within", .glo "are_wires", .glo "is_owner", .glo "_law_draw", .glo "_law_any", .glo "_law_deep", .glo "_law_labelled", .glo "_law_named", .glo "_law_drawn", .glo "_law_bend", .glo "_law_drawn_town", .glo "_law_is_kind", .glo "_law_is_label", .glo "_law_are_labels", .glo "_law_is_int", .glo "_law_is_number", .glo "_law_is_mark", .glo "_law_is_said", .glo "_law_well", .glo "has_word", .glo "is_label", .glo "are_labels", .glo "is_name", .glo "is_serial", .glo "is_mark", .glo "is_node", .glo "is_wire", .glo "statement_of"]
def fa1 : List He.Fa := [.glo "is_statement", .glo "law", .glo "Town", .mkr "Town", .str "CLOSE" "close", .str "FULL" "full", .str "GONE" "gone", .int "LEAST_OWNER" 10, .int "LEAST_SEAL" 100, .int "MOST_LABELS" 4, .int "MOST_NODES" 9, .int "MOST_SERIAL" 999999, .int "MOST_WIRES" 20, .str "NEVER" "never", .str "NONE" "none", .glo "OWN", .str "READ" "read", .str "SIGNED" "signed", .free "abs", .free "all", .free "bool", .free "enumerate", .free "int", .free "isinstance", .free "len", .free "list", .free "max", .free "min", .free "range", .free "str"]
def fa2 : List He.Fa := [.free "tuple"]
def fa : List He.Fa := fa0 ++ fa1 ++ fa2
def ck (K : PySem.W.Frag) : Bool := zB K [He.ga K "Town"] [(He.ga K "Town", "nodes"), (He.ga K "Town", "wires"), (He.ga K "Town", "loss"), (He.ga K "Town", "most"), (He.ga K "Town", "root")] && (He.tupB K "OWN" [.str "signed", .str "sealed", .str "secret"])
structure En (P : Program) (w : World) (K : PySem.W.Frag) (mg : Str → Option Value) (base : Heap) : Prop where
  c : SaysM fa fn ck K
  X : K.In base
  G : base.Ns mainGlobals mg
section
variable {P : Program} {w : World} {K : PySem.W.Frag} {mg : Str → Option Value} {base : Heap}
theorem En.ck' (E : En P w K mg base) : ck K = true := E.c.2
theorem En.z (E : En P w K mg base) : ZOk K (Z (He.ga K "Town")) := zB_ok (cs := [He.ga K "Town"]) (fs := [(He.ga K "Town", "nodes"), (He.ga K "Town", "wires"), (He.ga K "Town", "loss"), (He.ga K "Town", "most"), (He.ga K "Town", "root")]) ((He.ba E.c.2).1)
theorem k_CLOSE (E : En P w K mg base) : CG K mg "CLOSE" v_CLOSE := by
  obtain ⟨t, e⟩ := He.str_ok E.X E.G (E.c.1.fact 34 (f := .str "CLOSE" "close") rfl)
  exact ⟨_, .str _, e, ⟨t, rfl⟩, fun _ => rfl⟩
theorem k_FULL (E : En P w K mg base) : CG K mg "FULL" v_FULL := by
  obtain ⟨t, e⟩ := He.str_ok E.X E.G (E.c.1.fact 35 (f := .str "FULL" "full") rfl)
  exact ⟨_, .str _, e, ⟨t, rfl⟩, fun _ => rfl⟩
theorem k_GONE (E : En P w K mg base) : CG K mg "GONE" v_GONE := by
  obtain ⟨t, e⟩ := He.str_ok E.X E.G (E.c.1.fact 36 (f := .str "GONE" "gone") rfl)
  exact ⟨_, .str _, e, ⟨t, rfl⟩, fun _ => rfl⟩
theorem k_LEAST_OWNER (E : En P w K mg base) : CG K mg "LEAST_OWNER" v_LEAST_OWNER := by
  obtain ⟨t, e⟩ := He.int_ok E.X E.G (E.c.1.fact 37 (f := .int "LEAST_OWNER" 10) rfl)
  exact ⟨_, .int _, e, ⟨t, rfl⟩, fun _ => rfl⟩
theorem k_LEAST_SEAL (E : En P w K mg base) : CG K mg "LEAST_SEAL" v_LEAST_SEAL := by
  obtain ⟨t, e⟩ := He.int_ok E.X E.G (E.c.1.fact 38 (f := .int "LEAST_SEAL" 100) rfl)
  exact ⟨_, .int _, e, ⟨t, rfl⟩, fun _ => rfl⟩
theorem k_MOST_LABELS (E : En P w K mg base) : CG K mg "MOST_LABELS" v_MOST_LABELS := by
  obtain ⟨t, e⟩ := He.int_ok E.X E.G (E.c.1.fact 39 (f := .int "MOST_LABELS" 4) rfl)
  exact ⟨_, .int _, e, ⟨t, rfl⟩, fun _ => rfl⟩
theorem k_MOST_NODES (E : En P w K mg base) : CG K mg "MOST_NODES" v_MOST_NODES := by
  obtain ⟨t, e⟩ := He.int_ok E.X E.G (E.c.1.fact 40 (f := .int "MOST_NODES" 9) rfl)
  exact ⟨_, .int _, e, ⟨t, rfl⟩, fun _ => rfl⟩
theorem k_MOST_SERIAL (E : En P w K mg base) : CG K mg "MOST_SERIAL" v_MOST_SERIAL := by
  obtain ⟨t, e⟩ := He.int_ok E.X E.G (E.c.1.fact 41 (f := .int "MOST_SERIAL" 999999) rfl)
  exact ⟨_, .int _, e, ⟨t, rfl⟩, fun _ => rfl⟩
theorem k_MOST_WIRES (E : En P w K mg base) : CG K mg "MOST_WIRES" v_MOST_WIRES := by
  obtain ⟨t, e⟩ := He.int_ok E.X E.G (E.c.1.fact 42 (f := .int "MOST_WIRES" 20) rfl)
  exact ⟨_, .int _, e, ⟨t, rfl⟩, fun _ => rfl⟩
theorem k_NEVER (E : En P w K mg base) : CG K mg "NEVER" v_NEVER := by
  obtain ⟨t, e⟩ := He.str_ok E.X E.G (E.c.1.fact 43 (f := .str "NEVER" "never") rfl)
  exact ⟨_, .str _, e, ⟨t, rfl⟩, fun _ => rfl⟩
theorem k_NONE (E : En P w K mg base) : CG K mg "NONE" v_NONE := by
  obtain ⟨t, e⟩ := He.str_ok E.X E.G (E.c.1.fact 44 (f := .str "NONE" "none") rfl)
  exact ⟨_, .str _, e, ⟨t, rfl⟩, fun _ => rfl⟩
theorem k_OWN (E : En P w K mg base) : CG K mg "OWN" v_OWN :=
  ⟨_, .ref _, (He.glo_ok E.X E.G (E.c.1.fact 45 (f := .glo "OWN") rfl)), rfl, fun H => ⟨_, _, rfl, He.tupB_ok ((He.ba E.c.2).2) H, ⟨_, _, rfl, rfl, ⟨_, _, rfl, rfl, ⟨_, _, rfl, rfl, rfl⟩⟩⟩⟩⟩
theorem k_READ (E : En P w K mg base) : CG K mg "READ" v_READ := by
  obtain ⟨t, e⟩ := He.str_ok E.X E.G (E.c.1.fact 46 (f := .str "READ" "read") rfl)
  exact ⟨_, .str _, e, ⟨t, rfl⟩, fun _ => rfl⟩
theorem k_SIGNED (E : En P w K mg base) : CG K mg "SIGNED" v_SIGNED := by
  obtain ⟨t, e⟩ := He.str_ok E.X E.G (E.c.1.fact 47 (f := .str "SIGNED" "signed") rfl)
  exact ⟨_, .str _, e, ⟨t, rfl⟩, fun _ => rfl⟩
theorem len_is_tuple_of (C_Town : Addr) : ∀ ds S Q X, c_is_tuple_of C_Town ds S Q X → ds.length = [("thing" : Str), ("size" : Str)].length := fun ds S Q X h => by
  unfold c_is_tuple_of at h
  first
    | (split at h <;> first | rfl | exact h.elim)
    | (unfold M.drawC at h; split at h <;> first | rfl | exact h.elim)
    | (unfold M.anyC at h; split at h <;> first | rfl | exact h.elim)
    | (unfold c_are_wires at h; split at h <;> first | rfl | exact h.elim)
    | (unfold c__law_draw at h; split at h <;> first | rfl | exact h.elim)
    | (unfold c__law_any at h; split at h <;> first | rfl | exact h.elim)
    | (unfold c__law_deep at h; split at h <;> first | rfl | exact h.elim)
    | (unfold c__law_named at h; split at h <;> first | rfl | exact h.elim)
    | (unfold c__law_is_number at h; split at h <;> first | rfl | exact h.elim)
    | (unfold c_is_node at h; split at h <;> first | rfl | exact h.elim)
    | (unfold c_is_wire at h; split at h <;> first | rfl | exact h.elim)
    | (unfold c_statement_of at h; split at h <;> first | rfl | exact h.elim)
    | (unfold c_is_statement at h; split at h <;> first | rfl | exact h.elim)
theorem ok_is_tuple_of (E : En P w K mg base) {fd : FuncData} (F : FunD K d_is_tuple_of.name d_is_tuple_of.qual d_is_tuple_of.params d_is_tuple_of.body d_is_tuple_of.scope (d_is_tuple_of.dvs K) (d_is_tuple_of.kws K) (He.fAd K d_is_tuple_of.at_) fd) :
    FnOk P w K mg base (L2.CX P w) 1 (He.fAd K d_is_tuple_of.at_) fd ["thing", "size"] (liftSp K (c_is_tuple_of (He.ga K "Town"))) :=
  def_ok (gl := G_is_tuple_of (He.ga K "Town")) F sc_is_tuple_of E.z (fun _ _ e => by cases e) ⟨(He.free_ok E.X E.G (E.c.1.fact 53 (f := .free "isinstance") rfl)), ⟨(He.free_ok E.X E.G (E.c.1.fact 54 (f := .free "len") rfl)), ⟨(He.free_ok E.X E.G (E.c.1.fact 60 (f := .free "tuple") rfl)), trivial⟩⟩⟩ (e_is_tuple_of (He.ga K "Town")) (len_is_tuple_of (He.ga K "Town")) (w_is_tuple_of (He.ga K "Town"))
theorem f_is_tuple_of (E : En P w K mg base) : FG P w K mg base 1 "is_tuple_of" (c_is_tuple_of (He.ga K "Town")) := by
  obtain ⟨fd, F⟩ := E.c.1.def_ 0 (d := d_is_tuple_of) rfl
  exact ⟨_, fd, ["thing", "size"], ok_is_tuple_of E F, (He.glo_ok E.X E.G (E.c.1.fact 0 (f := .glo "is_tuple_of") rfl)), F.kp, FunD.bindsN (ps := ["thing", "size"]) F fun _ _ _ _ _ _ us hl => match us, hl with | [_, _], _ => rfl⟩
theorem len_is_integer (C_Town : Addr) : ∀ ds S Q X, c_is_integer C_Town ds S Q X → ds.length = [("thing" : Str)].length := fun ds S Q X h => by
  unfold c_is_integer at h
  first
    | (split at h <;> first | rfl | exact h.elim)
    | (unfold M.drawC at h; split at h <;> first | rfl | exact h.elim)
    | (unfold M.anyC at h; split at h <;> first | rfl | exact h.elim)
    | (unfold c_is_owner at h; split at h <;> first | rfl | exact h.elim)
    | (unfold c__law_labelled at h; split at h <;> first | rfl | exact h.elim)
    | (unfold c__law_drawn_town at h; split at h <;> first | rfl | exact h.elim)
    | (unfold c__law_is_label at h; split at h <;> first | rfl | exact h.elim)
    | (unfold c__law_is_int at h; split at h <;> first | rfl | exact h.elim)
    | (unfold c__law_is_mark at h; split at h <;> first | rfl | exact h.elim)
    | (unfold c__law_well at h; split at h <;> first | rfl | exact h.elim)
    | (unfold c_is_label at h; split at h <;> first | rfl | exact h.elim)
    | (unfold c_is_name at h; split at h <;> first | rfl | exact h.elim)
    | (unfold c_is_serial at h; split at h <;> first | rfl | exact h.elim)
    | (unfold c_is_mark at h; split at h <;> first | rfl | exact h.elim)
    | (unfold c_law at h; split at h <;> first | rfl | exact h.elim)
theorem ok_is_integer (E : En P w K mg base) {fd : FuncData} (F : FunD K d_is_integer.name d_is_integer.qual d_is_integer.params d_is_integer.body d_is_integer.scope (d_is_integer.dvs K) (d_is_integer.kws K) (He.fAd K d_is_integer.at_) fd) :
    FnOk P w K mg base (L2.CX P w) 1 (He.fAd K d_is_integer.at_) fd ["thing"] (liftSp K (c_is_integer (He.ga K "Town"))) :=
  def_ok (gl := G_is_integer (He.ga K "Town")) F sc_is_integer E.z (fun _ _ e => by cases e) ⟨(He.free_ok E.X E.G (E.c.1.fact 50 (f := .free "bool") rfl)), ⟨(He.free_ok E.X E.G (E.c.1.fact 52 (f := .free "int") rfl)), ⟨(He.free_ok E.X E.G (E.c.1.fact 53 (f := .free "isinstance") rfl)), trivial⟩⟩⟩ (e_is_integer (He.ga K "Town")) (len_is_integer (He.ga K "Town")) (w_is_integer (He.ga K "Town"))
theorem f_is_integer (E : En P w K mg base) : FG P w K mg base 1 "is_integer" (c_is_integer (He.ga K "Town")) := by
  obtain ⟨fd, F⟩ := E.c.1.def_ 1 (d := d_is_integer) rfl
  exact ⟨_, fd, ["thing"], ok_is_integer E F, (He.glo_ok E.X E.G (E.c.1.fact 1 (f := .glo "is_integer") rfl)), F.kp, FunD.bindsN (ps := ["thing"]) F fun _ _ _ _ _ _ us hl => match us, hl with | [_], _ => rfl⟩
theorem len_is_within (C_Town : Addr) : ∀ ds S Q X, c_is_within C_Town ds S Q X → ds.length = [("thing" : Str), ("least" : Str), ("most" : Str)].length := fun ds S Q X h => by
  unfold c_is_within at h
  first
    | (split at h <;> first | rfl | exact h.elim)
    | (unfold M.drawC at h; split at h <;> first | rfl | exact h.elim)
    | (unfold M.anyC at h; split at h <;> first | rfl | exact h.elim)
    | (unfold c__law_drawn at h; split at h <;> first | rfl | exact h.elim)
    | (unfold c__law_is_kind at h; split at h <;> first | rfl | exact h.elim)
    | (unfold c__law_are_labels at h; split at h <;> first | rfl | exact h.elim)
    | (unfold c__law_is_said at h; split at h <;> first | rfl | exact h.elim)
    | (unfold c_has_word at h; split at h <;> first | rfl | exact h.elim)
    | (unfold c_are_labels at h; split at h <;> first | rfl | exact h.elim)
theorem ok_is_within (E : En P w K mg base) {fd : FuncData} (F : FunD K d_is_within.name d_is_within.qual d_is_within.params d_is_within.body d_is_within.scope (d_is_within.dvs K) (d_is_within.kws K) (He.fAd K d_is_within.at_) fd) :
    FnOk P w K mg base (L2.CX P w) 2 (He.fAd K d_is_within.at_) fd ["thing", "least", "most"] (liftSp K (c_is_within (He.ga K "Town"))) :=
  def_ok (gl := G_is_within (He.ga K "Town")) F sc_is_within E.z (fun _ _ e => by cases e) ⟨(f_is_integer E).mono (by decide), trivial⟩ (e_is_within (He.ga K "Town")) (len_is_within (He.ga K "Town")) (w_is_within (He.ga K "Town"))
theorem f_is_within (E : En P w K mg base) : FG P w K mg base 2 "is_within" (c_is_within (He.ga K "Town")) := by
  obtain ⟨fd, F⟩ := E.c.1.def_ 2 (d := d_is_within) rfl
  exact ⟨_, fd, ["thing", "least", "most"], ok_is_within E F, (He.glo_ok E.X E.G (E.c.1.fact 2 (f := .glo "is_within") rfl)), F.kp, FunD.bindsN (ps := ["thing", "least", "most"]) F fun _ _ _ _ _ _ us hl => match us, hl with | [_, _, _], _ => rfl⟩
theorem len_are_wires (C_Town : Addr) : ∀ ds S Q X, c_are_wires C_Town ds S Q X → ds.length = [("thing" : Str), ("nodes" : Str)].length := fun ds S Q X h => by
  unfold c_are_wires at h
  first
    | (split at h <;> first | rfl | exact h.elim)
    | (unfold M.drawC at h; split at h <;> first | rfl | exact h.elim)
    | (unfold M.anyC at h; split at h <;> first | rfl | exact h.elim)
    | (unfold c_is_tuple_of at h; split at h <;> first | rfl | exact h.elim)
    | (unfold c__law_draw at h; split at h <;> first | rfl | exact h.elim)
    | (unfold c__law_any at h; split at h <;> first | rfl | exact h.elim)
    | (unfold c__law_deep at h; split at h <;> first | rfl | exact h.elim)
    | (unfold c__law_named at h; split at h <;> first | rfl | exact h.elim)
    | (unfold c__law_is_number at h; split at h <;> first | rfl | exact h.elim)
    | (unfold c_is_node at h; split at h <;> first | rfl | exact h.elim)
    | (unfold c_is_wire at h; split at h <;> first | rfl | exact h.elim)
    | (unfold c_statement_of at h; split at h <;> first | rfl | exact h.elim)
    | (unfold c_is_statement at h; split at h <;> first | rfl | exact h.elim)
theorem ok_are_wires (E : En P w K mg base) {fd : FuncData} (F : FunD K d_are_wires.name d_are_wires.qual d_are_wires.params d_are_wires.body d_are_wires.scope (d_are_wires.dvs K) (d_are_wires.kws K) (He.fAd K d_are_wires.at_) fd) :
    FnOk P w K mg base (L2.CX P w) 3 (He.fAd K d_are_wires.at_) fd ["thing", "nodes"] (liftSp K (c_are_wires (He.ga K "Town"))) :=
  def_ok (gl := G_are_wires (He.ga K "Town")) F sc_are_wires E.z (fun _ _ e => by cases e) ⟨k_MOST_WIRES E, ⟨(f_is_tuple_of E).mono (by decide), ⟨(f_is_within E).mono (by decide), ⟨(He.free_ok E.X E.G (E.c.1.fact 53 (f := .free "isinstance") rfl)), ⟨(He.free_ok E.X E.G (E.c.1.fact 54 (f := .free "len") rfl)), ⟨(He.free_ok E.X E.G (E.c.1.fact 60 (f := .free "tuple") rfl)), trivial⟩⟩⟩⟩⟩⟩ (e_are_wires (He.ga K "Town")) (len_are_wires (He.ga K "Town")) (w_are_wires (He.ga K "Town"))
theorem f_are_wires (E : En P w K mg base) : FG P w K mg base 3 "are_wires" (c_are_wires (He.ga K "Town")) := by
  obtain ⟨fd, F⟩ := E.c.1.def_ 3 (d := d_are_wires) rfl
  exact ⟨_, fd, ["thing", "nodes"], ok_are_wires E F, (He.glo_ok E.X E.G (E.c.1.fact 3 (f := .glo "are_wires") rfl)), F.kp, FunD.bindsN (ps := ["thing", "nodes"]) F fun _ _ _ _ _ _ us hl => match us, hl with | [_, _], _ => rfl⟩
theorem len_is_owner (C_Town : Addr) : ∀ ds S Q X, c_is_owner C_Town ds S Q X → ds.length = [("thing" : Str)].length := fun ds S Q X h => by
  unfold c_is_owner at h
  first
    | (split at h <;> first | rfl | exact h.elim)
    | (unfold M.drawC at h; split at h <;> first | rfl | exact h.elim)
    | (unfold M.anyC at h; split at h <;> first | rfl | exact h.elim)
    | (unfold c_is_integer at h; split at h <;> first | rfl | exact h.elim)
    | (unfold c__law_labelled at h; split at h <;> first | rfl | exact h.elim)
    | (unfold c__law_drawn_town at h; split at h <;> first | rfl | exact h.elim)
    | (unfold c__law_is_label at h; split at h <;> first | rfl | exact h.elim)
    | (unfold c__law_is_int at h; split at h <;> first | rfl | exact h.elim)
    | (unfold c__law_is_mark at h; split at h <;> first | rfl | exact h.elim)
    | (unfold c__law_well at h; split at h <;> first | rfl | exact h.elim)
    | (unfold c_is_label at h; split at h <;> first | rfl | exact h.elim)
    | (unfold c_is_name at h; split at h <;> first | rfl | exact h.elim)
    | (unfold c_is_serial at h; split at h <;> first | rfl | exact h.elim)
    | (unfold c_is_mark at h; split at h <;> first | rfl | exact h.elim)
    | (unfold c_law at h; split at h <;> first | rfl | exact h.elim)
theorem ok_is_owner (E : En P w K mg base) {fd : FuncData} (F : FunD K d_is_owner.name d_is_owner.qual d_is_owner.params d_is_owner.body d_is_owner.scope (d_is_owner.dvs K) (d_is_owner.kws K) (He.fAd K d_is_owner.at_) fd) :
    FnOk P w K mg base (L2.CX P w) 3 (He.fAd K d_is_owner.at_) fd ["thing"] (liftSp K (c_is_owner (He.ga K "Town"))) :=
  def_ok (gl := G_is_owner (He.ga K "Town")) F sc_is_owner E.z (fun _ _ e => by cases e) ⟨k_LEAST_OWNER E, ⟨k_LEAST_SEAL E, ⟨(f_is_within E).mono (by decide), trivial⟩⟩⟩ (e_is_owner (He.ga K "Town")) (len_is_owner (He.ga K "Town")) (w_is_owner (He.ga K "Town"))
theorem f_is_owner (E : En P w K mg base) : FG P w K mg base 3 "is_owner" (c_is_owner (He.ga K "Town")) := by
  obtain ⟨fd, F⟩ := E.c.1.def_ 4 (d := d_is_owner) rfl
  exact ⟨_, fd, ["thing"], ok_is_owner E F, (He.glo_ok E.X E.G (E.c.1.fact 4 (f := .glo "is_owner") rfl)), F.kp, FunD.bindsN (ps := ["thing"]) F fun _ _ _ _ _ _ us hl => match us, hl with | [_], _ => rfl⟩
theorem len_Town__init__ (C_Town : Addr) : ∀ ds S Q X, c_Town__init__ C_Town ds S Q X → ds.length = [("self" : Str), ("nodes" : Str), ("wires" : Str), ("loss" : Str), ("most" : Str), ("root" : Str)].length := fun ds S Q X h => by
  unfold c_Town__init__ at h
  first
    | (split at h <;> first | rfl | exact h.elim)
    | (unfold M.drawC at h; split at h <;> first | rfl | exact h.elim)
    | (unfold M.anyC at h; split at h <;> first | rfl | exact h.elim)
theorem ok_Town__init__ (E : En P w K mg base) {fd : FuncData} (F : FunD K d_Town__init__.name d_Town__init__.qual d_Town__init__.params d_Town__init__.body d_Town__init__.scope (d_Town__init__.dvs K) (d_Town__init__.kws K) (He.fAd K d_Town__init__.at_) fd) :
    FnOk P w K mg base (L2.CX P w) 4 (He.fAd K d_Town__init__.at_) fd ["self", "nodes", "wires", "loss", "most", "root"] (liftSp K (c_Town__init__ (He.ga K "Town"))) :=
  def_ok (gl := G_Town__init__ (He.ga K "Town")) F sc_Town__init__ E.z (fun _ _ e => by cases e) ⟨k_MOST_NODES E, ⟨(f_are_wires E).mono (by decide), ⟨(f_is_owner E).mono (by decide), ⟨(f_is_within E).mono (by decide), trivial⟩⟩⟩⟩ (e_Town__init__ (He.ga K "Town")) (len_Town__init__ (He.ga K "Town")) (w_Town__init__ (He.ga K "Town"))
theorem f_Town__init__ (E : En P w K mg base) : MG P w K mg base 5 "Town" (He.ga K "Town") (c_Town__init__ (He.ga K "Town")) := by
  obtain ⟨fd, F⟩ := E.c.1.def_ 5 (d := d_Town__init__) rfl
  exact ⟨_, fd, ["self", "nodes", "wires", "loss", "most", "root"], 4, He.mkr_ok (E.c.1.fact 33 (f := .mkr "Town") rfl), ok_Town__init__ E F, by decide, (He.glo_ok E.X E.G (E.c.1.fact 32 (f := .glo "Town") rfl)), FunD.bindsN (ps := ["self", "nodes", "wires", "loss", "most", "root"]) F fun _ _ _ _ _ _ us hl => match us, hl with | [_, _, _, _, _, _], _ => rfl⟩
theorem len__law_draw (C_Town : Addr) : ∀ ds S Q X, c__law_draw C_Town ds S Q X → ds.length = [("hand" : Str), ("many" : Str)].length := fun ds S Q X h => by
  unfold c__law_draw at h
  first
    | (split at h <;> first | rfl | exact h.elim)
    | (unfold M.drawC at h; split at h <;> first | rfl | exact h.elim)
    | (unfold M.anyC at h; split at h <;> first | rfl | exact h.elim)
    | (unfold c_is_tuple_of at h; split at h <;> first | rfl | exact h.elim)
    | (unfold c_are_wires at h; split at h <;> first | rfl | exact h.elim)
    | (unfold c__law_any at h; split at h <;> first | rfl | exact h.elim)
    | (unfold c__law_deep at h; split at h <;> first | rfl | exact h.elim)
    | (unfold c__law_named at h; split at h <;> first | rfl | exact h.elim)
    | (unfold c__law_is_number at h; split at h <;> first | rfl | exact h.elim)
    | (unfold c_is_node at h; split at h <;> first | rfl | exact h.elim)
    | (unfold c_is_wire at h; split at h <;> first | rfl | exact h.elim)
    | (unfold c_statement_of at h; split at h <;> first | rfl | exact h.elim)
    | (unfold c_is_statement at h; split at h <;> first | rfl | exact h.elim)
theorem ok__law_draw (E : En P w K mg base) {fd : FuncData} (F : FunD K d__law_draw.name d__law_draw.qual d__law_draw.params d__law_draw.body d__law_draw.scope (d__law_draw.dvs K) (d__law_draw.kws K) (He.fAd K d__law_draw.at_) fd) :
    FnOk P w K mg base (L2.CX P w) 1 (He.fAd K d__law_draw.at_) fd ["hand", "many"] (liftSp K (c__law_draw (He.ga K "Town"))) :=
  def_ok (gl := G__law_draw (He.ga K "Town")) F sc__law_draw E.z (fun _ _ e => by cases e) ⟨(He.free_ok E.X E.G (E.c.1.fact 52 (f := .free "int") rfl)), ⟨(He.free_ok E.X E.G (E.c.1.fact 54 (f := .free "len") rfl)), trivial⟩⟩ (e__law_draw (He.ga K "Town")) (len__law_draw (He.ga K "Town")) (w__law_draw (He.ga K "Town"))
theorem f__law_draw (E : En P w K mg base) : FG P w K mg base 1 "_law_draw" (c__law_draw (He.ga K "Town")) := by
  obtain ⟨fd, F⟩ := E.c.1.def_ 6 (d := d__law_draw) rfl
  exact ⟨_, fd, ["hand", "many"], ok__law_draw E F, (He.glo_ok E.X E.G (E.c.1.fact 5 (f := .glo "_law_draw") rfl)), F.kp, FunD.bindsN (ps := ["hand", "many"]) F fun _ _ _ _ _ _ us hl => match us, hl with | [_, _], _ => rfl⟩
theorem len__law_any (C_Town : Addr) : ∀ ds S Q X, c__law_any C_Town ds S Q X → ds.length = [("hand" : Str), ("things" : Str)].length := fun ds S Q X h => by
  unfold c__law_any at h
  first
    | (split at h <;> first | rfl | exact h.elim)
    | (unfold M.drawC at h; split at h <;> first | rfl | exact h.elim)
    | (unfold M.anyC at h; split at h <;> first | rfl | exact h.elim)
    | (unfold c_is_tuple_of at h; split at h <;> first | rfl | exact h.elim)
    | (unfold c_are_wires at h; split at h <;> first | rfl | exact h.elim)
    | (unfold c__law_draw at h; split at h <;> first | rfl | exact h.elim)
    | (unfold c__law_deep at h; split at h <;> first | rfl | exact h.elim)
    | (unfold c__law_named at h; split at h <;> first | rfl | exact h.elim)
    | (unfold c__law_is_number at h; split at h <;> first | rfl | exact h.elim)
    | (unfold c_is_node at h; split at h <;> first | rfl | exact h.elim)
    | (unfold c_is_wire at h; split at h <;> first | rfl | exact h.elim)
    | (unfold c_statement_of at h; split at h <;> first | rfl | exact h.elim)
    | (unfold c_is_statement at h; split at h <;> first | rfl | exact h.elim)
theorem ok__law_any (E : En P w K mg base) {fd : FuncData} (F : FunD K d__law_any.name d__law_any.qual d__law_any.params d__law_any.body d__law_any.scope (d__law_any.dvs K) (d__law_any.kws K) (He.fAd K d__law_any.at_) fd) :
    FnOk P w K mg base (L2.CX P w) 2 (He.fAd K d__law_any.at_) fd ["hand", "things"] (liftSp K (c__law_any (He.ga K "Town"))) :=
  def_ok (gl := G__law_any (He.ga K "Town")) F sc__law_any E.z (fun _ _ e => by cases e) ⟨(f__law_draw E).mono (by decide), ⟨(He.free_ok E.X E.G (E.c.1.fact 54 (f := .free "len") rfl)), trivial⟩⟩ (e__law_any (He.ga K "Town")) (len__law_any (He.ga K "Town")) (w__law_any (He.ga K "Town"))
theorem f__law_any (E : En P w K mg base) : FG P w K mg base 2 "_law_any" (c__law_any (He.ga K "Town")) := by
  obtain ⟨fd, F⟩ := E.c.1.def_ 7 (d := d__law_any) rfl
  exact ⟨_, fd, ["hand", "things"], ok__law_any E F, (He.glo_ok E.X E.G (E.c.1.fact 6 (f := .glo "_law_any") rfl)), F.kp, FunD.bindsN (ps := ["hand", "things"]) F fun _ _ _ _ _ _ us hl => match us, hl with | [_, _], _ => rfl⟩
theorem len__law_deep (C_Town : Addr) : ∀ ds S Q X, c__law_deep C_Town ds S Q X → ds.length = [("hand" : Str), ("thing" : Str)].length := fun ds S Q X h => by
  unfold c__law_deep at h
  first
    | (split at h <;> first | rfl | exact h.elim)
    | (unfold M.drawC at h; split at h <;> first | rfl | exact h.elim)
    | (unfold M.anyC at h; split at h <;> first | rfl | exact h.elim)
    | (unfold c_is_tuple_of at h; split at h <;> first | rfl | exact h.elim)
    | (unfold c_are_wires at h; split at h <;> first | rfl | exact h.elim)
    | (unfold c__law_draw at h; split at h <;> first | rfl | exact h.elim)
    | (unfold c__law_any at h; split at h <;> first | rfl | exact h.elim)
    | (unfold c__law_named at h; split at h <;> first | rfl | exact h.elim)
    | (unfold c__law_is_number at h; split at h <;> first | rfl | exact h.elim)
    | (unfold c_is_node at h; split at h <;> first | rfl | exact h.elim)
    | (unfold c_is_wire at h; split at h <;> first | rfl | exact h.elim)
    | (unfold c_statement_of at h; split at h <;> first | rfl | exact h.elim)
    | (unfold c_is_statement at h; split at h <;> first | rfl | exact h.elim)
theorem ok__law_deep (E : En P w K mg base) {fd : FuncData} (F : FunD K d__law_deep.name d__law_deep.qual d__law_deep.params d__law_deep.body d__law_deep.scope (d__law_deep.dvs K) (d__law_deep.kws K) (He.fAd K d__law_deep.at_) fd) :
    FnOk P w K mg base (L2.CX P w) 2 (He.fAd K d__law_deep.at_) fd ["hand", "thing"] (liftSp K (c__law_deep (He.ga K "Town"))) :=
  def_ok (gl := G__law_deep (He.ga K "Town")) F sc__law_deep E.z (fun _ _ e => by cases e) ⟨(f__law_draw E).mono (by decide), ⟨(He.free_ok E.X E.G (E.c.1.fact 58 (f := .free "range") rfl)), trivial⟩⟩ (e__law_deep (He.ga K "Town")) (len__law_deep (He.ga K "Town")) (w__law_deep (He.ga K "Town"))
theorem f__law_deep (E : En P w K mg base) : FG P w K mg base 2 "_law_deep" (c__law_deep (He.ga K "Town")) := by
  obtain ⟨fd, F⟩ := E.c.1.def_ 8 (d := d__law_deep) rfl
  exact ⟨_, fd, ["hand", "thing"], ok__law_deep E F, (He.glo_ok E.X E.G (E.c.1.fact 7 (f := .glo "_law_deep") rfl)), F.kp, FunD.bindsN (ps := ["hand", "thing"]) F fun _ _ _ _ _ _ us hl => match us, hl with | [_, _], _ => rfl⟩
theorem len__law_labelled (C_Town : Addr) : ∀ ds S Q X, c__law_labelled C_Town ds S Q X → ds.length = [("hand" : Str)].length := fun ds S Q X h => by
  unfold c__law_labelled at h
  first
    | (split at h <;> first | rfl | exact h.elim)
    | (unfold M.drawC at h; split at h <;> first | rfl | exact h.elim)
    | (unfold M.anyC at h; split at h <;> first | rfl | exact h.elim)
    | (unfold c_is_integer at h; split at h <;> first | rfl | exact h.elim)
    | (unfold c_is_owner at h; split at h <;> first | rfl | exact h.elim)
    | (unfold c__law_drawn_town at h; split at h <;> first | rfl | exact h.elim)
    | (unfold c__law_is_label at h; split at h <;> first | rfl | exact h.elim)
    | (unfold c__law_is_int at h; split at h <;> first | rfl | exact h.elim)
    | (unfold c__law_is_mark at h; split at h <;> first | rfl | exact h.elim)
    | (unfold c__law_well at h; split at h <;> first | rfl | exact h.elim)
    | (unfold c_is_label at h; split at h <;> first | rfl | exact h.elim)
    | (unfold c_is_name at h; split at h <;> first | rfl | exact h.elim)
    | (unfold c_is_serial at h; split at h <;> first | rfl | exact h.elim)
    | (unfold c_is_mark at h; split at h <;> first | rfl | exact h.elim)
    | (unfold c_law at h; split at h <;> first | rfl | exact h.elim)
theorem ok__law_labelled (E : En P w K mg base) {fd : FuncData} (F : FunD K d__law_labelled.name d__law_labelled.qual d__law_labelled.params d__law_labelled.body d__law_labelled.scope (d__law_labelled.dvs K) (d__law_labelled.kws K) (He.fAd K d__law_labelled.at_) fd) :
    FnOk P w K mg base (L2.CX P w) 3 (He.fAd K d__law_labelled.at_) fd ["hand"] (liftSp K (c__law_labelled (He.ga K "Town"))) :=
  def_ok (gl := G__law_labelled (He.ga K "Town")) F sc__law_labelled E.z (fun _ _ e => by cases e) ⟨(f__law_any E).mono (by decide), trivial⟩ (e__law_labelled (He.ga K "Town")) (len__law_labelled (He.ga K "Town")) (w__law_labelled (He.ga K "Town"))
theorem f__law_labelled (E : En P w K mg base) : FG P w K mg base 3 "_law_labelled" (c__law_labelled (He.ga K "Town")) := by
  obtain ⟨fd, F⟩ := E.c.1.def_ 9 (d := d__law_labelled) rfl
  exact ⟨_, fd, ["hand"], ok__law_labelled E F, (He.glo_ok E.X E.G (E.c.1.fact 8 (f := .glo "_law_labelled") rfl)), F.kp, FunD.bindsN (ps := ["hand"]) F fun _ _ _ _ _ _ us hl => match us, hl with | [_], _ => rfl⟩
theorem len__law_named (C_Town : Addr) : ∀ ds S Q X, c__law_named C_Town ds S Q X → ds.length = [("hand" : Str), ("most" : Str)].length := fun ds S Q X h => by
  unfold c__law_named at h
  first
    | (split at h <;> first | rfl | exact h.elim)
    | (unfold M.drawC at h; split at h <;> first | rfl | exact h.elim)
    | (unfold M.anyC at h; split at h <;> first | rfl | exact h.elim)
    | (unfold c_is_tuple_of at h; split at h <;> first | rfl | exact h.elim)
    | (unfold c_are_wires at h; split at h <;> first | rfl | exact h.elim)
    | (unfold c__law_draw at h; split at h <;> first | rfl | exact h.elim)
    | (unfold c__law_any at h; split at h <;> first | rfl | exact h.elim)
    | (unfold c__law_deep at h; split at h <;> first | rfl | exact h.elim)
    | (unfold c__law_is_number at h; split at h <;> first | rfl | exact h.elim)
    | (unfold c_is_node at h; split at h <;> first | rfl | exact h.elim)
    | (unfold c_is_wire at h; split at h <;> first | rfl | exact h.elim)
    | (unfold c_statement_of at h; split at h <;> first | rfl | exact h.elim)
    | (unfold c_is_statement at h; split at h <;> first | rfl | exact h.elim)
theorem ok__law_named (E : En P w K mg base) {fd : FuncData} (F : FunD K d__law_named.name d__law_named.qual d__law_named.params d__law_named.body d__law_named.scope (d__law_named.dvs K) (d__law_named.kws K) (He.fAd K d__law_named.at_) fd) :
    FnOk P w K mg base (L2.CX P w) 4 (He.fAd K d__law_named.at_) fd ["hand", "most"] (liftSp K (c__law_named (He.ga K "Town"))) :=
  def_ok (gl := G__law_named (He.ga K "Town")) F sc__law_named E.z (fun _ _ e => by cases e) ⟨(f__law_draw E).mono (by decide), ⟨(f__law_labelled E).mono (by decide), ⟨(He.free_ok E.X E.G (E.c.1.fact 58 (f := .free "range") rfl)), ⟨(He.free_ok E.X E.G (E.c.1.fact 60 (f := .free "tuple") rfl)), trivial⟩⟩⟩⟩ (e__law_named (He.ga K "Town")) (len__law_named (He.ga K "Town")) (w__law_named (He.ga K "Town"))
theorem f__law_named (E : En P w K mg base) : FG P w K mg base 4 "_law_named" (c__law_named (He.ga K "Town")) := by
  obtain ⟨fd, F⟩ := E.c.1.def_ 10 (d := d__law_named) rfl
  exact ⟨_, fd, ["hand", "most"], ok__law_named E F, (He.glo_ok E.X E.G (E.c.1.fact 9 (f := .glo "_law_named") rfl)), F.kp, FunD.bindsN (ps := ["hand", "most"]) F fun _ _ _ _ _ _ us hl => match us, hl with | [_, _], _ => rfl⟩
theorem len__law_drawn (C_Town : Addr) : ∀ ds S Q X, c__law_drawn C_Town ds S Q X → ds.length = [("hand" : Str), ("nodes" : Str), ("wires" : Str)].length := fun ds S Q X h => by
  unfold c__law_drawn at h
  first
    | (split at h <;> first | rfl | exact h.elim)
    | (unfold M.drawC at h; split at h <;> first | rfl | exact h.elim)
    | (unfold M.anyC at h; split at h <;> first | rfl | exact h.elim)
    | (unfold c_is_within at h; split at h <;> first | rfl | exact h.elim)
    | (unfold c__law_is_kind at h; split at h <;> first | rfl | exact h.elim)
    | (unfold c__law_are_labels at h; split at h <;> first | rfl | exact h.elim)
    | (unfold c__law_is_said at h; split at h <;> first | rfl | exact h.elim)
    | (unfold c_has_word at h; split at h <;> first | rfl | exact h.elim)
    | (unfold c_are_labels at h; split at h <;> first | rfl | exact h.elim)
theorem ok__law_drawn (E : En P w K mg base) {fd : FuncData} (F : FunD K d__law_drawn.name d__law_drawn.qual d__law_drawn.params d__law_drawn.body d__law_drawn.scope (d__law_drawn.dvs K) (d__law_drawn.kws K) (He.fAd K d__law_drawn.at_) fd) :
    FnOk P w K mg base (L2.CX P w) 5 (He.fAd K d__law_drawn.at_) fd ["hand", "nodes", "wires"] (liftSp K (c__law_drawn (He.ga K "Town"))) :=
  def_ok (gl := G__law_drawn (He.ga K "Town")) F sc__law_drawn E.z (fun _ _ e => by cases e) ⟨(f__law_any E).mono (by decide), ⟨(f__law_draw E).mono (by decide), ⟨(f__law_named E).mono (by decide), ⟨(He.free_ok E.X E.G (E.c.1.fact 51 (f := .free "enumerate") rfl)), ⟨(He.free_ok E.X E.G (E.c.1.fact 54 (f := .free "len") rfl)), trivial⟩⟩⟩⟩⟩ (e__law_drawn (He.ga K "Town")) (len__law_drawn (He.ga K "Town")) (w__law_drawn (He.ga K "Town"))
theorem f__law_drawn (E : En P w K mg base) : FG P w K mg base 5 "_law_drawn" (c__law_drawn (He.ga K "Town")) := by
  obtain ⟨fd, F⟩ := E.c.1.def_ 11 (d := d__law_drawn) rfl
  exact ⟨_, fd, ["hand", "nodes", "wires"], ok__law_drawn E F, (He.glo_ok E.X E.G (E.c.1.fact 10 (f := .glo "_law_drawn") rfl)), F.kp, FunD.bindsN (ps := ["hand", "nodes", "wires"]) F fun _ _ _ _ _ _ us hl => match us, hl with | [_, _, _], _ => rfl⟩
theorem len__law_bend (C_Town : Addr) : ∀ ds S Q X, c__law_bend C_Town ds S Q X → ds.length = [("hand" : Str), ("nodes" : Str), ("wires" : Str), ("thing" : Str)].length := fun ds S Q X h => by
  unfold c__law_bend at h
  first
    | (split at h <;> first | rfl | exact h.elim)
    | (unfold M.drawC at h; split at h <;> first | rfl | exact h.elim)
    | (unfold M.anyC at h; split at h <;> first | rfl | exact h.elim)
theorem ok__law_bend (E : En P w K mg base) {fd : FuncData} (F : FunD K d__law_bend.name d__law_bend.qual d__law_bend.params d__law_bend.body d__law_bend.scope (d__law_bend.dvs K) (d__law_bend.kws K) (He.fAd K d__law_bend.at_) fd) :
    FnOk P w K mg base (L2.CX P w) 6 (He.fAd K d__law_bend.at_) fd ["hand", "nodes", "wires", "thing"] (liftSp K (c__law_bend (He.ga K "Town"))) :=
  def_ok (gl := G__law_bend (He.ga K "Town")) F sc__law_bend E.z (fun _ _ e => by cases e) ⟨(f__law_any E).mono (by decide), ⟨(f__law_deep E).mono (by decide), ⟨(f__law_draw E).mono (by decide), ⟨(f__law_drawn E).mono (by decide), ⟨(He.free_ok E.X E.G (E.c.1.fact 52 (f := .free "int") rfl)), ⟨(He.free_ok E.X E.G (E.c.1.fact 54 (f := .free "len") rfl)), ⟨(He.free_ok E.X E.G (E.c.1.fact 55 (f := .free "list") rfl)), ⟨(He.free_ok E.X E.G (E.c.1.fact 59 (f := .free "str") rfl)), trivial⟩⟩⟩⟩⟩⟩⟩⟩ (e__law_bend (He.ga K "Town")) (len__law_bend (He.ga K "Town")) (w__law_bend (He.ga K "Town"))
theorem f__law_bend (E : En P w K mg base) : FG P w K mg base 6 "_law_bend" (c__law_bend (He.ga K "Town")) := by
  obtain ⟨fd, F⟩ := E.c.1.def_ 12 (d := d__law_bend) rfl
  exact ⟨_, fd, ["hand", "nodes", "wires", "thing"], ok__law_bend E F, (He.glo_ok E.X E.G (E.c.1.fact 11 (f := .glo "_law_bend") rfl)), F.kp, FunD.bindsN (ps := ["hand", "nodes", "wires", "thing"]) F fun _ _ _ _ _ _ us hl => match us, hl with | [_, _, _, _], _ => rfl⟩
theorem len__law_drawn_town (C_Town : Addr) : ∀ ds S Q X, c__law_drawn_town C_Town ds S Q X → ds.length = [("hand" : Str)].length := fun ds S Q X h => by
  unfold c__law_drawn_town at h
  first
    | (split at h <;> first | rfl | exact h.elim)
    | (unfold M.drawC at h; split at h <;> first | rfl | exact h.elim)
    | (unfold M.anyC at h; split at h <;> first | rfl | exact h.elim)
    | (unfold c_is_integer at h; split at h <;> first | rfl | exact h.elim)
    | (unfold c_is_owner at h; split at h <;> first | rfl | exact h.elim)
    | (unfold c__law_labelled at h; split at h <;> first | rfl | exact h.elim)
    | (unfold c__law_is_label at h; split at h <;> first | rfl | exact h.elim)
    | (unfold c__law_is_int at h; split at h <;> first | rfl | exact h.elim)
    | (unfold c__law_is_mark at h; split at h <;> first | rfl | exact h.elim)
    | (unfold c__law_well at h; split at h <;> first | rfl | exact h.elim)
    | (unfold c_is_label at h; split at h <;> first | rfl | exact h.elim)
    | (unfold c_is_name at h; split at h <;> first | rfl | exact h.elim)
    | (unfold c_is_serial at h; split at h <;> first | rfl | exact h.elim)
    | (unfold c_is_mark at h; split at h <;> first | rfl | exact h.elim)
    | (unfold c_law at h; split at h <;> first | rfl | exact h.elim)
theorem ok__law_drawn_town (E : En P w K mg base) {fd : FuncData} (F : FunD K d__law_drawn_town.name d__law_drawn_town.qual d__law_drawn_town.params d__law_drawn_town.body d__law_drawn_town.scope (d__law_drawn_town.dvs K) (d__law_drawn_town.kws K) (He.fAd K d__law_drawn_town.at_) fd) :
    FnOk P w K mg base (L2.CX P w) 3 (He.fAd K d__law_drawn_town.at_) fd ["hand"] (liftSp K (c__law_drawn_town (He.ga K "Town"))) :=
  def_ok (gl := G__law_drawn_town (He.ga K "Town")) F sc__law_drawn_town E.z (fun _ _ e => by cases e) ⟨(f__law_any E).mono (by decide), ⟨(f__law_draw E).mono (by decide), ⟨(He.free_ok E.X E.G (E.c.1.fact 56 (f := .free "max") rfl)), ⟨(He.free_ok E.X E.G (E.c.1.fact 57 (f := .free "min") rfl)), ⟨(He.free_ok E.X E.G (E.c.1.fact 58 (f := .free "range") rfl)), ⟨(He.free_ok E.X E.G (E.c.1.fact 60 (f := .free "tuple") rfl)), trivial⟩⟩⟩⟩⟩⟩ (e__law_drawn_town (He.ga K "Town")) (len__law_drawn_town (He.ga K "Town")) (w__law_drawn_town (He.ga K "Town"))
theorem f__law_drawn_town (E : En P w K mg base) : FG P w K mg base 3 "_law_drawn_town" (c__law_drawn_town (He.ga K "Town")) := by
  obtain ⟨fd, F⟩ := E.c.1.def_ 13 (d := d__law_drawn_town) rfl
  exact ⟨_, fd, ["hand"], ok__law_drawn_town E F, (He.glo_ok E.X E.G (E.c.1.fact 12 (f := .glo "_law_drawn_town") rfl)), F.kp, FunD.bindsN (ps := ["hand"]) F fun _ _ _ _ _ _ us hl => match us, hl with | [_], _ => rfl⟩
theorem len__law_is_kind (C_Town : Addr) : ∀ ds S Q X, c__law_is_kind C_Town ds S Q X → ds.length = [("thing" : Str), ("word" : Str), ("many" : Str)].length := fun ds S Q X h => by
  unfold c__law_is_kind at h
  first
    | (split at h <;> first | rfl | exact h.elim)
    | (unfold M.drawC at h; split at h <;> first | rfl | exact h.elim)
    | (unfold M.anyC at h; split at h <;> first | rfl | exact h.elim)
    | (unfold c_is_within at h; split at h <;> first | rfl | exact h.elim)
    | (unfold c__law_drawn at h; split at h <;> first | rfl | exact h.elim)
    | (unfold c__law_are_labels at h; split at h <;> first | rfl | exact h.elim)
    | (unfold c__law_is_said at h; split at h <;> first | rfl | exact h.elim)
    | (unfold c_has_word at h; split at h <;> first | rfl | exact h.elim)
    | (unfold c_are_labels at h; split at h <;> first | rfl | exact h.elim)
theorem ok__law_is_kind (E : En P w K mg base) {fd : FuncData} (F : FunD K d__law_is_kind.name d__law_is_kind.qual d__law_is_kind.params d__law_is_kind.body d__law_is_kind.scope (d__law_is_kind.dvs K) (d__law_is_kind.kws K) (He.fAd K d__law_is_kind.at_) fd) :
    FnOk P w K mg base (L2.CX P w) 1 (He.fAd K d__law_is_kind.at_) fd ["thing", "word", "many"] (liftSp K (c__law_is_kind (He.ga K "Town"))) :=
  def_ok (gl := G__law_is_kind (He.ga K "Town")) F sc__law_is_kind E.z (fun _ _ e => by cases e) ⟨(He.free_ok E.X E.G (E.c.1.fact 53 (f := .free "isinstance") rfl)), ⟨(He.free_ok E.X E.G (E.c.1.fact 54 (f := .free "len") rfl)), ⟨(He.free_ok E.X E.G (E.c.1.fact 59 (f := .free "str") rfl)), ⟨(He.free_ok E.X E.G (E.c.1.fact 60 (f := .free "tuple") rfl)), trivial⟩⟩⟩⟩ (e__law_is_kind (He.ga K "Town")) (len__law_is_kind (He.ga K "Town")) (w__law_is_kind (He.ga K "Town"))
theorem f__law_is_kind (E : En P w K mg base) : FG P w K mg base 1 "_law_is_kind" (c__law_is_kind (He.ga K "Town")) := by
  obtain ⟨fd, F⟩ := E.c.1.def_ 14 (d := d__law_is_kind) rfl
  exact ⟨_, fd, ["thing", "word", "many"], ok__law_is_kind E F, (He.glo_ok E.X E.G (E.c.1.fact 13 (f := .glo "_law_is_kind") rfl)), F.kp, FunD.bindsN (ps := ["thing", "word", "many"]) F fun _ _ _ _ _ _ us hl => match us, hl with | [_, _, _], _ => rfl⟩
theorem len__law_is_label (C_Town : Addr) : ∀ ds S Q X, c__law_is_label C_Town ds S Q X → ds.length = [("thing" : Str)].length := fun ds S Q X h => by
  unfold c__law_is_label at h
  first
    | (split at h <;> first | rfl | exact h.elim)
    | (unfold M.drawC at h; split at h <;> first | rfl | exact h.elim)
    | (unfold M.anyC at h; split at h <;> first | rfl | exact h.elim)
    | (unfold c_is_integer at h; split at h <;> first | rfl | exact h.elim)
    | (unfold c_is_owner at h; split at h <;> first | rfl | exact h.elim)
    | (unfold c__law_labelled at h; split at h <;> first | rfl | exact h.elim)
    | (unfold c__law_drawn_town at h; split at h <;> first | rfl | exact h.elim)
    | (unfold c__law_is_int at h; split at h <;> first | rfl | exact h.elim)
    | (unfold c__law_is_mark at h; split at h <;> first | rfl | exact h.elim)
    | (unfold c__law_well at h; split at h <;> first | rfl | exact h.elim)
    | (unfold c_is_label at h; split at h <;> first | rfl | exact h.elim)
    | (unfold c_is_name at h; split at h <;> first | rfl | exact h.elim)
    | (unfold c_is_serial at h; split at h <;> first | rfl | exact h.elim)
    | (unfold c_is_mark at h; split at h <;> first | rfl | exact h.elim)
    | (unfold c_law at h; split at h <;> first | rfl | exact h.elim)
theorem ok__law_is_label (E : En P w K mg base) {fd : FuncData} (F : FunD K d__law_is_label.name d__law_is_label.qual d__law_is_label.params d__law_is_label.body d__law_is_label.scope (d__law_is_label.dvs K) (d__law_is_label.kws K) (He.fAd K d__law_is_label.at_) fd) :
    FnOk P w K mg base (L2.CX P w) 1 (He.fAd K d__law_is_label.at_) fd ["thing"] (liftSp K (c__law_is_label (He.ga K "Town"))) :=
  def_ok (gl := G__law_is_label (He.ga K "Town")) F sc__law_is_label E.z (fun _ _ e => by cases e) ⟨(He.free_ok E.X E.G (E.c.1.fact 49 (f := .free "all") rfl)), ⟨(He.free_ok E.X E.G (E.c.1.fact 53 (f := .free "isinstance") rfl)), ⟨(He.free_ok E.X E.G (E.c.1.fact 54 (f := .free "len") rfl)), ⟨(He.free_ok E.X E.G (E.c.1.fact 59 (f := .free "str") rfl)), trivial⟩⟩⟩⟩ (e__law_is_label (He.ga K "Town")) (len__law_is_label (He.ga K "Town")) (w__law_is_label (He.ga K "Town"))
theorem f__law_is_label (E : En P w K mg base) : FG P w K mg base 1 "_law_is_label" (c__law_is_label (He.ga K "Town")) := by
  obtain ⟨fd, F⟩ := E.c.1.def_ 15 (d := d__law_is_label) rfl
  exact ⟨_, fd, ["thing"], ok__law_is_label E F, (He.glo_ok E.X E.G (E.c.1.fact 14 (f := .glo "_law_is_label") rfl)), F.kp, FunD.bindsN (ps := ["thing"]) F fun _ _ _ _ _ _ us hl => match us, hl with | [_], _ => rfl⟩
theorem len__law_are_labels (C_Town : Addr) : ∀ ds S Q X, c__law_are_labels C_Town ds S Q X → ds.length = [("thing" : Str), ("least" : Str), ("most" : Str)].length := fun ds S Q X h => by
  unfold c__law_are_labels at h
  first
    | (split at h <;> first | rfl | exact h.elim)
    | (unfold M.drawC at h; split at h <;> first | rfl | exact h.elim)
    | (unfold M.anyC at h; split at h <;> first | rfl | exact h.elim)
    | (unfold c_is_within at h; split at h <;> first | rfl | exact h.elim)
    | (unfold c__law_drawn at h; split at h <;> first | rfl | exact h.elim)
    | (unfold c__law_is_kind at h; split at h <;> first | rfl | exact h.elim)
    | (unfold c__law_is_said at h; split at h <;> first | rfl | exact h.elim)
    | (unfold c_has_word at h; split at h <;> first | rfl | exact h.elim)
    | (unfold c_are_labels at h; split at h <;> first | rfl | exact h.elim)
theorem ok__law_are_labels (E : En P w K mg base) {fd : FuncData} (F : FunD K d__law_are_labels.name d__law_are_labels.qual d__law_are_labels.params d__law_are_labels.body d__law_are_labels.scope (d__law_are_labels.dvs K) (d__law_are_labels.kws K) (He.fAd K d__law_are_labels.at_) fd) :
    FnOk P w K mg base (L2.CX P w) 2 (He.fAd K d__law_are_labels.at_) fd ["thing", "least", "most"] (liftSp K (c__law_are_labels (He.ga K "Town"))) :=
  def_ok (gl := G__law_are_labels (He.ga K "Town")) F sc__law_are_labels E.z (fun _ _ e => by cases e) ⟨(f__law_is_label E).mono (by decide), ⟨(He.free_ok E.X E.G (E.c.1.fact 49 (f := .free "all") rfl)), ⟨(He.free_ok E.X E.G (E.c.1.fact 53 (f := .free "isinstance") rfl)), ⟨(He.free_ok E.X E.G (E.c.1.fact 54 (f := .free "len") rfl)), ⟨(He.free_ok E.X E.G (E.c.1.fact 60 (f := .free "tuple") rfl)), trivial⟩⟩⟩⟩⟩ (e__law_are_labels (He.ga K "Town")) (len__law_are_labels (He.ga K "Town")) (w__law_are_labels (He.ga K "Town"))
theorem f__law_are_labels (E : En P w K mg base) : FG P w K mg base 2 "_law_are_labels" (c__law_are_labels (He.ga K "Town")) := by
  obtain ⟨fd, F⟩ := E.c.1.def_ 16 (d := d__law_are_labels) rfl
  exact ⟨_, fd, ["thing", "least", "most"], ok__law_are_labels E F, (He.glo_ok E.X E.G (E.c.1.fact 15 (f := .glo "_law_are_labels") rfl)), F.kp, FunD.bindsN (ps := ["thing", "least", "most"]) F fun _ _ _ _ _ _ us hl => match us, hl with | [_, _, _], _ => rfl⟩
theorem len__law_is_int (C_Town : Addr) : ∀ ds S Q X, c__law_is_int C_Town ds S Q X → ds.length = [("thing" : Str)].length := fun ds S Q X h => by
  unfold c__law_is_int at h
  first
    | (split at h <;> first | rfl | exact h.elim)
    | (unfold M.drawC at h; split at h <;> first | rfl | exact h.elim)
    | (unfold M.anyC at h; split at h <;> first | rfl | exact h.elim)
    | (unfold c_is_integer at h; split at h <;> first | rfl | exact h.elim)
    | (unfold c_is_owner at h; split at h <;> first | rfl | exact h.elim)
    | (unfold c__law_labelled at h; split at h <;> first | rfl | exact h.elim)
    | (unfold c__law_drawn_town at h; split at h <;> first | rfl | exact h.elim)
    | (unfold c__law_is_label at h; split at h <;> first | rfl | exact h.elim)
    | (unfold c__law_is_mark at h; split at h <;> first | rfl | exact h.elim)
    | (unfold c__law_well at h; split at h <;> first | rfl | exact h.elim)
    | (unfold c_is_label at h; split at h <;> first | rfl | exact h.elim)
    | (unfold c_is_name at h; split at h <;> first | rfl | exact h.elim)
    | (unfold c_is_serial at h; split at h <;> first | rfl | exact h.elim)
    | (unfold c_is_mark at h; split at h <;> first | rfl | exact h.elim)
    | (unfold c_law at h; split at h <;> first | rfl | exact h.elim)
theorem ok__law_is_int (E : En P w K mg base) {fd : FuncData} (F : FunD K d__law_is_int.name d__law_is_int.qual d__law_is_int.params d__law_is_int.body d__law_is_int.scope (d__law_is_int.dvs K) (d__law_is_int.kws K) (He.fAd K d__law_is_int.at_) fd) :
    FnOk P w K mg base (L2.CX P w) 1 (He.fAd K d__law_is_int.at_) fd ["thing"] (liftSp K (c__law_is_int (He.ga K "Town"))) :=
  def_ok (gl := G__law_is_int (He.ga K "Town")) F sc__law_is_int E.z (fun _ _ e => by cases e) ⟨(He.free_ok E.X E.G (E.c.1.fact 50 (f := .free "bool") rfl)), ⟨(He.free_ok E.X E.G (E.c.1.fact 52 (f := .free "int") rfl)), ⟨(He.free_ok E.X E.G (E.c.1.fact 53 (f := .free "isinstance") rfl)), trivial⟩⟩⟩ (e__law_is_int (He.ga K "Town")) (len__law_is_int (He.ga K "Town")) (w__law_is_int (He.ga K "Town"))
theorem f__law_is_int (E : En P w K mg base) : FG P w K mg base 1 "_law_is_int" (c__law_is_int (He.ga K "Town")) := by
  obtain ⟨fd, F⟩ := E.c.1.def_ 17 (d := d__law_is_int) rfl
  exact ⟨_, fd, ["thing"], ok__law_is_int E F, (He.glo_ok E.X E.G (E.c.1.fact 16 (f := .glo "_law_is_int") rfl)), F.kp, FunD.bindsN (ps := ["thing"]) F fun _ _ _ _ _ _ us hl => match us, hl with | [_], _ => rfl⟩
theorem len__law_is_number (C_Town : Addr) : ∀ ds S Q X, c__law_is_number C_Town ds S Q X → ds.length = [("thing" : Str), ("below" : Str)].length := fun ds S Q X h => by
  unfold c__law_is_number at h
  first
    | (split at h <;> first | rfl | exact h.elim)
    | (unfold M.drawC at h; split at h <;> first | rfl | exact h.elim)
    | (unfold M.anyC at h; split at h <;> first | rfl | exact h.elim)
    | (unfold c_is_tuple_of at h; split at h <;> first | rfl | exact h.elim)
    | (unfold c_are_wires at h; split at h <;> first | rfl | exact h.elim)
    | (unfold c__law_draw at h; split at h <;> first | rfl | exact h.elim)
    | (unfold c__law_any at h; split at h <;> first | rfl | exact h.elim)
    | (unfold c__law_deep at h; split at h <;> first | rfl | exact h.elim)
    | (unfold c__law_named at h; split at h <;> first | rfl | exact h.elim)
    | (unfold c_is_node at h; split at h <;> first | rfl | exact h.elim)
    | (unfold c_is_wire at h; split at h <;> first | rfl | exact h.elim)
    | (unfold c_statement_of at h; split at h <;> first | rfl | exact h.elim)
    | (unfold c_is_statement at h; split at h <;> first | rfl | exact h.elim)
theorem ok__law_is_number (E : En P w K mg base) {fd : FuncData} (F : FunD K d__law_is_number.name d__law_is_number.qual d__law_is_number.params d__law_is_number.body d__law_is_number.scope (d__law_is_number.dvs K) (d__law_is_number.kws K) (He.fAd K d__law_is_number.at_) fd) :
    FnOk P w K mg base (L2.CX P w) 2 (He.fAd K d__law_is_number.at_) fd ["thing", "below"] (liftSp K (c__law_is_number (He.ga K "Town"))) :=
  def_ok (gl := G__law_is_number (He.ga K "Town")) F sc__law_is_number E.z (fun _ _ e => by cases e) ⟨(f__law_is_int E).mono (by decide), trivial⟩ (e__law_is_number (He.ga K "Town")) (len__law_is_number (He.ga K "Town")) (w__law_is_number (He.ga K "Town"))
theorem f__law_is_number (E : En P w K mg base) : FG P w K mg base 2 "_law_is_number" (c__law_is_number (He.ga K "Town")) := by
  obtain ⟨fd, F⟩ := E.c.1.def_ 18 (d := d__law_is_number) rfl
  exact ⟨_, fd, ["thing", "below"], ok__law_is_number E F, (He.glo_ok E.X E.G (E.c.1.fact 17 (f := .glo "_law_is_number") rfl)), F.kp, FunD.bindsN (ps := ["thing", "below"]) F fun _ _ _ _ _ _ us hl => match us, hl with | [_, _], _ => rfl⟩
theorem len__law_is_mark (C_Town : Addr) : ∀ ds S Q X, c__law_is_mark C_Town ds S Q X → ds.length = [("thing" : Str)].length := fun ds S Q X h => by
  unfold c__law_is_mark at h
  first
    | (split at h <;> first | rfl | exact h.elim)
    | (unfold M.drawC at h; split at h <;> first | rfl | exact h.elim)
    | (unfold M.anyC at h; split at h <;> first | rfl | exact h.elim)
    | (unfold c_is_integer at h; split at h <;> first | rfl | exact h.elim)
    | (unfold c_is_owner at h; split at h <;> first | rfl | exact h.elim)
    | (unfold c__law_labelled at h; split at h <;> first | rfl | exact h.elim)
    | (unfold c__law_drawn_town at h; split at h <;> first | rfl | exact h.elim)
    | (unfold c__law_is_label at h; split at h <;> first | rfl | exact h.elim)
    | (unfold c__law_is_int at h; split at h <;> first | rfl | exact h.elim)
    | (unfold c__law_well at h; split at h <;> first | rfl | exact h.elim)
    | (unfold c_is_label at h; split at h <;> first | rfl | exact h.elim)
    | (unfold c_is_name at h; split at h <;> first | rfl | exact h.elim)
    | (unfold c_is_serial at h; split at h <;> first | rfl | exact h.elim)
    | (unfold c_is_mark at h; split at h <;> first | rfl | exact h.elim)
    | (unfold c_law at h; split at h <;> first | rfl | exact h.elim)
theorem ok__law_is_mark (E : En P w K mg base) {fd : FuncData} (F : FunD K d__law_is_mark.name d__law_is_mark.qual d__law_is_mark.params d__law_is_mark.body d__law_is_mark.scope (d__law_is_mark.dvs K) (d__law_is_mark.kws K) (He.fAd K d__law_is_mark.at_) fd) :
    FnOk P w K mg base (L2.CX P w) 3 (He.fAd K d__law_is_mark.at_) fd ["thing"] (liftSp K (c__law_is_mark (He.ga K "Town"))) :=
  def_ok (gl := G__law_is_mark (He.ga K "Town")) F sc__law_is_mark E.z (fun _ _ e => by cases e) ⟨(f__law_are_labels E).mono (by decide), ⟨(f__law_is_number E).mono (by decide), ⟨(He.free_ok E.X E.G (E.c.1.fact 53 (f := .free "isinstance") rfl)), ⟨(He.free_ok E.X E.G (E.c.1.fact 54 (f := .free "len") rfl)), ⟨(He.free_ok E.X E.G (E.c.1.fact 60 (f := .free "tuple") rfl)), trivial⟩⟩⟩⟩⟩ (e__law_is_mark (He.ga K "Town")) (len__law_is_mark (He.ga K "Town")) (w__law_is_mark (He.ga K "Town"))
theorem f__law_is_mark (E : En P w K mg base) : FG P w K mg base 3 "_law_is_mark" (c__law_is_mark (He.ga K "Town")) := by
  obtain ⟨fd, F⟩ := E.c.1.def_ 19 (d := d__law_is_mark) rfl
  exact ⟨_, fd, ["thing"], ok__law_is_mark E F, (He.glo_ok E.X E.G (E.c.1.fact 18 (f := .glo "_law_is_mark") rfl)), F.kp, FunD.bindsN (ps := ["thing"]) F fun _ _ _ _ _ _ us hl => match us, hl with | [_], _ => rfl⟩
theorem len__law_is_said (C_Town : Addr) : ∀ ds S Q X, c__law_is_said C_Town ds S Q X → ds.length = [("nodes" : Str), ("wires" : Str), ("thing" : Str)].length := fun ds S Q X h => by
  unfold c__law_is_said at h
  first
    | (split at h <;> first | rfl | exact h.elim)
    | (unfold M.drawC at h; split at h <;> first | rfl | exact h.elim)
    | (unfold M.anyC at h; split at h <;> first | rfl | exact h.elim)
    | (unfold c_is_within at h; split at h <;> first | rfl | exact h.elim)
    | (unfold c__law_drawn at h; split at h <;> first | rfl | exact h.elim)
    | (unfold c__law_is_kind at h; split at h <;> first | rfl | exact h.elim)
    | (unfold c__law_are_labels at h; split at h <;> first | rfl | exact h.elim)
    | (unfold c_has_word at h; split at h <;> first | rfl | exact h.elim)
    | (unfold c_are_labels at h; split at h <;> first | rfl | exact h.elim)
theorem ok__law_is_said (E : En P w K mg base) {fd : FuncData} (F : FunD K d__law_is_said.name d__law_is_said.qual d__law_is_said.params d__law_is_said.body d__law_is_said.scope (d__law_is_said.dvs K) (d__law_is_said.kws K) (He.fAd K d__law_is_said.at_) fd) :
    FnOk P w K mg base (L2.CX P w) 4 (He.fAd K d__law_is_said.at_) fd ["nodes", "wires", "thing"] (liftSp K (c__law_is_said (He.ga K "Town"))) :=
  def_ok (gl := G__law_is_said (He.ga K "Town")) F sc__law_is_said E.z (fun _ _ e => by cases e) ⟨(f__law_is_kind E).mono (by decide), ⟨(f__law_is_mark E).mono (by decide), ⟨(f__law_is_number E).mono (by decide), ⟨(He.free_ok E.X E.G (E.c.1.fact 54 (f := .free "len") rfl)), trivial⟩⟩⟩⟩ (e__law_is_said (He.ga K "Town")) (len__law_is_said (He.ga K "Town")) (w__law_is_said (He.ga K "Town"))
theorem f__law_is_said (E : En P w K mg base) : FG P w K mg base 4 "_law_is_said" (c__law_is_said (He.ga K "Town")) := by
  obtain ⟨fd, F⟩ := E.c.1.def_ 20 (d := d__law_is_said) rfl
  exact ⟨_, fd, ["nodes", "wires", "thing"], ok__law_is_said E F, (He.glo_ok E.X E.G (E.c.1.fact 19 (f := .glo "_law_is_said") rfl)), F.kp, FunD.bindsN (ps := ["nodes", "wires", "thing"]) F fun _ _ _ _ _ _ us hl => match us, hl with | [_, _, _], _ => rfl⟩
theorem len__law_well (C_Town : Addr) : ∀ ds S Q X, c__law_well C_Town ds S Q X → ds.length = [("script" : Str)].length := fun ds S Q X h => by
  unfold c__law_well at h
  first
    | (split at h <;> first | rfl | exact h.elim)
    | (unfold M.drawC at h; split at h <;> first | rfl | exact h.elim)
    | (unfold M.anyC at h; split at h <;> first | rfl | exact h.elim)
    | (unfold c_is_integer at h; split at h <;> first | rfl | exact h.elim)
    | (unfold c_is_owner at h; split at h <;> first | rfl | exact h.elim)
    | (unfold c__law_labelled at h; split at h <;> first | rfl | exact h.elim)
    | (unfold c__law_drawn_town at h; split at h <;> first | rfl | exact h.elim)
    | (unfold c__law_is_label at h; split at h <;> first | rfl | exact h.elim)
    | (unfold c__law_is_int at h; split at h <;> first | rfl | exact h.elim)
    | (unfold c__law_is_mark at h; split at h <;> first | rfl | exact h.elim)
    | (unfold c_is_label at h; split at h <;> first | rfl | exact h.elim)
    | (unfold c_is_name at h; split at h <;> first | rfl | exact h.elim)
    | (unfold c_is_serial at h; split at h <;> first | rfl | exact h.elim)
    | (unfold c_is_mark at h; split at h <;> first | rfl | exact h.elim)
    | (unfold c_law at h; split at h <;> first | rfl | exact h.elim)
theorem ok__law_well (E : En P w K mg base) {fd : FuncData} (F : FunD K d__law_well.name d__law_well.qual d__law_well.params d__law_well.body d__law_well.scope (d__law_well.dvs K) (d__law_well.kws K) (He.fAd K d__law_well.at_) fd) :
    FnOk P w K mg base (L2.CX P w) 1 (He.fAd K d__law_well.at_) fd ["script"] (liftSp K (c__law_well (He.ga K "Town"))) :=
  def_ok (gl := G__law_well (He.ga K "Town")) F sc__law_well E.z (fun _ _ e => by cases e) ⟨(He.free_ok E.X E.G (E.c.1.fact 48 (f := .free "abs") rfl)), ⟨(He.free_ok E.X E.G (E.c.1.fact 52 (f := .free "int") rfl)), ⟨(He.free_ok E.X E.G (E.c.1.fact 54 (f := .free "len") rfl)), trivial⟩⟩⟩ (e__law_well (He.ga K "Town")) (len__law_well (He.ga K "Town")) (w__law_well (He.ga K "Town"))
theorem f__law_well (E : En P w K mg base) : FG P w K mg base 1 "_law_well" (c__law_well (He.ga K "Town")) := by
  obtain ⟨fd, F⟩ := E.c.1.def_ 21 (d := d__law_well) rfl
  exact ⟨_, fd, ["script"], ok__law_well E F, (He.glo_ok E.X E.G (E.c.1.fact 20 (f := .glo "_law_well") rfl)), F.kp, FunD.bindsN (ps := ["script"]) F fun _ _ _ _ _ _ us hl => match us, hl with | [_], _ => rfl⟩
theorem len_has_word (C_Town : Addr) : ∀ ds S Q X, c_has_word C_Town ds S Q X → ds.length = [("thing" : Str), ("word" : Str), ("size" : Str)].length := fun ds S Q X h => by
  unfold c_has_word at h
  first
    | (split at h <;> first | rfl | exact h.elim)
    | (unfold M.drawC at h; split at h <;> first | rfl | exact h.elim)
    | (unfold M.anyC at h; split at h <;> first | rfl | exact h.elim)
    | (unfold c_is_within at h; split at h <;> first | rfl | exact h.elim)
    | (unfold c__law_drawn at h; split at h <;> first | rfl | exact h.elim)
    | (unfold c__law_is_kind at h; split at h <;> first | rfl | exact h.elim)
    | (unfold c__law_are_labels at h; split at h <;> first | rfl | exact h.elim)
    | (unfold c__law_is_said at h; split at h <;> first | rfl | exact h.elim)
    | (unfold c_are_labels at h; split at h <;> first | rfl | exact h.elim)
theorem ok_has_word (E : En P w K mg base) {fd : FuncData} (F : FunD K d_has_word.name d_has_word.qual d_has_word.params d_has_word.body d_has_word.scope (d_has_word.dvs K) (d_has_word.kws K) (He.fAd K d_has_word.at_) fd) :
    FnOk P w K mg base (L2.CX P w) 2 (He.fAd K d_has_word.at_) fd ["thing", "word", "size"] (liftSp K (c_has_word (He.ga K "Town"))) :=
  def_ok (gl := G_has_word (He.ga K "Town")) F sc_has_word E.z (fun _ _ e => by cases e) ⟨(f_is_tuple_of E).mono (by decide), ⟨(He.free_ok E.X E.G (E.c.1.fact 53 (f := .free "isinstance") rfl)), ⟨(He.free_ok E.X E.G (E.c.1.fact 59 (f := .free "str") rfl)), trivial⟩⟩⟩ (e_has_word (He.ga K "Town")) (len_has_word (He.ga K "Town")) (w_has_word (He.ga K "Town"))
theorem f_has_word (E : En P w K mg base) : FG P w K mg base 2 "has_word" (c_has_word (He.ga K "Town")) := by
  obtain ⟨fd, F⟩ := E.c.1.def_ 22 (d := d_has_word) rfl
  exact ⟨_, fd, ["thing", "word", "size"], ok_has_word E F, (He.glo_ok E.X E.G (E.c.1.fact 21 (f := .glo "has_word") rfl)), F.kp, FunD.bindsN (ps := ["thing", "word", "size"]) F fun _ _ _ _ _ _ us hl => match us, hl with | [_, _, _], _ => rfl⟩
theorem len_is_label (C_Town : Addr) : ∀ ds S Q X, c_is_label C_Town ds S Q X → ds.length = [("thing" : Str)].length := fun ds S Q X h => by
  unfold c_is_label at h
  first
    | (split at h <;> first | rfl | exact h.elim)
    | (unfold M.drawC at h; split at h <;> first | rfl | exact h.elim)
    | (unfold M.anyC at h; split at h <;> first | rfl | exact h.elim)
    | (unfold c_is_integer at h; split at h <;> first | rfl | exact h.elim)
    | (unfold c_is_owner at h; split at h <;> first | rfl | exact h.elim)
    | (unfold c__law_labelled at h; split at h <;> first | rfl | exact h.elim)
    | (unfold c__law_drawn_town at h; split at h <;> first | rfl | exact h.elim)
    | (unfold c__law_is_label at h; split at h <;> first | rfl | exact h.elim)
    | (unfold c__law_is_int at h; split at h <;> first | rfl | exact h.elim)
    | (unfold c__law_is_mark at h; split at h <;> first | rfl | exact h.elim)
    | (unfold c__law_well at h; split at h <;> first | rfl | exact h.elim)
    | (unfold c_is_name at h; split at h <;> first | rfl | exact h.elim)
    | (unfold c_is_serial at h; split at h <;> first | rfl | exact h.elim)
    | (unfold c_is_mark at h; split at h <;> first | rfl | exact h.elim)
    | (unfold c_law at h; split at h <;> first | rfl | exact h.elim)
theorem ok_is_label (E : En P w K mg base) {fd : FuncData} (F : FunD K d_is_label.name d_is_label.qual d_is_label.params d_is_label.body d_is_label.scope (d_is_label.dvs K) (d_is_label.kws K) (He.fAd K d_is_label.at_) fd) :
    FnOk P w K mg base (L2.CX P w) 1 (He.fAd K d_is_label.at_) fd ["thing"] (liftSp K (c_is_label (He.ga K "Town"))) :=
  def_ok (gl := G_is_label (He.ga K "Town")) F sc_is_label E.z (fun _ _ e => by cases e) ⟨k_OWN E, ⟨(He.free_ok E.X E.G (E.c.1.fact 49 (f := .free "all") rfl)), ⟨(He.free_ok E.X E.G (E.c.1.fact 53 (f := .free "isinstance") rfl)), ⟨(He.free_ok E.X E.G (E.c.1.fact 54 (f := .free "len") rfl)), ⟨(He.free_ok E.X E.G (E.c.1.fact 59 (f := .free "str") rfl)), trivial⟩⟩⟩⟩⟩ (e_is_label (He.ga K "Town")) (len_is_label (He.ga K "Town")) (w_is_label (He.ga K "Town"))
theorem f_is_label (E : En P w K mg base) : FG P w K mg base 1 "is_label" (c_is_label (He.ga K "Town")) := by
  obtain ⟨fd, F⟩ := E.c.1.def_ 23 (d := d_is_label) rfl
  exact ⟨_, fd, ["thing"], ok_is_label E F, (He.glo_ok E.X E.G (E.c.1.fact 22 (f := .glo "is_label") rfl)), F.kp, FunD.bindsN (ps := ["thing"]) F fun _ _ _ _ _ _ us hl => match us, hl with | [_], _ => rfl⟩
theorem len_are_labels (C_Town : Addr) : ∀ ds S Q X, c_are_labels C_Town ds S Q X → ds.length = [("thing" : Str), ("least" : Str), ("most" : Str)].length := fun ds S Q X h => by
  unfold c_are_labels at h
  first
    | (split at h <;> first | rfl | exact h.elim)
    | (unfold M.drawC at h; split at h <;> first | rfl | exact h.elim)
    | (unfold M.anyC at h; split at h <;> first | rfl | exact h.elim)
    | (unfold c_is_within at h; split at h <;> first | rfl | exact h.elim)
    | (unfold c__law_drawn at h; split at h <;> first | rfl | exact h.elim)
    | (unfold c__law_is_kind at h; split at h <;> first | rfl | exact h.elim)
    | (unfold c__law_are_labels at h; split at h <;> first | rfl | exact h.elim)
    | (unfold c__law_is_said at h; split at h <;> first | rfl | exact h.elim)
    | (unfold c_has_word at h; split at h <;> first | rfl | exact h.elim)
theorem ok_are_labels (E : En P w K mg base) {fd : FuncData} (F : FunD K d_are_labels.name d_are_labels.qual d_are_labels.params d_are_labels.body d_are_labels.scope (d_are_labels.dvs K) (d_are_labels.kws K) (He.fAd K d_are_labels.at_) fd) :
    FnOk P w K mg base (L2.CX P w) 2 (He.fAd K d_are_labels.at_) fd ["thing", "least", "most"] (liftSp K (c_are_labels (He.ga K "Town"))) :=
  def_ok (gl := G_are_labels (He.ga K "Town")) F sc_are_labels E.z (fun _ _ e => by cases e) ⟨(He.free_ok E.X E.G (E.c.1.fact 49 (f := .free "all") rfl)), ⟨(f_is_label E).mono (by decide), ⟨(He.free_ok E.X E.G (E.c.1.fact 53 (f := .free "isinstance") rfl)), ⟨(He.free_ok E.X E.G (E.c.1.fact 54 (f := .free "len") rfl)), ⟨(He.free_ok E.X E.G (E.c.1.fact 60 (f := .free "tuple") rfl)), trivial⟩⟩⟩⟩⟩ (e_are_labels (He.ga K "Town")) (len_are_labels (He.ga K "Town")) (w_are_labels (He.ga K "Town"))
theorem f_are_labels (E : En P w K mg base) : FG P w K mg base 2 "are_labels" (c_are_labels (He.ga K "Town")) := by
  obtain ⟨fd, F⟩ := E.c.1.def_ 24 (d := d_are_labels) rfl
  exact ⟨_, fd, ["thing", "least", "most"], ok_are_labels E F, (He.glo_ok E.X E.G (E.c.1.fact 23 (f := .glo "are_labels") rfl)), F.kp, FunD.bindsN (ps := ["thing", "least", "most"]) F fun _ _ _ _ _ _ us hl => match us, hl with | [_, _, _], _ => rfl⟩
theorem len_is_name (C_Town : Addr) : ∀ ds S Q X, c_is_name C_Town ds S Q X → ds.length = [("thing" : Str)].length := fun ds S Q X h => by
  unfold c_is_name at h
  first
    | (split at h <;> first | rfl | exact h.elim)
    | (unfold M.drawC at h; split at h <;> first | rfl | exact h.elim)
    | (unfold M.anyC at h; split at h <;> first | rfl | exact h.elim)
    | (unfold c_is_integer at h; split at h <;> first | rfl | exact h.elim)
    | (unfold c_is_owner at h; split at h <;> first | rfl | exact h.elim)
    | (unfold c__law_labelled at h; split at h <;> first | rfl | exact h.elim)
    | (unfold c__law_drawn_town at h; split at h <;> first | rfl | exact h.elim)
    | (unfold c__law_is_label at h; split at h <;> first | rfl | exact h.elim)
    | (unfold c__law_is_int at h; split at h <;> first | rfl | exact h.elim)
    | (unfold c__law_is_mark at h; split at h <;> first | rfl | exact h.elim)
    | (unfold c__law_well at h; split at h <;> first | rfl | exact h.elim)
    | (unfold c_is_label at h; split at h <;> first | rfl | exact h.elim)
    | (unfold c_is_serial at h; split at h <;> first | rfl | exact h.elim)
    | (unfold c_is_mark at h; split at h <;> first | rfl | exact h.elim)
    | (unfold c_law at h; split at h <;> first | rfl | exact h.elim)
theorem ok_is_name (E : En P w K mg base) {fd : FuncData} (F : FunD K d_is_name.name d_is_name.qual d_is_name.params d_is_name.body d_is_name.scope (d_is_name.dvs K) (d_is_name.kws K) (He.fAd K d_is_name.at_) fd) :
    FnOk P w K mg base (L2.CX P w) 3 (He.fAd K d_is_name.at_) fd ["thing"] (liftSp K (c_is_name (He.ga K "Town"))) :=
  def_ok (gl := G_is_name (He.ga K "Town")) F sc_is_name E.z (fun _ _ e => by cases e) ⟨k_MOST_LABELS E, ⟨(f_are_labels E).mono (by decide), trivial⟩⟩ (e_is_name (He.ga K "Town")) (len_is_name (He.ga K "Town")) (w_is_name (He.ga K "Town"))
theorem f_is_name (E : En P w K mg base) : FG P w K mg base 3 "is_name" (c_is_name (He.ga K "Town")) := by
  obtain ⟨fd, F⟩ := E.c.1.def_ 25 (d := d_is_name) rfl
  exact ⟨_, fd, ["thing"], ok_is_name E F, (He.glo_ok E.X E.G (E.c.1.fact 24 (f := .glo "is_name") rfl)), F.kp, FunD.bindsN (ps := ["thing"]) F fun _ _ _ _ _ _ us hl => match us, hl with | [_], _ => rfl⟩
theorem len_is_serial (C_Town : Addr) : ∀ ds S Q X, c_is_serial C_Town ds S Q X → ds.length = [("thing" : Str)].length := fun ds S Q X h => by
  unfold c_is_serial at h
  first
    | (split at h <;> first | rfl | exact h.elim)
    | (unfold M.drawC at h; split at h <;> first | rfl | exact h.elim)
    | (unfold M.anyC at h; split at h <;> first | rfl | exact h.elim)
    | (unfold c_is_integer at h; split at h <;> first | rfl | exact h.elim)
    | (unfold c_is_owner at h; split at h <;> first | rfl | exact h.elim)
    | (unfold c__law_labelled at h; split at h <;> first | rfl | exact h.elim)
    | (unfold c__law_drawn_town at h; split at h <;> first | rfl | exact h.elim)
    | (unfold c__law_is_label at h; split at h <;> first | rfl | exact h.elim)
    | (unfold c__law_is_int at h; split at h <;> first | rfl | exact h.elim)
    | (unfold c__law_is_mark at h; split at h <;> first | rfl | exact h.elim)
    | (unfold c__law_well at h; split at h <;> first | rfl | exact h.elim)
    | (unfold c_is_label at h; split at h <;> first | rfl | exact h.elim)
    | (unfold c_is_name at h; split at h <;> first | rfl | exact h.elim)
    | (unfold c_is_mark at h; split at h <;> first | rfl | exact h.elim)
    | (unfold c_law at h; split at h <;> first | rfl | exact h.elim)
theorem ok_is_serial (E : En P w K mg base) {fd : FuncData} (F : FunD K d_is_serial.name d_is_serial.qual d_is_serial.params d_is_serial.body d_is_serial.scope (d_is_serial.dvs K) (d_is_serial.kws K) (He.fAd K d_is_serial.at_) fd) :
    FnOk P w K mg base (L2.CX P w) 3 (He.fAd K d_is_serial.at_) fd ["thing"] (liftSp K (c_is_serial (He.ga K "Town"))) :=
  def_ok (gl := G_is_serial (He.ga K "Town")) F sc_is_serial E.z (fun _ _ e => by cases e) ⟨k_MOST_SERIAL E, ⟨(f_is_within E).mono (by decide), trivial⟩⟩ (e_is_serial (He.ga K "Town")) (len_is_serial (He.ga K "Town")) (w_is_serial (He.ga K "Town"))
theorem f_is_serial (E : En P w K mg base) : FG P w K mg base 3 "is_serial" (c_is_serial (He.ga K "Town")) := by
  obtain ⟨fd, F⟩ := E.c.1.def_ 26 (d := d_is_serial) rfl
  exact ⟨_, fd, ["thing"], ok_is_serial E F, (He.glo_ok E.X E.G (E.c.1.fact 25 (f := .glo "is_serial") rfl)), F.kp, FunD.bindsN (ps := ["thing"]) F fun _ _ _ _ _ _ us hl => match us, hl with | [_], _ => rfl⟩
theorem len_is_mark (C_Town : Addr) : ∀ ds S Q X, c_is_mark C_Town ds S Q X → ds.length = [("thing" : Str)].length := fun ds S Q X h => by
  unfold c_is_mark at h
  first
    | (split at h <;> first | rfl | exact h.elim)
    | (unfold M.drawC at h; split at h <;> first | rfl | exact h.elim)
    | (unfold M.anyC at h; split at h <;> first | rfl | exact h.elim)
    | (unfold c_is_integer at h; split at h <;> first | rfl | exact h.elim)
    | (unfold c_is_owner at h; split at h <;> first | rfl | exact h.elim)
    | (unfold c__law_labelled at h; split at h <;> first | rfl | exact h.elim)
    | (unfold c__law_drawn_town at h; split at h <;> first | rfl | exact h.elim)
    | (unfold c__law_is_label at h; split at h <;> first | rfl | exact h.elim)
    | (unfold c__law_is_int at h; split at h <;> first | rfl | exact h.elim)
    | (unfold c__law_is_mark at h; split at h <;> first | rfl | exact h.elim)
    | (unfold c__law_well at h; split at h <;> first | rfl | exact h.elim)
    | (unfold c_is_label at h; split at h <;> first | rfl | exact h.elim)
    | (unfold c_is_name at h; split at h <;> first | rfl | exact h.elim)
    | (unfold c_is_serial at h; split at h <;> first | rfl | exact h.elim)
    | (unfold c_law at h; split at h <;> first | rfl | exact h.elim)
theorem ok_is_mark (E : En P w K mg base) {fd : FuncData} (F : FunD K d_is_mark.name d_is_mark.qual d_is_mark.params d_is_mark.body d_is_mark.scope (d_is_mark.dvs K) (d_is_mark.kws K) (He.fAd K d_is_mark.at_) fd) :
    FnOk P w K mg base (L2.CX P w) 4 (He.fAd K d_is_mark.at_) fd ["thing"] (liftSp K (c_is_mark (He.ga K "Town"))) :=
  def_ok (gl := G_is_mark (He.ga K "Town")) F sc_is_mark E.z (fun _ _ e => by cases e) ⟨k_MOST_NODES E, ⟨(f_is_name E).mono (by decide), ⟨(f_is_serial E).mono (by decide), ⟨(f_is_tuple_of E).mono (by decide), ⟨(f_is_within E).mono (by decide), trivial⟩⟩⟩⟩⟩ (e_is_mark (He.ga K "Town")) (len_is_mark (He.ga K "Town")) (w_is_mark (He.ga K "Town"))
theorem f_is_mark (E : En P w K mg base) : FG P w K mg base 4 "is_mark" (c_is_mark (He.ga K "Town")) := by
  obtain ⟨fd, F⟩ := E.c.1.def_ 27 (d := d_is_mark) rfl
  exact ⟨_, fd, ["thing"], ok_is_mark E F, (He.glo_ok E.X E.G (E.c.1.fact 26 (f := .glo "is_mark") rfl)), F.kp, FunD.bindsN (ps := ["thing"]) F fun _ _ _ _ _ _ us hl => match us, hl with | [_], _ => rfl⟩
theorem len_is_node (C_Town : Addr) : ∀ ds S Q X, c_is_node C_Town ds S Q X → ds.length = [("town" : Str), ("thing" : Str)].length := fun ds S Q X h => by
  unfold c_is_node at h
  first
    | (split at h <;> first | rfl | exact h.elim)
    | (unfold M.drawC at h; split at h <;> first | rfl | exact h.elim)
    | (unfold M.anyC at h; split at h <;> first | rfl | exact h.elim)
    | (unfold c_is_tuple_of at h; split at h <;> first | rfl | exact h.elim)
    | (unfold c_are_wires at h; split at h <;> first | rfl | exact h.elim)
    | (unfold c__law_draw at h; split at h <;> first | rfl | exact h.elim)
    | (unfold c__law_any at h; split at h <;> first | rfl | exact h.elim)
    | (unfold c__law_deep at h; split at h <;> first | rfl | exact h.elim)
    | (unfold c__law_named at h; split at h <;> first | rfl | exact h.elim)
    | (unfold c__law_is_number at h; split at h <;> first | rfl | exact h.elim)
    | (unfold c_is_wire at h; split at h <;> first | rfl | exact h.elim)
    | (unfold c_statement_of at h; split at h <;> first | rfl | exact h.elim)
    | (unfold c_is_statement at h; split at h <;> first | rfl | exact h.elim)
theorem ok_is_node (E : En P w K mg base) {fd : FuncData} (F : FunD K d_is_node.name d_is_node.qual d_is_node.params d_is_node.body d_is_node.scope (d_is_node.dvs K) (d_is_node.kws K) (He.fAd K d_is_node.at_) fd) :
    FnOk P w K mg base (L2.CX P w) 3 (He.fAd K d_is_node.at_) fd ["town", "thing"] (liftSp K (c_is_node (He.ga K "Town"))) :=
  def_ok (gl := G_is_node (He.ga K "Town")) F sc_is_node E.z (fun _ _ e => by cases e) ⟨(f_is_within E).mono (by decide), trivial⟩ (e_is_node (He.ga K "Town")) (len_is_node (He.ga K "Town")) (w_is_node (He.ga K "Town"))
theorem f_is_node (E : En P w K mg base) : FG P w K mg base 3 "is_node" (c_is_node (He.ga K "Town")) := by
  obtain ⟨fd, F⟩ := E.c.1.def_ 28 (d := d_is_node) rfl
  exact ⟨_, fd, ["town", "thing"], ok_is_node E F, (He.glo_ok E.X E.G (E.c.1.fact 27 (f := .glo "is_node") rfl)), F.kp, FunD.bindsN (ps := ["town", "thing"]) F fun _ _ _ _ _ _ us hl => match us, hl with | [_, _], _ => rfl⟩
theorem len_is_wire (C_Town : Addr) : ∀ ds S Q X, c_is_wire C_Town ds S Q X → ds.length = [("town" : Str), ("thing" : Str)].length := fun ds S Q X h => by
  unfold c_is_wire at h
  first
    | (split at h <;> first | rfl | exact h.elim)
    | (unfold M.drawC at h; split at h <;> first | rfl | exact h.elim)
    | (unfold M.anyC at h; split at h <;> first | rfl | exact h.elim)
    | (unfold c_is_tuple_of at h; split at h <;> first | rfl | exact h.elim)
    | (unfold c_are_wires at h; split at h <;> first | rfl | exact h.elim)
    | (unfold c__law_draw at h; split at h <;> first | rfl | exact h.elim)
    | (unfold c__law_any at h; split at h <;> first | rfl | exact h.elim)
    | (unfold c__law_deep at h; split at h <;> first | rfl | exact h.elim)
    | (unfold c__law_named at h; split at h <;> first | rfl | exact h.elim)
    | (unfold c__law_is_number at h; split at h <;> first | rfl | exact h.elim)
    | (unfold c_is_node at h; split at h <;> first | rfl | exact h.elim)
    | (unfold c_statement_of at h; split at h <;> first | rfl | exact h.elim)
    | (unfold c_is_statement at h; split at h <;> first | rfl | exact h.elim)
theorem ok_is_wire (E : En P w K mg base) {fd : FuncData} (F : FunD K d_is_wire.name d_is_wire.qual d_is_wire.params d_is_wire.body d_is_wire.scope (d_is_wire.dvs K) (d_is_wire.kws K) (He.fAd K d_is_wire.at_) fd) :
    FnOk P w K mg base (L2.CX P w) 3 (He.fAd K d_is_wire.at_) fd ["town", "thing"] (liftSp K (c_is_wire (He.ga K "Town"))) :=
  def_ok (gl := G_is_wire (He.ga K "Town")) F sc_is_wire E.z (fun _ _ e => by cases e) ⟨(f_is_within E).mono (by decide), ⟨(He.free_ok E.X E.G (E.c.1.fact 54 (f := .free "len") rfl)), trivial⟩⟩ (e_is_wire (He.ga K "Town")) (len_is_wire (He.ga K "Town")) (w_is_wire (He.ga K "Town"))
theorem f_is_wire (E : En P w K mg base) : FG P w K mg base 3 "is_wire" (c_is_wire (He.ga K "Town")) := by
  obtain ⟨fd, F⟩ := E.c.1.def_ 29 (d := d_is_wire) rfl
  exact ⟨_, fd, ["town", "thing"], ok_is_wire E F, (He.glo_ok E.X E.G (E.c.1.fact 28 (f := .glo "is_wire") rfl)), F.kp, FunD.bindsN (ps := ["town", "thing"]) F fun _ _ _ _ _ _ us hl => match us, hl with | [_, _], _ => rfl⟩
theorem len_statement_of (C_Town : Addr) : ∀ ds S Q X, c_statement_of C_Town ds S Q X → ds.length = [("town" : Str), ("thing" : Str)].length := fun ds S Q X h => by
  unfold c_statement_of at h
  first
    | (split at h <;> first | rfl | exact h.elim)
    | (unfold M.drawC at h; split at h <;> first | rfl | exact h.elim)
    | (unfold M.anyC at h; split at h <;> first | rfl | exact h.elim)
    | (unfold c_is_tuple_of at h; split at h <;> first | rfl | exact h.elim)
    | (unfold c_are_wires at h; split at h <;> first | rfl | exact h.elim)
    | (unfold c__law_draw at h; split at h <;> first | rfl | exact h.elim)
    | (unfold c__law_any at h; split at h <;> first | rfl | exact h.elim)
    | (unfold c__law_deep at h; split at h <;> first | rfl | exact h.elim)
    | (unfold c__law_named at h; split at h <;> first | rfl | exact h.elim)
    | (unfold c__law_is_number at h; split at h <;> first | rfl | exact h.elim)
    | (unfold c_is_node at h; split at h <;> first | rfl | exact h.elim)
    | (unfold c_is_wire at h; split at h <;> first | rfl | exact h.elim)
    | (unfold c_is_statement at h; split at h <;> first | rfl | exact h.elim)
theorem ok_statement_of (E : En P w K mg base) {fd : FuncData} (F : FunD K d_statement_of.name d_statement_of.qual d_statement_of.params d_statement_of.body d_statement_of.scope (d_statement_of.dvs K) (d_statement_of.kws K) (He.fAd K d_statement_of.at_) fd) :
    FnOk P w K mg base (L2.CX P w) 5 (He.fAd K d_statement_of.at_) fd ["town", "thing"] (liftSp K (c_statement_of (He.ga K "Town"))) :=
  def_ok (gl := G_statement_of (He.ga K "Town")) F sc_statement_of E.z (fun _ _ e => by cases e) ⟨k_CLOSE E, ⟨k_FULL E, ⟨k_GONE E, ⟨k_NEVER E, ⟨k_NONE E, ⟨k_READ E, ⟨k_SIGNED E, ⟨(f_has_word E).mono (by decide), ⟨(f_is_mark E).mono (by decide), ⟨(f_is_node E).mono (by decide), ⟨(f_is_wire E).mono (by decide), ⟨(He.free_ok E.X E.G (E.c.1.fact 53 (f := .free "isinstance") rfl)), ⟨(He.free_ok E.X E.G (E.c.1.fact 54 (f := .free "len") rfl)), ⟨(He.free_ok E.X E.G (E.c.1.fact 59 (f := .free "str") rfl)), ⟨(He.free_ok E.X E.G (E.c.1.fact 60 (f := .free "tuple") rfl)), trivial⟩⟩⟩⟩⟩⟩⟩⟩⟩⟩⟩⟩⟩⟩⟩ (e_statement_of (He.ga K "Town")) (len_statement_of (He.ga K "Town")) (w_statement_of (He.ga K "Town"))
theorem f_statement_of (E : En P w K mg base) : FG P w K mg base 5 "statement_of" (c_statement_of (He.ga K "Town")) := by
  obtain ⟨fd, F⟩ := E.c.1.def_ 30 (d := d_statement_of) rfl
  exact ⟨_, fd, ["town", "thing"], ok_statement_of E F, (He.glo_ok E.X E.G (E.c.1.fact 29 (f := .glo "statement_of") rfl)), F.kp, FunD.bindsN (ps := ["town", "thing"]) F fun _ _ _ _ _ _ us hl => match us, hl with | [_, _], _ => rfl⟩
theorem len_is_statement (C_Town : Addr) : ∀ ds S Q X, c_is_statement C_Town ds S Q X → ds.length = [("town" : Str), ("thing" : Str)].length := fun ds S Q X h => by
  unfold c_is_statement at h
  first
    | (split at h <;> first | rfl | exact h.elim)
    | (unfold M.drawC at h; split at h <;> first | rfl | exact h.elim)
    | (unfold M.anyC at h; split at h <;> first | rfl | exact h.elim)
    | (unfold c_is_tuple_of at h; split at h <;> first | rfl | exact h.elim)
    | (unfold c_are_wires at h; split at h <;> first | rfl | exact h.elim)
    | (unfold c__law_draw at h; split at h <;> first | rfl | exact h.elim)
    | (unfold c__law_any at h; split at h <;> first | rfl | exact h.elim)
    | (unfold c__law_deep at h; split at h <;> first | rfl | exact h.elim)
    | (unfold c__law_named at h; split at h <;> first | rfl | exact h.elim)
    | (unfold c__law_is_number at h; split at h <;> first | rfl | exact h.elim)
    | (unfold c_is_node at h; split at h <;> first | rfl | exact h.elim)
    | (unfold c_is_wire at h; split at h <;> first | rfl | exact h.elim)
    | (unfold c_statement_of at h; split at h <;> first | rfl | exact h.elim)
theorem ok_is_statement (E : En P w K mg base) {fd : FuncData} (F : FunD K d_is_statement.name d_is_statement.qual d_is_statement.params d_is_statement.body d_is_statement.scope (d_is_statement.dvs K) (d_is_statement.kws K) (He.fAd K d_is_statement.at_) fd) :
    FnOk P w K mg base (L2.CX P w) 6 (He.fAd K d_is_statement.at_) fd ["town", "thing"] (liftSp K (c_is_statement (He.ga K "Town"))) :=
  def_ok (gl := G_is_statement (He.ga K "Town")) F sc_is_statement E.z (fun _ _ e => by cases e) ⟨(f_statement_of E).mono (by decide), trivial⟩ (e_is_statement (He.ga K "Town")) (len_is_statement (He.ga K "Town")) (w_is_statement (He.ga K "Town"))
theorem f_is_statement (E : En P w K mg base) : FG P w K mg base 6 "is_statement" (c_is_statement (He.ga K "Town")) := by
  obtain ⟨fd, F⟩ := E.c.1.def_ 31 (d := d_is_statement) rfl
  exact ⟨_, fd, ["town", "thing"], ok_is_statement E F, (He.glo_ok E.X E.G (E.c.1.fact 30 (f := .glo "is_statement") rfl)), F.kp, FunD.bindsN (ps := ["town", "thing"]) F fun _ _ _ _ _ _ us hl => match us, hl with | [_, _], _ => rfl⟩
theorem len_law (C_Town : Addr) : ∀ ds S Q X, c_law C_Town ds S Q X → ds.length = [("script" : Str)].length := fun ds S Q X h => by
  unfold c_law at h
  first
    | (split at h <;> first | rfl | exact h.elim)
    | (unfold M.drawC at h; split at h <;> first | rfl | exact h.elim)
    | (unfold M.anyC at h; split at h <;> first | rfl | exact h.elim)
    | (unfold c_is_integer at h; split at h <;> first | rfl | exact h.elim)
    | (unfold c_is_owner at h; split at h <;> first | rfl | exact h.elim)
    | (unfold c__law_labelled at h; split at h <;> first | rfl | exact h.elim)
    | (unfold c__law_drawn_town at h; split at h <;> first | rfl | exact h.elim)
    | (unfold c__law_is_label at h; split at h <;> first | rfl | exact h.elim)
    | (unfold c__law_is_int at h; split at h <;> first | rfl | exact h.elim)
    | (unfold c__law_is_mark at h; split at h <;> first | rfl | exact h.elim)
    | (unfold c__law_well at h; split at h <;> first | rfl | exact h.elim)
    | (unfold c_is_label at h; split at h <;> first | rfl | exact h.elim)
    | (unfold c_is_name at h; split at h <;> first | rfl | exact h.elim)
    | (unfold c_is_serial at h; split at h <;> first | rfl | exact h.elim)
    | (unfold c_is_mark at h; split at h <;> first | rfl | exact h.elim)
theorem ok_law (E : En P w K mg base) {fd : FuncData} (F : FunD K d_law.name d_law.qual d_law.params d_law.body d_law.scope (d_law.dvs K) (d_law.kws K) (He.fAd K d_law.at_) fd) :
    FnOk P w K mg base (L2.CX P w) 7 (He.fAd K d_law.at_) fd ["script"] (liftSp K (c_law (He.ga K "Town"))) :=
  def_ok (gl := G_law (He.ga K "Town")) F sc_law E.z (fun _ _ e => by cases e) ⟨(f_Town__init__ E).mono (by decide), ⟨(f__law_any E).mono (by decide), ⟨(f__law_bend E).mono (by decide), ⟨(f__law_draw E).mono (by decide), ⟨(f__law_drawn E).mono (by decide), ⟨(f__law_drawn_town E).mono (by decide), ⟨(f__law_is_said E).mono (by decide), ⟨(f__law_well E).mono (by decide), ⟨(He.free_ok E.X E.G (E.c.1.fact 50 (f := .free "bool") rfl)), ⟨(f_is_statement E).mono (by decide), ⟨(He.free_ok E.X E.G (E.c.1.fact 53 (f := .free "isinstance") rfl)), ⟨(He.free_ok E.X E.G (E.c.1.fact 58 (f := .free "range") rfl)), trivial⟩⟩⟩⟩⟩⟩⟩⟩⟩⟩⟩⟩ (e_law (He.ga K "Town")) (len_law (He.ga K "Town")) (w_law (He.ga K "Town"))
end
def names0 : List PySem.Str := ["__name__", "is_integer", "is_within", "is_tuple_of", "TownError", "BadTown", "SIGNED", "SEALED", "SECRET", "MOST_NODES", "MOST_WIRES", "LEAST_OWNER", "LEAST_SEAL", "is_owner", "are_wires", "Town", "is_node", "is_wire", "MOST_LABELS", "MOST_SERIAL", "OWN", "is_label", "are_labels", "is_name", "has_word", "is_serial", "GONE", "NEVER", "READ", "FULL"]
def names1 : List PySem.Str := ["CLOSE", "NONE", "is_mark", "statement_of", "is_statement", "_law_well", "_law_draw", "_law_any", "_law_is_int", "_law_deep", "_law_is_number", "_law_is_label", "_law_are_labels", "_law_is_kind", "_law_labelled", "_law_named", "_law_is_mark", "_law_drawn_town", "_law_is_said", "_law_drawn", "_law_bend"]
def names : List PySem.Str := names0 ++ names1
abbrev R : PySem.W.OpenRow := PySem.W.OpenLaw.row PySem.Challenge.rw_townpost_k14_statements_judged
abbrev qv : Program := PySem.W.view R.prog [56]
abbrev hook : PySem.W.Hook := hookM 5 fa fn ck
def ob (s : PySem.W.SharedT) : He.AlD × Bool := obsMG 5 fa fn ck (HandSHeadRun.getT s)
theorem ob_eq (s : PySem.W.SharedT) : ob s = hook.obs s.abs := obsMG_eq (HandSHeadRun.getT_eq s)
theorem run (w : World) : HandSHeadRun.RunEq R qv hook ob 9000 names w := by
  intro os
  kernel_rfl
end K14
open PySem PySem.W PySem.Calls PyProof.Rows
theorem PySem.Challenge.cw_townpost_k14_statements_judged_holds : PySem.Challenge.rw_townpost_k14_statements_judged.Holds := by
  w_on; o_law
  refine HandSHeadRun.head_any (r := OpenLaw.row PySem.Challenge.rw_townpost_k14_statements_judged) (q := K14.qv) (H := K14.hook) (ob := K14.ob) (M := 9000) (loose := K14.names) (d := HandSHeadRun.topDef (OpenLaw.row PySem.Challenge.rw_townpost_k14_statements_judged).prog 56) (kwd := []) K14.ob_eq (by kernel_rfl) (fun s => by kernel_rfl) K14.run (by kernel_rfl) (by kernel_rfl) (by kernel_rfl) (by rfl) (by first | assumption | decide +kernel) (by decide +kernel) ⟨rfl, rfl, rfl, rfl, rfl, by decide +kernel⟩ ?hw ?hc
  case hw => w_witness2
  case hc =>
    refine M.walk_M (l := PySem.Challenge.rw_townpost_k14_statements_judged) (n := 63) (k := 7) (x := "script") rfl (by decide) (by kernel_rfl) ⟨rfl, by decide, by decide⟩ ?F
    intro w mg fa h Y G hmg0
    obtain ⟨K, KX, c⟩ := Y
    have hmg : mg ("law" : PySem.Str) = some (.ref fa) := by
      have e : (HandSHeadRun.topDef (OpenLaw.row PySem.Challenge.rw_townpost_k14_statements_judged).prog 56).name = ("law" : PySem.Str) := by kernel_rfl
      rw [← e]
      exact hmg0
    obtain ⟨fd, F⟩ := c.1.def_ 32 (d := K14.d_law) rfl
    have e := hmg.symm.trans (He.glo_ok KX G (c.1.fact 31 (f := .glo "law") rfl))
    cases e
    refine ⟨K, fd, K14.c_law (He.ga K "Town"), KX, fun s u => L2.FunD.bindsA (ps := ["script"]) F (fun _ _ _ _ _ _ us hl => match us, hl with | [_], _ => rfl) s [u] rfl, fun ns _ => ⟨ns, rfl, fun _ => rfl⟩, fun base hb hG => K14.ok_law ⟨c, hb, hG⟩ F⟩
