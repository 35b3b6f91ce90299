import PyProof.Rows.All
import Wide.All
import OpenK.AllK
import Wide.FinOn
import HandS.ForMost
import HandS.ForExc
import HandS.TupAny
import HandS.TupMul
import HandS.Wide
import HandS.TupLe
import HandS.Style
import HandS.Strs
import HandS.TupSets
import KE.KeyNested
import HandS.IsInst
import HandS.Deep
import HandS.SortRule
import HandS.SortInts
import HandS.NoneIn
import HandS.Iter
import KE.GoesMore
import HandS.Zip
import KE.GoesZip
import HandS.Comp
import HandS.TryMany
import PySem.Challenge.RW_groundturns_k64_crossings
set_option Elab.async false
set_option linter.all false
set_option maxRecDepth 100000
set_option maxHeartbeats 2000000
/-! AP1: deep values over the hand layer: tuples and lists that stand still are values, what changes stands at an address. -/
namespace L2.AP
open PySem PySem.Spec PyProof.Rows

inductive D where
  | non | bl (b : Bool) | int (i : Int) | str (x : Str) | ref (a : Addr) | ty (n : String) | fn (x : Str) | rdl (xs : List D) | tup (xs : List D) | lst (xs : List D)

/-- a list that no one changes any more -/
def FzL (H : Hp) (a : Addr) (xs : List V) : Prop := ∃ o, H a = some (.frz o (.lst xs))
/-- .. or that the top has written (the script) -/
def RdL (K : PySem.W.Frag) (H : Hp) (a : Addr) (xs : List V) : Prop :=
  (∃ o, H a = some (.frz o (.lst xs))) ∨
    ∃ (o : Obj) (its : Array Value) (n : Nat), K.lookup a = some o ∧ o.cls = .type "list" ∧ o.dict = none ∧ o.data = .seq its n ∧ its.size ≤ sizeLine ∧ Vals xs its.toList
theorem FzL.sql {K : PySem.W.Frag} {H : Hp} {a : Addr} {xs : List V} (h : FzL H a xs) : SqL K H a xs := .inl (.inr h)
theorem RdL.sql {K : PySem.W.Frag} {H : Hp} {a : Addr} {xs : List V} (h : RdL K H a xs) : SqL K H a xs := by
  rcases h with h | h
  · exact .inl (.inr h)
  · exact .inr h

section
variable (K : PySem.W.Frag) (mg : Str → Option Value) (H : Hp)
mutual
def Rep : D → V → Prop
  | .non, v => v = .non
  | .bl b, v => v = .bl b
  | .int i, v => v = .int i
  | .str x, v => v = .str x
  | .ref a, v => v = .ref a
  | .ty n, v => v = .ty n
  | .fn x, v => ∃ a, v = .ref a ∧ mg x = some (.ref a)
  | .tup ds, v => ∃ a vs, v = .ref a ∧ SqT K H a vs ∧ Reps ds vs
  | .rdl ds, v => ∃ a vs, v = .ref a ∧ RdL K H a vs ∧ Reps ds vs
  | .lst ds, v => ∃ a vs, v = .ref a ∧ FzL H a vs ∧ Reps ds vs
def Reps : List D → List V → Prop
  | [], vs => vs = []
  | d :: ds, vs => ∃ v r, vs = v :: r ∧ Rep d v ∧ Reps ds r
end
end

/-- what never changes stays -/
structure Ext (H H' : Hp) : Prop where
  tup : ∀ a xs, H a = some (.tup xs) → H' a = some (.tup xs)
  frz : ∀ a o u, H a = some (.frz o u) → H' a = some (.frz o u)
theorem Ext.refl (H : Hp) : Ext H H := ⟨fun _ _ h => h, fun _ _ _ h => h⟩
theorem Ext.trans {H H1 H2 : Hp} (a : Ext H H1) (b : Ext H1 H2) : Ext H H2 := ⟨fun c xs h => b.tup c xs (a.tup c xs h), fun c o u h => b.frz c o u (a.frz c o u h)⟩
theorem Ext.new {H : Hp} {p : Addr} {o : HO} (h : H p = none) : Ext H (upd H p o) :=
  ⟨fun a xs q => by rw [upd_ne (ne_of_none q h)]; exact q, fun a o u q => by rw [upd_ne (ne_of_none q h)]; exact q⟩
theorem Ext.put {H : Hp} {p : Addr} {o o' : HO} (h : H p = some o) (h1 : ∀ xs, o ≠ .tup xs) (h2 : ∀ b u, o ≠ .frz b u) : Ext H (upd H p o') :=
  ⟨fun a xs q => by rw [upd_ne (fun e => by subst e; rw [h] at q; cases q; exact h1 _ rfl)]; exact q, fun a b u q => by rw [upd_ne (fun e => by subst e; rw [h] at q; cases q; exact h2 _ _ rfl)]; exact q⟩

section
variable {K : PySem.W.Frag} {mg : Str → Option Value} {H H' : Hp}
theorem Ext.sqt (e : Ext H H') {a : Addr} {xs : List V} (h : SqT K H a xs) : SqT K H' a xs := by
  rcases h with (h | ⟨o, h⟩) | h
  · exact .inl (.inl (e.tup _ _ h))
  · exact .inl (.inr ⟨o, e.frz _ _ _ h⟩)
  · exact .inr h
theorem Ext.fzl (e : Ext H H') {a : Addr} {xs : List V} (h : FzL H a xs) : FzL H' a xs := let ⟨o, h⟩ := h; ⟨o, e.frz _ _ _ h⟩
theorem Ext.rdl (e : Ext H H') {a : Addr} {xs : List V} (h : RdL K H a xs) : RdL K H' a xs := by
  rcases h with ⟨o, h⟩ | h
  · exact .inl ⟨o, e.frz _ _ _ h⟩
  · exact .inr h
mutual
theorem Rep.ext (e : Ext H H') : ∀ {d : D} {v : V}, Rep K mg H d v → Rep K mg H' d v
  | .non, _, h => h
  | .bl _, _, h => h
  | .int _, _, h => h
  | .str _, _, h => h
  | .ref _, _, h => h
  | .ty _, _, h => h
  | .fn _, _, h => h
  | .tup _, _, ⟨a, vs, h1, h2, h3⟩ => ⟨a, vs, h1, e.sqt h2, Reps.ext e h3⟩
  | .rdl _, _, ⟨a, vs, h1, h2, h3⟩ => ⟨a, vs, h1, e.rdl h2, Reps.ext e h3⟩
  | .lst _, _, ⟨a, vs, h1, h2, h3⟩ => ⟨a, vs, h1, e.fzl h2, Reps.ext e h3⟩
theorem Reps.ext (e : Ext H H') : ∀ {ds : List D} {vs : List V}, Reps K mg H ds vs → Reps K mg H' ds vs
  | [], _, h => h
  | _ :: _, _, ⟨v, r, h1, h2, h3⟩ => ⟨v, r, h1, Rep.ext e h2, Reps.ext e h3⟩
end
theorem Reps.nil : Reps K mg H [] [] := rfl
theorem Reps.cons {d : D} {v : V} {ds : List D} {vs : List V} (h1 : Rep K mg H d v) (h2 : Reps K mg H ds vs) : Reps K mg H (d :: ds) (v :: vs) := ⟨v, vs, rfl, h1, h2⟩
theorem Reps.len : ∀ {ds : List D} {vs : List V}, Reps K mg H ds vs → vs.length = ds.length
  | [], _, h => by rw [show _ = [] from h]; rfl
  | _ :: _, _, ⟨v, r, h1, _, h3⟩ => by rw [h1, List.length_cons, List.length_cons, Reps.len h3]
theorem Reps.app : ∀ {ds : List D} {vs : List V} {es : List D} {us : List V}, Reps K mg H ds vs → Reps K mg H es us → Reps K mg H (ds ++ es) (vs ++ us)
  | [], _, _, _, h, h' => by rw [show _ = [] from h]; exact h'
  | _ :: _, _, _, _, ⟨v, r, h1, h2, h3⟩, h' => by rw [h1]; exact ⟨v, _, rfl, h2, Reps.app h3 h'⟩
theorem Reps.get : ∀ {ds : List D} {vs : List V} {i : Nat} {d : D}, Reps K mg H ds vs → ds[i]? = some d → ∃ v, vs[i]? = some v ∧ Rep K mg H d v
  | [], _, _, _, _, e => by simp at e
  | x :: _, _, 0, d, ⟨v, r, h1, h2, h3⟩, e => by
    have e' : x = d := by simpa using e
    subst e'
    rw [h1]; exact ⟨v, rfl, h2⟩
  | _ :: _, _, i + 1, d, ⟨v, r, h1, h2, h3⟩, e => by
    rw [h1]
    obtain ⟨u, e1, e2⟩ := Reps.get (i := i) h3 (by simpa using e)
    exact ⟨u, by simpa using e1, e2⟩
theorem Reps.back : ∀ {ds : List D} {vs : List V} {i : Nat} {v : V}, Reps K mg H ds vs → vs[i]? = some v → ∃ d, ds[i]? = some d ∧ Rep K mg H d v := fun {ds vs i v} h e => by
  have hl := h.len
  have hi : i < ds.length := by rw [← hl]; exact (List.getElem?_eq_some_iff.mp e).1
  obtain ⟨u, e1, e2⟩ := Reps.get h (List.getElem?_eq_getElem hi)
  rw [e] at e1; cases e1
  exact ⟨_, List.getElem?_eq_getElem hi, e2⟩
theorem Reps.take : ∀ {ds : List D} {vs : List V} (n : Nat), Reps K mg H ds vs → Reps K mg H (ds.take n) (vs.take n)
  | _, _, 0, _ => rfl
  | [], _, n + 1, h => by rw [show _ = [] from h]; exact rfl
  | _ :: _, _, n + 1, ⟨v, r, h1, h2, h3⟩ => by rw [h1]; exact ⟨v, _, rfl, h2, Reps.take n h3⟩
theorem Reps.drop : ∀ {ds : List D} {vs : List V} (n : Nat), Reps K mg H ds vs → Reps K mg H (ds.drop n) (vs.drop n)
  | _, _, 0, h => h
  | [], _, n + 1, h => by rw [show _ = [] from h]; exact rfl
  | _ :: _, _, n + 1, ⟨v, r, h1, h2, h3⟩ => by rw [h1]; exact Reps.drop n h3
theorem Reps.set : ∀ {ds : List D} {vs : List V} (i : Nat) {d : D} {v : V}, Reps K mg H ds vs → Rep K mg H d v → Reps K mg H (ds.set i d) (vs.set i v)
  | [], _, _, _, _, h, _ => by rw [show _ = [] from h]; exact rfl
  | _ :: _, _, 0, _, _, ⟨v, r, h1, h2, h3⟩, h => by rw [h1]; exact ⟨_, _, rfl, h, h3⟩
  | _ :: _, _, i + 1, _, _, ⟨v, r, h1, h2, h3⟩, h => by rw [h1]; exact ⟨_, _, rfl, h2, Reps.set i h3 h⟩
theorem Reps.rev : ∀ {ds : List D} {vs : List V}, Reps K mg H ds vs → Reps K mg H ds.reverse vs.reverse
  | [], _, h => by rw [show _ = [] from h]; exact rfl
  | _ :: _, _, ⟨v, r, h1, h2, h3⟩ => by rw [h1, List.reverse_cons, List.reverse_cons]; exact (Reps.rev h3).app ⟨v, [], rfl, h2, rfl⟩
theorem Reps.ints : ∀ {ns : List Int}, Reps K mg H (ns.map D.int) (ns.map V.int)
  | [] => rfl
  | _ :: _ => ⟨_, _, rfl, rfl, Reps.ints⟩
end

/-- what stands at an address and may change -/
inductive MO where
  | lst (xs : List D)
  | xd (fs : List (Str × D))
  | ins (C : Addr) (fs : List (Str × D))
abbrev AH := Addr → Option MO
def put (m : AH) (a : Addr) (o : MO) : AH := fun b => if b = a then some o else m b
theorem put_same {m : AH} {a : Addr} {o : MO} : put m a o a = some o := by unfold put; rw [if_pos rfl]
theorem put_ne {m : AH} {a b : Addr} {o : MO} (h : b ≠ a) : put m a o b = m b := by unfold put; rw [if_neg h]
theorem put_put {m : AH} {a : Addr} {o u : MO} : put (put m a o) a u = put m a u := by
  funext b; unfold put; split <;> rfl
theorem put_comm {m : AH} {a b : Addr} {o u : MO} (h : a ≠ b) : put (put m a o) b u = put (put m b u) a o := by
  funext c; unfold put; split <;> split <;> first | rfl | (rename_i h1 h2; subst h1; exact absurd h2.symm h)
/-- less is known -/
def Le (m m' : AH) : Prop := ∀ a o, m a = some o → m' a = some o
theorem Le.refl (m : AH) : Le m m := fun _ _ h => h
theorem Le.trans {m m1 m2 : AH} (a : Le m m1) (b : Le m1 m2) : Le m m2 := fun c o h => b c o (a c o h)
theorem Le.new {m : AH} {p : Addr} {o : MO} (h : m p = none) : Le m (put m p o) := fun a u q => by
  rw [put_ne (fun e => by subst e; rw [h] at q; cases q)]; exact q
theorem Le.put {m m' : AH} {p : Addr} {o : MO} (h : Le m m') : Le (put m p o) (put m' p o) := fun a u q => by
  by_cases c : a = p
  · subst c; rw [put_same] at q ⊢; exact q
  · rw [put_ne c] at q ⊢; exact h _ _ q
theorem ne_free {m : AH} {a p : Addr} {o : MO} (h : m a = some o) (h' : m p = none) : a ≠ p := fun e => by subst e; rw [h] at h'; cases h'

def Fields (K : PySem.W.Frag) (mg : Str → Option Value) (H : Hp) : List (Str × D) → List (Str × V) → Prop := Paired fun p q => p.1 = q.1 ∧ Rep K mg H p.2 q.2
def MRep (K : PySem.W.Frag) (mg : Str → Option Value) (H : Hp) (a : Addr) : MO → Prop
  | .lst ds => ∃ vs, H a = some (.lst vs) ∧ Reps K mg H ds vs
  | .xd fs => ∃ gs, H a = some (.xd gs) ∧ Fields K mg H fs gs
  | .ins C fs => ∃ dx gs, H a = some (.ins C dx gs) ∧ Fields K mg H fs gs
def HRep (K : PySem.W.Frag) (mg : Str → Option Value) (H : Hp) (m : AH) : Prop := ∀ a o, m a = some o → MRep K mg H a o
abbrev Dl := List (Option D)
def ERep (K : PySem.W.Frag) (mg : Str → Option Value) (H : Hp) (σ : St) (δ : Dl) : Prop := σ.length = δ.length ∧ ∀ (i : Nat) (d : D), δ[i]? = some (some d) → ∃ v, σ[i]? = some (some v) ∧ Rep K mg H d v

section
variable {K : PySem.W.Frag} {mg : Str → Option Value} {H H' : Hp} {m m' : AH} {σ : St} {δ : Dl} {p a : Addr}
theorem Fields.ext (e : Ext H H') {fs : List (Str × D)} {gs : List (Str × V)} (h : Fields K mg H fs gs) : Fields K mg H' fs gs := Paired.mapP h fun _ _ q => ⟨q.1, q.2.ext e⟩
theorem MRep.ext (e : Ext H H') (he : H' a = H a) {o : MO} (h : MRep K mg H a o) : MRep K mg H' a o := by
  cases o with
  | lst ds => obtain ⟨vs, h1, h2⟩ := h; exact ⟨vs, he.trans h1, h2.ext e⟩
  | xd fs => obtain ⟨vs, h1, h2⟩ := h; exact ⟨vs, he.trans h1, h2.ext e⟩
  | ins C fs => obtain ⟨dx, vs, h1, h2⟩ := h; exact ⟨dx, vs, he.trans h1, h2.ext e⟩
theorem HRep.some (h : HRep K mg H m) {o : MO} (e : m a = some o) : ∃ u, H a = Option.some u ∧ (∀ xs, u ≠ .tup xs) ∧ ∀ b w, u ≠ .frz b w := by
  have q := h a o e
  cases o with
  | lst ds => obtain ⟨vs, h1, h2⟩ := q; exact ⟨_, h1, (fun _ z => by cases z), fun _ _ z => by cases z⟩
  | xd fs => obtain ⟨vs, h1, h2⟩ := q; exact ⟨_, h1, (fun _ z => by cases z), fun _ _ z => by cases z⟩
  | ins C fs => obtain ⟨dx, vs, h1, h2⟩ := q; exact ⟨_, h1, (fun _ z => by cases z), fun _ _ z => by cases z⟩
theorem HRep.none (h : HRep K mg H m) (e : H a = none) : m a = none := by
  cases q : m a with
  | none => rfl
  | some o => obtain ⟨u, z, _⟩ := h.some q; rw [e] at z; cases z
theorem HRep.le (h : HRep K mg H m) (l : Le m' m) : HRep K mg H m' := fun a o e => h a o (l a o e)
/-- a new object that the deep heap does not see -/
theorem HRep.new {o : HO} (h : HRep K mg H m) (hp : H p = Option.none) : HRep K mg (upd H p o) m := fun a u e => by
  obtain ⟨w, z, _⟩ := h.some e
  exact (h a u e).ext (Ext.new hp) (upd_ne (ne_of_none z hp))
/-- a new object -/
theorem HRep.lay {o : HO} {u : MO} (h : HRep K mg H m) (hp : H p = Option.none) (hu : MRep K mg (upd H p o) p u) : HRep K mg (upd H p o) (put m p u) := fun a w e => by
  by_cases c : a = p
  · subst c; rw [put_same] at e; cases e; exact hu
  · rw [put_ne c] at e; exact h.new hp a w e
/-- an object is changed -/
theorem HRep.put {o o' : HO} {u : MO} (h : HRep K mg H m) (hp : H p = Option.some o) (h1 : ∀ xs, o ≠ .tup xs) (h2 : ∀ b w, o ≠ .frz b w) (hu : MRep K mg (upd H p o') p u) : HRep K mg (upd H p o') (put m p u) := fun a w e => by
  by_cases c : a = p
  · subst c; rw [put_same] at e; cases e; exact hu
  · rw [put_ne c] at e; exact (h a w e).ext (Ext.put hp h1 h2) (upd_ne c)
theorem ERep.ext (e : Ext H H') (h : ERep K mg H σ δ) : ERep K mg H' σ δ := ⟨h.1, fun i d q => let ⟨v, h1, h2⟩ := h.2 i d q; ⟨v, h1, h2.ext e⟩⟩
theorem ERep.set (h : ERep K mg H σ δ) {d : D} {v : V} (r : Rep K mg H d v) (i : Nat) : ERep K mg H (σ.set i (Option.some v)) (δ.set i (Option.some d)) := by
  refine ⟨by rw [List.length_set, List.length_set]; exact h.1, fun j x e => ?_⟩
  by_cases c : i = j
  · subst c
    by_cases hi : i < δ.length
    · rw [List.getElem?_set_self hi] at e
      cases e
      exact ⟨v, List.getElem?_set_self (by rw [h.1]; exact hi), r⟩
    · rw [List.getElem?_eq_none (by rw [List.length_set]; omega)] at e; cases e
  · rw [List.getElem?_set_ne c] at e
    obtain ⟨u, h1, h2⟩ := h.2 j x e
    exact ⟨u, by rw [List.getElem?_set_ne c]; exact h1, h2⟩
end
/-- less is known of the slots -/
def LeL (δ δ' : Dl) : Prop := δ.length = δ'.length ∧ ∀ (i : Nat) d, δ[i]? = some (some d) → δ'[i]? = some (some d)
theorem LeL.refl (δ : Dl) : LeL δ δ := ⟨rfl, fun _ _ h => h⟩
theorem LeL.nil : LeL [] [] := LeL.refl _
theorem LeL.same {x : Option D} {δ δ' : Dl} (h : LeL δ δ') : LeL (x :: δ) (x :: δ') := by
  refine ⟨by rw [List.length_cons, List.length_cons, h.1], fun i d e => ?_⟩
  cases i with
  | zero => exact e
  | succ i => exact h.2 i d e
theorem LeL.drop {x : Option D} {δ δ' : Dl} (h : LeL δ δ') : LeL (none :: δ) (x :: δ') := by
  refine ⟨by rw [List.length_cons, List.length_cons, h.1], fun i d e => ?_⟩
  cases i with
  | zero => simp at e
  | succ i => exact h.2 i d e
theorem ERep.le {K : PySem.W.Frag} {mg : Str → Option Value} {H : Hp} {σ : St} {δ δ' : Dl} (h : ERep K mg H σ δ) (l : LeL δ' δ) : ERep K mg H σ δ' := ⟨h.1.trans l.1.symm, fun i d e => h.2 i d (l.2 i d e)⟩

/-! ### the freeze -/
theorem Inv.freeze {X : Cx} {pins : List (Addr × Obj)} {σ : St} {H : Hp} {s : Shared} {p : Addr} {xs : List V} (I : Inv X pins σ H s) (hp : H p = some (.lst xs)) : ∃ o, Inv X pins σ (upd H p (.frz o (.lst xs))) s := by
  obtain ⟨o, ho⟩ : ∃ o, s.heap.get? p = some o := by
    obtain ⟨_, _, _, _, e⟩ := I.hok p _ hp
    exact ⟨_, e⟩
  refine ⟨o, ⟨I.ok, I.os, I.bare, ⟨fun b u e n hb hx => I.base.keep b u e n hb hx, fun b u e n hb hx => I.base.slot b u e n hb hx, fun b u e n hx => ?_, I.base.there, fun b ys e => ?_, fun b u w e => ?_, fun b ps e => ?_⟩, I.loc, I.cell, ?_, fun x c e => ?_, fun q hq => ?_, fun b u e => ?_, I.len⟩⟩
  · have z := I.base.free b u e n hx
    rw [upd_ne (fun e => by subst e; rw [hp] at z; cases z)]; exact z
  · have z := I.base.tups b ys e
    rw [upd_ne (fun e => by subst e; rw [hp] at z; cases z)]; exact z
  · have z := I.base.frzs b u w e
    rw [upd_ne (fun e => by subst e; rw [hp] at z; cases z)]; exact z
  · obtain ⟨more, z⟩ := I.base.tbls b ps e
    exact ⟨more, by rw [upd_ne (fun e => by subst e; rw [hp] at z; cases z)]; exact z⟩
  · have z := I.free
    rw [upd_ne (fun e => by rw [← e, z] at hp; cases hp)]; exact z
  · have z := I.freeC x c e
    rw [upd_ne (fun e => by rw [← e, z] at hp; cases hp)]; exact z
  · obtain ⟨h1, h2, h3⟩ := I.pin q hq
    exact ⟨h1, by rw [upd_ne (fun e => by rw [← e, h2] at hp; cases hp)]; exact h2, h3⟩
  · have keep : ∀ c w, (upd H p (.frz o (.lst xs))) c = some w → c ≠ p → H c = some w := fun c w q n => by rw [upd_ne n] at q; exact q
    by_cases c : b = p
    · subst c
      rw [upd_same] at e; cases e
      refine ⟨ho, ?_⟩
      exact (I.hok b _ hp).stay (fun _ _ _ q => q) (fun c q => by rw [upd_ne (fun e => by rw [e, hp] at q; cases q)]; exact q) fun c ys q => by rw [upd_ne (fun e => by rw [e, hp] at q; cases q)]; exact q
    · rw [upd_ne c] at e
      exact (I.hok b u e).stay (fun _ _ _ q => q) (fun c q => by rw [upd_ne (fun e => by rw [e, hp] at q; cases q)]; exact q) fun c ys q => by rw [upd_ne (fun e => by rw [e, hp] at q; cases q)]; exact q
/-- the new list at v stands still from here on -/
def Frz (Q : VK) : VK := fun v H => ∃ p xs, v = .ref p ∧ H p = some (.lst xs) ∧ ∀ o, Q v (upd H p (.frz o (.lst xs)))
theorem ep_frz {X : Cx} {pins : List (Addr × Obj)} {σ : St} {Q : VK} {u : Value} {s : Shared} (h : EP X pins σ (Frz Q) u s) : EP X pins σ Q u s := by
  obtain ⟨v, H', I, r, p, xs, e, hp, q⟩ := h
  obtain ⟨o, I'⟩ := Inv.freeze I hp
  exact ⟨v, _, I', r, q o⟩
end L2.AP
set_option Elab.async false
set_option linter.all false
set_option maxRecDepth 100000
set_option maxHeartbeats 2000000
/-! AP2: expressions over deep values. -/
namespace L2.AP
open PySem PySem.Spec PyProof.Rows

abbrev DQ := D → AH → Prop
/-- what is wanted of an exception: its class, its own dict, the slots and the heap where it rises -/
abbrev DW := Value → Option Addr → Dl → AH → Prop
abbrev DTE := DW → Dl → AH → DQ → Prop
abbrev DTT := DW → Dl → AH → (Bool → AH → Prop) → Prop
abbrev DTA := DW → Dl → AH → (List D → AH → Prop) → Prop

section
variable (K : PySem.W.Frag) (mg : Str → Option Value)
def LQ (H : Hp) (P : DQ) (Q : VK) : Prop := ∀ d m', P d m' → ∀ v H', Ext H H' → Rep K mg H' d v → HRep K mg H' m' → Q v H'
def LB (H : Hp) (P : Bool → AH → Prop) (Q : Bool → Hp → Prop) : Prop := ∀ b m', P b m' → ∀ H', Ext H H' → HRep K mg H' m' → Q b H'
def LA (H : Hp) (P : List D → AH → Prop) (Q : List V → Hp → Prop) : Prop := ∀ ds m', P ds m' → ∀ vs H', Ext H H' → Reps K mg H' ds vs → HRep K mg H' m' → Q vs H'
def liftW (W : DW) (H0 : Hp) : WX := fun cls d σ H => Ext H0 H ∧ ∃ δ m, ERep K mg H σ δ ∧ HRep K mg H m ∧ W cls d δ m
def liftE (t : DTE) (W : DW) (H0 : Hp) : TE := fun σ H Q => Ext H0 H ∧ ∃ δ m P, ERep K mg H σ δ ∧ HRep K mg H m ∧ t W δ m P ∧ LQ K mg H P Q
def liftT (t : DTT) (W : DW) (H0 : Hp) : TT := fun σ H Q => Ext H0 H ∧ ∃ δ m P, ERep K mg H σ δ ∧ HRep K mg H m ∧ t W δ m P ∧ LB K mg H P Q
def liftA (t : DTA) (W : DW) (H0 : Hp) : TA := fun σ H Q => Ext H0 H ∧ ∃ δ m P, ERep K mg H σ δ ∧ HRep K mg H m ∧ t W δ m P ∧ LA K mg H P Q
/-- an operation on two values -/
def lift2 (r : D → D → AH → DQ → Prop) : R2 := fun x y H Q => ∃ d e m P, Rep K mg H d x ∧ Rep K mg H e y ∧ HRep K mg H m ∧ r d e m P ∧ LQ K mg H P Q
def lift1 (r : D → AH → DQ → Prop) : V → Hp → VK → Prop := fun x H Q => ∃ d m P, Rep K mg H d x ∧ HRep K mg H m ∧ r d m P ∧ LQ K mg H P Q
/-- a call by values -/
def liftC (r : List D → AH → DQ → Prop) : List V → Hp → VK → Prop := fun xs H Q => ∃ ds m P, Reps K mg H ds xs ∧ HRep K mg H m ∧ r ds m P ∧ LQ K mg H P Q
def liftM (r : D → List D → AH → DQ → Prop) : V → List V → Hp → VK → Prop := fun x xs H Q => ∃ d ds m P, Rep K mg H d x ∧ Reps K mg H ds xs ∧ HRep K mg H m ∧ r d ds m P ∧ LQ K mg H P Q
end
structure DE (X : Cx) (e : Expr) (t : DTE) : Prop where
  run : ∀ W H0, Takes X (liftW X.K X.mg W H0) → PE X e (liftE X.K X.mg t W H0)
structure DT (X : Cx) (e : Expr) (t : DTT) : Prop where
  run : ∀ W H0, Takes X (liftW X.K X.mg W H0) → PT X e (liftT X.K X.mg t W H0)
structure DWt (X : Cx) (e : Expr) (t : DTT) : Prop where
  run : ∀ W H0, Takes X (liftW X.K X.mg W H0) → PW X e (liftT X.K X.mg t W H0)
structure DA (X : Cx) (es : List Expr) (t : DTA) : Prop where
  run : ∀ W H0, Takes X (liftW X.K X.mg W H0) → PA X es (liftA X.K X.mg t W H0)
abbrev DOp (X : Cx) (f : Value → Value → Sem Value) (r : D → D → AH → DQ → Prop) : Prop := OpR X f (lift2 X.K X.mg r)
abbrev DUn (X : Cx) (f : Value → Sem Value) (r : D → AH → DQ → Prop) : Prop := UnR X f (lift1 X.K X.mg r)
abbrev DCallR (X : Cx) (f : Value) (r : List D → AH → DQ → Prop) : Prop := CallR X f (liftC X.K X.mg r)
abbrev DMtR (X : Cx) (id : String) (r : D → List D → AH → DQ → Prop) : Prop := MtR X id (liftM X.K X.mg r)

theorem PE.imp {X : Cx} {e : Expr} {t t' : TE} (h : PE X e t) (i : ∀ σ H Q, t' σ H Q → t σ H Q) : PE X e t' := ⟨fun pins s σ H Q I q => h.run pins s σ H Q I (i σ H Q q)⟩
theorem PT.imp {X : Cx} {e : Expr} {t t' : TT} (h : PT X e t) (i : ∀ σ H Q, t' σ H Q → t σ H Q) : PT X e t' := ⟨fun pins s σ H Q I q => h.run pins s σ H Q I (i σ H Q q)⟩
theorem PW.imp {X : Cx} {e : Expr} {t t' : TT} (h : PW X e t) (i : ∀ σ H Q, t' σ H Q → t σ H Q) : PW X e t' := ⟨fun wh pins s σ H Q I q => h.run wh pins s σ H Q I (i σ H Q q)⟩
theorem PA.imp {X : Cx} {e : List Expr} {t t' : TA} (h : PA X e t) (i : ∀ σ H Q, t' σ H Q → t σ H Q) : PA X e t' := ⟨fun p pins s σ H Q I q => h.run p pins s σ H Q I (i σ H Q q)⟩
theorem OpR.imp {X : Cx} {f : Value → Value → Sem Value} {r r' : R2} (h : OpR X f r) (i : ∀ x y H Q, r' x y H Q → r x y H Q) : OpR X f r' := fun pins s σ H x y v u Q I rx ry q => h pins s σ H x y v u Q I rx ry (i _ _ _ _ q)
theorem OpR.or {X : Cx} {f : Value → Value → Sem Value} {r r' : R2} (h : OpR X f r) (h' : OpR X f r') : OpR X f (fun x y H Q => r x y H Q ∨ r' x y H Q) := fun pins s σ H x y v u Q I rx ry q => by
  rcases q with q | q
  · exact h pins s σ H x y v u Q I rx ry q
  · exact h' pins s σ H x y v u Q I rx ry q
/-- .. whose new list stands still -/
theorem OpR.frz {X : Cx} {f : Value → Value → Sem Value} {r : R2} (h : OpR X f r) : OpR X f (fun x y H Q => r x y H (Frz Q)) := fun pins s σ H x y v u Q I rx ry q =>
  thn (h pins s σ H x y v u _ I rx ry q) fun _ _ z => ep_frz z
theorem PE.frz {X : Cx} {e : Expr} {t : TE} (h : PE X e t) : PE X e (fun σ H Q => t σ H (Frz Q)) := ⟨fun pins s σ H Q I q => thn (h.run pins s σ H _ I q) fun _ _ z => ep_frz z⟩
theorem CallR.frz {X : Cx} {f : Value} {r : List V → Hp → VK → Prop} (h : CallR X f r) : CallR X f (fun x H Q => r x H (Frz Q)) := fun pins s σ H x v Q I rx q =>
  thn (h pins s σ H x v _ I rx q) fun _ _ z => ep_frz z
theorem CallR.imp {X : Cx} {f : Value} {r r' : List V → Hp → VK → Prop} (h : CallR X f r) (i : ∀ x H Q, r' x H Q → r x H Q) : CallR X f r' := fun pins s σ H x v Q I rx q => h pins s σ H x v Q I rx (i _ _ _ q)
theorem CallR.or {X : Cx} {f : Value} {r r' : List V → Hp → VK → Prop} (h : CallR X f r) (h' : CallR X f r') : CallR X f (fun x H Q => r x H Q ∨ r' x H Q) := fun pins s σ H x v Q I rx q => by
  rcases q with q | q
  · exact h pins s σ H x v Q I rx q
  · exact h' pins s σ H x v Q I rx q
theorem MtR.imp {X : Cx} {id : String} {r r' : V → List V → Hp → VK → Prop} (h : MtR X id r) (i : ∀ x xs H Q, r' x xs H Q → r x xs H Q) : MtR X id r' := fun pins s σ H x xs v us Q I rx r q => h pins s σ H x xs v us Q I rx r (i _ _ _ _ q)

section
variable {K : PySem.W.Frag} {mg : Str → Option Value} {H H1 : Hp} {P : DQ} {Q : VK} {m : AH}
theorem LQ.ext (e : Ext H H1) (q : LQ K mg H P Q) : LQ K mg H1 P Q := fun d m' p v H' x r h => q d m' p v H' (e.trans x) r h
theorem LB.ext {P : Bool → AH → Prop} {Q : Bool → Hp → Prop} (e : Ext H H1) (q : LB K mg H P Q) : LB K mg H1 P Q := fun d m' p H' x h => q d m' p H' (e.trans x) h
theorem LA.ext {P : List D → AH → Prop} {Q : List V → Hp → Prop} (e : Ext H H1) (q : LA K mg H P Q) : LA K mg H1 P Q := fun d m' p v H' x r h => q d m' p v H' (e.trans x) r h
/-- the answer is here -/
theorem LQ.here (q : LQ K mg H P Q) (h : HRep K mg H m) {d : D} {v : V} (p : P d m) (r : Rep K mg H d v) : Q v H := q d m p v H (Ext.refl H) r h
/-- the answer is a new tuple -/
theorem LQ.tup (q : LQ K mg H P Q) (h : HRep K mg H m) {ds : List D} {vs : List V} (p : P (.tup ds) m) (r : Reps K mg H ds vs) : ∀ a, H a = none → Q (.ref a) (upd H a (.tup vs)) := fun a ha =>
  q _ m p _ _ (Ext.new ha) ⟨a, vs, rfl, SqT.of upd_same, r.ext (Ext.new ha)⟩ (h.new ha)
/-- the answer is a new list that changes -/
theorem LQ.lst (q : LQ K mg H P Q) (h : HRep K mg H m) {ds : List D} {vs : List V} (p : ∀ a, m a = none → P (.ref a) (put m a (.lst ds))) (r : Reps K mg H ds vs) : ∀ a, H a = none → Q (.ref a) (upd H a (.lst vs)) := fun a ha =>
  q _ _ (p a (h.none ha)) _ _ (Ext.new ha) rfl (h.lay ha ⟨vs, upd_same, r.ext (Ext.new ha)⟩)
/-- the answer is a new list that stands still -/
theorem LQ.frz (q : LQ K mg H P Q) (h : HRep K mg H m) {ds : List D} {vs : List V} (p : P (.lst ds) m) (r : Reps K mg H ds vs) : ∀ a, H a = none → Frz Q (.ref a) (upd H a (.lst vs)) := fun a ha =>
  ⟨a, vs, rfl, upd_same, fun o => by
    rw [upd_upd]
    exact q _ m p _ _ (Ext.new ha) ⟨a, vs, rfl, ⟨o, upd_same⟩, r.ext (Ext.new ha)⟩ (h.new ha)⟩
end

/-! ### names and constants -/
section
variable {X : Cx} {a b c e : Expr} {ta tb tc te : DTE} {pos : Pos}
def dVar (i : Nat) : DTE := fun _ δ m Q => ∃ d, δ[i]? = some (some d) ∧ Q d m
theorem de_var {i : Nat} {x : Str} (hN : X.N[i]? = some x) (hv : Vis X.env.scope x) (hd : (x == ("__debug__" : Str)) = false) (hcd : (x == ("__classdict__" : Str)) = false) : DE X (.Name x pos) (dVar i) :=
  ⟨fun W H0 tk => PE.imp (pe_var hN hv hd hcd) fun σ H Q ⟨x0, δ, m, P, e, h, ⟨d, hd, p⟩, q⟩ => by
    obtain ⟨v, e1, r⟩ := e.2 i d hd
    exact ⟨v, e1, q.here h p r⟩⟩
def dC (d : D) : DTE := fun _ _ m Q => Q d m
theorem de_C {d : D} {v : V} (h : PE X e (tC v)) (r : ∀ H, Rep X.K X.mg H d v) : DE X e (dC d) :=
  ⟨fun W H0 tk => PE.imp h fun σ H Q ⟨x0, δ, m, P, _, h, p, q⟩ => q.here h p (r H)⟩
theorem de_int {i j} : DE X (.Constant (.int i) j pos) (dC (.int i)) := de_C pe_int fun _ => rfl
theorem de_bl {i j} : DE X (.Constant (.bool i) j pos) (dC (.bl i)) := de_C pe_bl fun _ => rfl
theorem de_non {j} : DE X (.Constant .none j pos) (dC .non) := de_C pe_non fun _ => rfl
theorem de_str {i j} : DE X (.Constant (.str i) j pos) (dC (.str i)) := de_C pe_str fun _ => rfl

/-! ### two places, one place -/
def dOp (r : D → D → AH → DQ → Prop) (ta tb : DTE) : DTE := fun W δ m Q => ta W δ m fun d m1 => tb W δ m1 fun e m2 => r d e m2 Q
def dUn (r : D → AH → DQ → Prop) (ta : DTE) : DTE := fun W δ m Q => ta W δ m fun d m1 => r d m1 Q
section
variable {K : PySem.W.Frag} {mg : Str → Option Value}
theorem lift_op {r : D → D → AH → DQ → Prop} {W : DW} {H0 : Hp} {σ : St} {H : Hp} {Q : VK} (h : liftE K mg (dOp r ta tb) W H0 σ H Q) : tOp (lift2 K mg r) (liftE K mg ta W H0) (liftE K mg tb W H0) σ H Q := by
  obtain ⟨x0, δ, m, P, e, h, t, q⟩ := h
  exact ⟨x0, δ, m, _, e, h, t, fun d1 m1 t2 v1 H1 x1 r1 h1 => ⟨x0.trans x1, δ, m1, _, e.ext x1, h1, t2, fun d2 m2 t3 v2 H2 x2 r2 h2 => ⟨d1, d2, m2, P, r1.ext x2, r2, h2, t3, q.ext (x1.trans x2)⟩⟩⟩
end
theorem de_op {op : Operator} {r : D → D → AH → DQ → Prop} (ho : DOp X (binaryOp op) r) (ha : DE X a ta) (hb : DE X b tb) : DE X (.BinOp a op b pos) (dOp r ta tb) :=
  ⟨fun W H0 tk => PE.imp (pe_op ho (ha.run W H0 tk) (hb.run W H0 tk)) fun _ _ _ h => lift_op h⟩
theorem de_cmp {op : CmpOp} {r : D → D → AH → DQ → Prop} (ho : DOp X (compareOp op) r) (ha : DE X a ta) (hb : DE X b tb) (hm : behindInMarks op b = false) : DE X (.Compare a [op] [b] pos) (dOp r ta tb) :=
  ⟨fun W H0 tk => PE.imp (pe_cmpR ho (ha.run W H0 tk) (hb.run W H0 tk) hm) fun _ _ _ h => lift_op h⟩
/-- a value that is a bool, as a test -/
def dTest (t : DTE) : DTT := fun W δ m Q => t W δ m fun d m' => ∃ b, d = .bl b ∧ Q b m'
theorem dt_cmp {op : CmpOp} {r : D → D → AH → DQ → Prop} (ho : DOp X (compareOp op) r) (ha : DE X a ta) (hb : DE X b tb) (hm : behindInMarks op b = false) : DT X (.Compare a [op] [b] pos) (dTest (dOp r ta tb)) :=
  ⟨fun W H0 tk => PT.imp (pt_cmpR ho (ha.run W H0 tk) (hb.run W H0 tk) hm) fun σ H Q ⟨x0, δ, m, P, e, h, t, q⟩ =>
    lift_op ⟨x0, δ, m, _, e, h, t, fun d m' ⟨b, e1, p⟩ v H' x r h' => by subst e1; exact ⟨b, r, q b m' p H' x h'⟩⟩⟩
theorem de_un {op : UnaryOp} {r : D → AH → DQ → Prop} (ho : DUn X (unaryOp op) r) (ha : DE X a ta) : DE X (.UnaryOp op a pos) (dUn r ta) :=
  ⟨fun W H0 tk => PE.imp (pe_un ho (ha.run W H0 tk)) fun σ H Q ⟨x0, δ, m, P, e, h, t, q⟩ => ⟨x0, δ, m, _, e, h, t, fun d1 m1 t2 v1 H1 x1 r1 h1 => ⟨d1, m1, P, r1, h1, t2, q.ext x1⟩⟩⟩
/-- a < b < c -/
def dChain (r r' : D → D → AH → DQ → Prop) (ta tb tc : DTE) : DTE := fun W δ m Q => ta W δ m fun x m1 => tb W δ m1 fun y m2 => r x y m2 fun z m3 => ∃ k, z = .bl k ∧ if k = true then tc W δ m3 fun w m4 => r' y w m4 Q else Q (.bl false) m3
theorem de_chain {op op' : CmpOp} {r r' : D → D → AH → DQ → Prop} (ho : DOp X (compareOp op) r) (ho' : DOp X (compareOp op') r') (ha : DE X a ta) (hb : DE X b tb) (hc : DE X c tc) (hm : lastMarks [op, op'] [b, c] = false) :
    DE X (.Compare a [op, op'] [b, c] pos) (dChain r r' ta tb tc) :=
  ⟨fun W H0 tk => PE.imp (pe_chain ho ho' (ha.run W H0 tk) (hb.run W H0 tk) (hc.run W H0 tk) hm) fun σ H Q ⟨x0, δ, m, P, e, h, t, q⟩ =>
    ⟨x0, δ, m, _, e, h, t, fun d1 m1 t2 v1 H1 x1 r1 h1 => ⟨x0.trans x1, δ, m1, _, e.ext x1, h1, t2, fun d2 m2 t3 v2 H2 x2 r2 h2 => ⟨d1, d2, m2, _, r1.ext x2, r2, h2, t3, fun d3 m3 ⟨k, ek, t4⟩ v3 H3 x3 r3 h3 => by
      subst ek
      refine ⟨k, r3, ?_⟩
      cases k with
      | false => rw [if_neg Bool.false_ne_true] at t4 ⊢; exact q _ _ t4 _ H3 ((x1.trans x2).trans x3) rfl h3
      | true =>
        rw [if_pos rfl] at t4 ⊢
        exact ⟨x0.trans ((x1.trans x2).trans x3), δ, m3, _, e.ext ((x1.trans x2).trans x3), h3, t4, fun d4 m4 t5 v4 H4 x4 r4 h4 => ⟨d2, d4, m4, P, r2.ext (x3.trans x4), r4, h4, t5, q.ext (((x1.trans x2).trans x3).trans x4)⟩⟩⟩⟩⟩⟩
theorem dt_chain {op op' : CmpOp} {r r' : D → D → AH → DQ → Prop} (ho : DOp X (compareOp op) r) (ho' : DOp X (compareOp op') r') (ha : DE X a ta) (hb : DE X b tb) (hc : DE X c tc) (hm : lastMarks [op, op'] [b, c] = false) :
    DT X (.Compare a [op, op'] [b, c] pos) (dTest (dChain r r' ta tb tc)) :=
  ⟨fun W H0 tk => PT.imp (pt_chain ho ho' (ha.run W H0 tk) (hb.run W H0 tk) (hc.run W H0 tk) hm) fun σ H Q ⟨x0, δ, m, P, e, h, t, q⟩ =>
    ⟨x0, δ, m, _, e, h, t, fun d1 m1 t2 v1 H1 x1 r1 h1 => ⟨x0.trans x1, δ, m1, _, e.ext x1, h1, t2, fun d2 m2 t3 v2 H2 x2 r2 h2 => ⟨d1, d2, m2, _, r1.ext x2, r2, h2, t3, fun d3 m3 ⟨k, ek, t4⟩ v3 H3 x3 r3 h3 => by
      subst ek
      refine ⟨k, r3, ?_⟩
      have fin : ∀ d m' v H', (∃ b, d = .bl b ∧ P b m') → Ext H H' → Rep X.K X.mg H' d v → HRep X.K X.mg H' m' → ∃ k, v = .bl k ∧ Q k H' := fun d m' v H' ⟨b, e1, p⟩ x r h' => by subst e1; exact ⟨b, r, q b m' p H' x h'⟩
      cases k with
      | false => rw [if_neg Bool.false_ne_true] at t4 ⊢; exact fin _ _ _ H3 t4 ((x1.trans x2).trans x3) rfl h3
      | true =>
        rw [if_pos rfl] at t4 ⊢
        exact ⟨x0.trans ((x1.trans x2).trans x3), δ, m3, _, e.ext ((x1.trans x2).trans x3), h3, t4, fun d4 m4 t5 v4 H4 x4 r4 h4 => ⟨d2, d4, m4, _, r2.ext (x3.trans x4), r4, h4, t5, fun d m' p v H' x r h' => fin d m' v H' p ((((x1.trans x2).trans x3).trans x4).trans x) r h'⟩⟩⟩⟩⟩⟩

/-! ### and, or, not, if -/
def dAndT (t u : DTT) : DTT := fun W δ m Q => t W δ m fun k m1 => if k = true then u W δ m1 Q else Q false m1
def dOrT (t u : DTT) : DTT := fun W δ m Q => t W δ m fun k m1 => if k = true then Q true m1 else u W δ m1 Q
def dNotT (t : DTT) : DTT := fun W δ m Q => t W δ m fun k m1 => Q (!k) m1
variable {tA tB : DTT} {rest : List Expr}
theorem DWt.dt (h : DWt X e tA) : DT X e tA := ⟨fun W H0 tk => (h.run W H0 tk).pt⟩
theorem dw_and1 (ha : DT X a tA) : DWt X (.BoolOp .And [a] pos) tA := ⟨fun W H0 tk => pw_and1 (ha.run W H0 tk)⟩
theorem dw_or1 (ha : DT X a tA) : DWt X (.BoolOp .Or [a] pos) tA := ⟨fun W H0 tk => pw_or1 (ha.run W H0 tk)⟩
theorem dw_and (ha : DT X a tA) (hb : DWt X (.BoolOp .And (b :: rest) pos) tB) : DWt X (.BoolOp .And (a :: b :: rest) pos) (dAndT tA tB) :=
  ⟨fun W H0 tk => PW.imp (pw_and (ha.run W H0 tk) (hb.run W H0 tk)) fun σ H Q ⟨x0, δ, m, P, e, h, t, q⟩ => ⟨x0, δ, m, _, e, h, t, fun k m1 t2 H1 x1 h1 => by
    cases k with
    | true => rw [if_pos rfl] at t2 ⊢; exact ⟨x0.trans x1, δ, m1, P, e.ext x1, h1, t2, q.ext x1⟩
    | false => rw [if_neg Bool.false_ne_true] at t2 ⊢; exact q _ _ t2 H1 x1 h1⟩⟩
theorem dw_or (ha : DT X a tA) (hb : DWt X (.BoolOp .Or (b :: rest) pos) tB) : DWt X (.BoolOp .Or (a :: b :: rest) pos) (dOrT tA tB) :=
  ⟨fun W H0 tk => PW.imp (pw_or (ha.run W H0 tk) (hb.run W H0 tk)) fun σ H Q ⟨x0, δ, m, P, e, h, t, q⟩ => ⟨x0, δ, m, _, e, h, t, fun k m1 t2 H1 x1 h1 => by
    cases k with
    | true => rw [if_pos rfl] at t2 ⊢; exact q _ _ t2 H1 x1 h1
    | false => rw [if_neg Bool.false_ne_true] at t2 ⊢; exact ⟨x0.trans x1, δ, m1, P, e.ext x1, h1, t2, q.ext x1⟩⟩⟩
theorem dt_not (ha : DT X a tA) : DT X (.UnaryOp .Not a pos) (dNotT tA) :=
  ⟨fun W H0 tk => PT.imp (pt_not (ha.run W H0 tk)) fun σ H Q ⟨x0, δ, m, P, e, h, t, q⟩ => ⟨x0, δ, m, _, e, h, t, fun k m1 t2 H1 x1 h1 => q _ _ t2 H1 x1 h1⟩⟩
/-- as values: all are bools -/
def dAnd (ta tb : DTE) : DTE := fun W δ m Q => ta W δ m fun d m1 => ∃ k, d = .bl k ∧ if k = true then tb W δ m1 Q else Q (.bl false) m1
def dOr (ta tb : DTE) : DTE := fun W δ m Q => ta W δ m fun d m1 => ∃ k, d = .bl k ∧ if k = true then Q (.bl true) m1 else tb W δ m1 Q
def dNot (ta : DTE) : DTE := fun W δ m Q => ta W δ m fun d m1 => ∃ k, d = .bl k ∧ Q (.bl (!k)) m1
theorem de_one {op} (ha : DE X a ta) : DE X (.BoolOp op [a] pos) ta := ⟨fun W H0 tk => pe_one (ha.run W H0 tk)⟩
theorem de_and (ha : DE X a ta) (hb : DE X (.BoolOp .And (b :: rest) pos) tb) : DE X (.BoolOp .And (a :: b :: rest) pos) (dAnd ta tb) :=
  ⟨fun W H0 tk => PE.imp (pe_and (ha.run W H0 tk) (hb.run W H0 tk)) fun σ H Q ⟨x0, δ, m, P, e, h, t, q⟩ => ⟨x0, δ, m, _, e, h, t, fun d m1 ⟨k, ek, t2⟩ v1 H1 x1 r1 h1 => by
    subst ek
    refine ⟨k, r1, ?_⟩
    cases k with
    | true => rw [if_pos rfl] at t2 ⊢; exact ⟨x0.trans x1, δ, m1, P, e.ext x1, h1, t2, q.ext x1⟩
    | false => rw [if_neg Bool.false_ne_true] at t2 ⊢; exact q _ _ t2 _ H1 x1 rfl h1⟩⟩
theorem de_or (ha : DE X a ta) (hb : DE X (.BoolOp .Or (b :: rest) pos) tb) : DE X (.BoolOp .Or (a :: b :: rest) pos) (dOr ta tb) :=
  ⟨fun W H0 tk => PE.imp (pe_or (ha.run W H0 tk) (hb.run W H0 tk)) fun σ H Q ⟨x0, δ, m, P, e, h, t, q⟩ => ⟨x0, δ, m, _, e, h, t, fun d m1 ⟨k, ek, t2⟩ v1 H1 x1 r1 h1 => by
    subst ek
    refine ⟨k, r1, ?_⟩
    cases k with
    | true => rw [if_pos rfl] at t2 ⊢; exact q _ _ t2 _ H1 x1 rfl h1
    | false => rw [if_neg Bool.false_ne_true] at t2 ⊢; exact ⟨x0.trans x1, δ, m1, P, e.ext x1, h1, t2, q.ext x1⟩⟩⟩
theorem de_not (ha : DE X a ta) : DE X (.UnaryOp .Not a pos) (dNot ta) :=
  ⟨fun W H0 tk => PE.imp (pe_not (ha.run W H0 tk)) fun σ H Q ⟨x0, δ, m, P, e, h, t, q⟩ => ⟨x0, δ, m, _, e, h, t, fun d m1 ⟨k, ek, t2⟩ v1 H1 x1 r1 h1 => by
    subst ek
    exact ⟨k, r1, q _ _ t2 _ H1 x1 rfl h1⟩⟩⟩
def dIf (t : DTT) (ta tb : DTE) : DTE := fun W δ m Q => t W δ m fun k m1 => if k = true then ta W δ m1 Q else tb W δ m1 Q
theorem de_if (hc : DT X c tA) (ha : DE X a ta) (hb : DE X b tb) : DE X (.IfExp c a b pos) (dIf tA ta tb) :=
  ⟨fun W H0 tk => PE.imp (pe_ifExp (hc.run W H0 tk) (ha.run W H0 tk) (hb.run W H0 tk)) fun σ H Q ⟨x0, δ, m, P, e, h, t, q⟩ => ⟨x0, δ, m, _, e, h, t, fun k m1 t2 H1 x1 h1 => by
    cases k with
    | true => rw [if_pos rfl] at t2 ⊢; exact ⟨x0.trans x1, δ, m1, P, e.ext x1, h1, t2, q.ext x1⟩
    | false => rw [if_neg Bool.false_ne_true] at t2 ⊢; exact ⟨x0.trans x1, δ, m1, P, e.ext x1, h1, t2, q.ext x1⟩⟩⟩
/-- what a value's truth is -/
def truth (m : AH) : D → Option Bool
  | .non => some false
  | .bl b => some b
  | .int i => some (i != 0)
  | .tup xs => some (!xs.isEmpty)
  | .lst xs => some (!xs.isEmpty)
  | .ref a => match m a with
    | some (.lst xs) => some (!xs.isEmpty)
    | _ => none
  | _ => none
def dTruth (t : DTE) : DTT := fun W δ m Q => t W δ m fun d m' => (∃ k, truth m' d = some k ∧ Q k m') ∨ ∃ x, d = .str x ∧ x.length ≤ sizeLine ∧ Q ((x.length : Int) != 0) m'
theorem tru_lift {K : PySem.W.Frag} {mg : Str → Option Value} {H : Hp} {m : AH} {d : D} {v : V} {k : Bool} (h : HRep K mg H m) (r : Rep K mg H d v) (e : truth m d = some k) : TruV K v H k := by
  have emp : ∀ {xs : List D} {vs : List V}, Reps K mg H xs vs → (!vs.isEmpty) = !xs.isEmpty := fun {xs vs} q => by
    have := q.len
    cases vs <;> cases xs <;> simp_all
  cases d with
  | non => cases r; cases e; rfl
  | bl b => cases r; cases e; rfl
  | int i => cases r; cases e; rfl
  | str x => cases e
  | ty x => cases e
  | fn x => cases e
  | rdl x => cases e
  | tup xs =>
    obtain ⟨a, vs, rfl, h1, h2⟩ := r
    cases e
    exact .inr (.inl ⟨vs, h1, (emp h2).symm⟩)
  | lst xs =>
    obtain ⟨a, vs, rfl, h1, h2⟩ := r
    cases e
    exact .inl ⟨vs, h1.sql, (emp h2).symm⟩
  | ref a =>
    cases r
    replace e : (match m a with | some (.lst xs) => some (!xs.isEmpty) | _ => none) = some k := e
    cases q : m a with
    | none => rw [q] at e; cases e
    | some o =>
      rw [q] at e
      cases o with
      | lst xs =>
        cases e
        obtain ⟨vs, h1, h2⟩ := h a _ q
        exact .inl ⟨vs, SqL.of h1, (emp h2).symm⟩
      | _ => cases e
theorem dt_truth (ha : DE X a ta) (he : ∀ whole, isTrue a X.env whole = (do let v ← whole; standAt a.pos; holding [v] (truthy v))) : DT X a (dTruth ta) :=
  ⟨fun W H0 tk => PT.imp (pt_truth (ha.run W H0 tk) he) fun σ H Q ⟨x0, δ, m, P, e, h, t, q⟩ => ⟨x0, δ, m, _, e, h, t, fun d m1 t2 v1 H1 x1 r1 h1 => by
    rcases t2 with ⟨k, ek, p⟩ | ⟨x, rfl, hx, p⟩
    · exact ⟨k, tru_lift h1 r1 ek, q _ _ p H1 x1 h1⟩
    · cases r1
      exact ⟨_, ⟨hx, rfl⟩, q _ _ p H1 x1 h1⟩⟩⟩
theorem dt_val (ha : DE X a ta) (he : ∀ whole, isTrue a X.env whole = (do let v ← whole; standAt a.pos; holding [v] (truthy v))) : DT X a (dTest ta) :=
  ⟨fun W H0 tk => PT.imp (pt_val (ha.run W H0 tk) he) fun σ H Q ⟨x0, δ, m, P, e, h, t, q⟩ => ⟨x0, δ, m, _, e, h, t, fun d m1 ⟨k, ek, p⟩ v1 H1 x1 r1 h1 => by
    subst ek
    exact ⟨k, r1, q _ _ p H1 x1 h1⟩⟩⟩

/-! ### displays -/
def dNil : DTA := fun _ _ m Q => Q [] m
def dCons (ta : DTE) (tr : DTA) : DTA := fun W δ m Q => ta W δ m fun d m1 => tr W δ m1 fun ds m2 => Q (d :: ds) m2
variable {es : List Expr} {tr : DTA}
theorem da_nil : DA X [] dNil := ⟨fun W H0 tk => PA.imp pa_nil fun σ H Q ⟨x0, δ, m, P, e, h, t, q⟩ => q _ _ t _ H (Ext.refl H) rfl h⟩
theorem da_cons (ha : DE X a ta) (hr : DA X es tr) (hs : starEach (a :: es) X.env = (false, eval a X.env) :: starEach es X.env) : DA X (a :: es) (dCons ta tr) :=
  ⟨fun W H0 tk => PA.imp (pa_cons (ha.run W H0 tk) (hr.run W H0 tk) hs) fun σ H Q ⟨x0, δ, m, P, e, h, t, q⟩ => ⟨x0, δ, m, _, e, h, t, fun d1 m1 t2 v1 H1 x1 r1 h1 => ⟨x0.trans x1, δ, m1, _, e.ext x1, h1, t2, fun ds m2 t3 vs H2 x2 r2 h2 =>
    q _ _ t3 _ H2 (x1.trans x2) ⟨v1, vs, rfl, r1.ext x2, r2⟩ h2⟩⟩⟩
def dTup (tr : DTA) : DTE := fun W δ m Q => tr W δ m fun ds m1 => ds.length ≤ sizeLine ∧ Q (.tup ds) m1
theorem de_tup {x1} (hr : DA X es tr) : DE X (.Tuple es x1 pos) (dTup tr) :=
  ⟨fun W H0 tk => PE.imp (pe_tup (hr.run W H0 tk)) fun σ H Q ⟨x0, δ, m, P, e, h, t, q⟩ => ⟨x0, δ, m, _, e, h, t, fun ds m1 ⟨hl, t2⟩ vs H1 x1 r1 h1 => ⟨by rw [r1.len]; exact hl, (q.ext x1).tup h1 t2 r1⟩⟩⟩
/-- a list that will change (true), or not -/
def dLst (mu : Bool) (tr : DTA) : DTE := fun W δ m Q => tr W δ m fun ds m1 => ds.length ≤ sizeLine ∧ if mu = true then ∀ p, m1 p = none → Q (.ref p) (put m1 p (.lst ds)) else Q (.lst ds) m1
theorem de_lst (mu : Bool) (hr : DA X es tr) : DE X (.List es pos) (dLst mu tr) :=
  ⟨fun W H0 tk => by
    cases mu with
    | true =>
      exact PE.imp (pe_lst (hr.run W H0 tk)) fun σ H Q ⟨x0, δ, m, P, e, h, t, q⟩ => ⟨x0, δ, m, _, e, h, t, fun ds m1 ⟨hl, t2⟩ vs H1 x1 r1 h1 => ⟨by rw [r1.len]; exact hl, by rw [if_pos rfl] at t2; exact (q.ext x1).lst h1 t2 r1⟩⟩
    | false =>
      exact PE.imp (PE.frz (pe_lst (hr.run W H0 tk))) fun σ H Q ⟨x0, δ, m, P, e, h, t, q⟩ => ⟨x0, δ, m, _, e, h, t, fun ds m1 ⟨hl, t2⟩ vs H1 x1 r1 h1 => ⟨by rw [r1.len]; exact hl, by rw [if_neg Bool.false_ne_true] at t2; exact (q.ext x1).frz h1 t2 r1⟩⟩⟩
end
end L2.AP
set_option Elab.async false
set_option linter.all false
set_option maxRecDepth 100000
set_option maxHeartbeats 4000000
/-! AP2m: a tuple times 1, 0 or less; times anything if it is empty. -/
namespace L2.AP
open PySem PySem.Spec PyProof.Rows
theorem tup_mul_same (l : Addr) (its : Array Value) (n : Nat) (dd : Option Addr) (sl : Array (Option Value)) (x : Int) (u : Tok) (c0 : (decide (x < -(2 ^ 63)) || decide (x ≥ 2 ^ 63)) = false) (c1 : (its.isEmpty || x == 1) = true) :
    Meets (Builtin.«tuple.__mul__» ⟨[.ref l, .int x u], []⟩) (fun _ R s => s.heap.get? l = some { cls := .type "tuple", dict := dd, data := .seq its n, slots := sl } ∧ R (.ok (.ret (Value.ref l))) s) :=
  .of_wp fun prog w A R s h => by
    obtain ⟨hp, g, d, tk, os⟩ := s
    obtain ⟨hl, h⟩ := h
    have f1 := AutoSeq1.idx_int
    wp_walk using wpAny_loadPart' hl
    repeat (first
      | (refine wpAny_ite_false (decide_eq_false (by rw [c0]; exact Bool.false_ne_true)) ?_; wp_walk using wpAny_loadPart' hl)
      | (refine wpAny_ite_true (decide_eq_true c1) ?_; wp_walk using wpAny_loadPart' hl))
    exact ⟨_, rfl, h⟩
theorem tup_mul_none (l : Addr) (its : Array Value) (n : Nat) (dd : Option Addr) (sl : Array (Option Value)) (x : Int) (u : Tok) (c0 : (decide (x < -(2 ^ 63)) || decide (x ≥ 2 ^ 63)) = false) (c1 : (its.isEmpty || x == 1) = false) (c2 : (decide (x ≤ 0) || its.isEmpty) = true) :
    Meets (Builtin.«tuple.__mul__» ⟨[.ref l, .int x u], []⟩) (fun _ R s => s.heap.get? l = some { cls := .type "tuple", dict := dd, data := .seq its n, slots := sl } ∧
      R (.ok (.ret (Value.ref s.heap.objs.size))) { s with heap := s.heap.push { cls := Value.type "tuple", data := Data.seq #[] }, toks := s.toks }) :=
  .of_wp fun prog w A R s h => by
    obtain ⟨hp, g, d, tk, os⟩ := s
    obtain ⟨hl, h⟩ := h
    have f1 := AutoSeq1.idx_int
    wp_walk using wpAny_loadPart' hl
    repeat (first
      | (refine wpAny_ite_false (decide_eq_false (by rw [c0]; exact Bool.false_ne_true)) ?_; wp_walk using wpAny_loadPart' hl)
      | (refine wpAny_ite_false (decide_eq_false (by rw [c1]; exact Bool.false_ne_true)) ?_; wp_walk using wpAny_loadPart' hl)
      | (refine wpAny_ite_true (decide_eq_true c2) ?_; wp_walk using wpAny_loadPart' hl))
    exact ⟨_, rfl, h⟩
def rRep1 (K : PySem.W.Frag) : R2 := fun x y H Q => ∃ l k xs, x = .ref l ∧ y = .int k ∧ SqT K H l xs ∧ -1000 ≤ k ∧ k ≤ 1000 ∧ (xs = [] ∨ k = 1) ∧ Q (.ref l) H
def rRep0 (K : PySem.W.Frag) : R2 := fun x y H Q => ∃ l k xs, x = .ref l ∧ y = .int k ∧ SqT K H l xs ∧ -1000 ≤ k ∧ k ≤ 0 ∧ xs ≠ [] ∧ ∀ p, H p = none → Q (.ref p) (upd H p (.tup []))
section
variable {X : Cx}
theorem op_rep1 : OpR X (binaryOp .Mult) (rRep1 X.K) := by
  intro pins s σ H x y v u Q I rx ry h
  obtain ⟨l, k, xs, rfl, rfl, hT, h1, h2, h3, q⟩ := h
  cases rx
  obtain ⟨t, rfl⟩ := ry
  obtain ⟨its, r, ⟨⟨cls, dd, data, sl⟩, ho, hc, n, hd⟩, hs⟩ := I.tuple hT
  simp only at hc hd
  subst hc hd
  have c0 : (decide (k < -(2 ^ 63)) || decide (k ≥ 2 ^ 63)) = false := by
    rw [decide_eq_false (by omega), decide_eq_false (by omega)] <;> rfl
  have c1 : (its.toArray.isEmpty || k == 1) = true := by
    rcases h3 with h3 | h3
    · subst h3
      cases r
      rfl
    · subst h3
      exact Bool.or_true _
  refine wpAny_binaryOp_repeat_ref (T := "tuple") (U := "int") (by decide) ⟨_, ho, rfl⟩ (fun s' => typeIs_int s' k t) noFill_tuple_mul F.fills_int_mul F.slot_int_rmul repeat_tuple F.slot_int_index.lookup
    (call_meets F.slot_int_rmul (typeIs_int s k t) F.entry_int_rmul (F.args_int_rmul_2 _ _) (int_rmul_tuple k t l its.toArray n dd sl)
      ⟨ho, rfl, ⟨_, ho, rfl⟩, call_meets F.slot_tuple_mul ⟨_, ho, rfl⟩ F.entry_tuple_mul (F.args_tuple_mul_2 _ _) (tup_mul_same l its.toArray n dd sl k t c0 c1) ⟨ho, ?_⟩⟩)
  exact ⟨.ref l, H, I, rfl, q⟩
theorem op_rep0 : OpR X (binaryOp .Mult) (rRep0 X.K) := by
  intro pins s σ H x y v u Q I rx ry h
  obtain ⟨l, k, xs, rfl, rfl, hT, h1, h2, h3, q⟩ := h
  cases rx
  obtain ⟨t, rfl⟩ := ry
  obtain ⟨its, r, ⟨⟨cls, dd, data, sl⟩, ho, hc, n, hd⟩, hs⟩ := I.tuple hT
  simp only at hc hd
  subst hc hd
  have hi : its.toArray.isEmpty = false := by
    cases r with
    | nil => exact absurd rfl h3
    | cons a b => rfl
  have c0 : (decide (k < -(2 ^ 63)) || decide (k ≥ 2 ^ 63)) = false := by
    rw [decide_eq_false (by omega), decide_eq_false (by omega)] <;> rfl
  have c1 : (its.toArray.isEmpty || k == 1) = false := by
    rw [hi, Bool.false_or]
    exact beq_eq_false_iff_ne.mpr (by omega)
  have c2 : (decide (k ≤ 0) || its.toArray.isEmpty) = true := by
    rw [decide_eq_true h2]
    rfl
  refine wpAny_binaryOp_repeat_ref (T := "tuple") (U := "int") (by decide) ⟨_, ho, rfl⟩ (fun s' => typeIs_int s' k t) noFill_tuple_mul F.fills_int_mul F.slot_int_rmul repeat_tuple F.slot_int_index.lookup
    (call_meets F.slot_int_rmul (typeIs_int s k t) F.entry_int_rmul (F.args_int_rmul_2 _ _) (int_rmul_tuple k t l its.toArray n dd sl)
      ⟨ho, rfl, ⟨_, ho, rfl⟩, call_meets F.slot_tuple_mul ⟨_, ho, rfl⟩ F.entry_tuple_mul (F.args_tuple_mul_2 _ _) (tup_mul_none l its.toArray n dd sl k t c0 c1 c2) ⟨ho, ?_⟩⟩)
  refine ⟨.ref s.heap.objs.size, _, I.laid (t' := s.toks) (o := .tup []) (fun b ob q => Heap.get?_push_of_some _ q) (Nat.le_refl _) ?_, rfl, q _ (I.hok.fresh (Nat.le_refl _))⟩
  exact ⟨Nat.zero_le _, [], .nil, IsTup.new _ _⟩
end
end L2.AP
set_option Elab.async false
set_option linter.all false
set_option maxRecDepth 100000
set_option maxHeartbeats 8000000
/-! AP2s: how many unlike texts there are: len(set(xs)). -/
namespace L2.AP
open PySem PySem.Spec PyProof.Rows
def metS (σ : List Str) (v : Str) : List Str := if σ.any (· == v) = true then σ else σ ++ [v]
/-- the unlike ones, as they are met -/
def met (xs : List Str) : List Str := xs.foldl metS []
theorem met_add (xs : List Str) (x : Str) : met (xs ++ [x]) = metS (met xs) x := by
  unfold met
  rw [List.foldl_append]
  rfl
theorem metS_any (σ : List Str) (v k : Str) : (metS σ v).any (· == k) = (σ.any (· == k) || decide (k = v)) := by
  unfold metS
  by_cases h : σ.any (· == v) = true
  · rw [if_pos h]
    by_cases e : k = v
    · rw [e, h]; rfl
    · rw [decide_eq_false e, Bool.or_false]
  · rw [if_neg h, List.any_append]
    by_cases e : k = v
    · subst e; simp
    · have hb : (v == k) = false := by simpa [beq_iff_eq] using fun q : v = k => e q.symm
      simp [hb, e]
theorem met_any (k : Str) : ∀ n : Nat, ∀ xs : List Str, xs.length = n → (met xs).any (· == k) = xs.any (· == k) := by
  intro n
  induction n with
  | zero => intro xs h; rw [List.eq_nil_of_length_eq_zero h]; rfl
  | succ n ih =>
    intro xs h
    have hne : xs ≠ [] := fun z => by rw [z] at h; cases h
    have e := (List.dropLast_concat_getLast hne).symm
    rw [e, met_add, metS_any, ih _ (by rw [List.length_dropLast, h]; rfl), List.any_append]
    congr 1
    by_cases c : k = xs.getLast hne
    · rw [decide_eq_true c]; simp [← c]
    · have hb : (xs.getLast hne == k) = false := by simpa [beq_iff_eq] using fun q : xs.getLast hne = k => c q.symm
      rw [decide_eq_false c]; simp [hb]
theorem met_le : ∀ n : Nat, ∀ xs : List Str, xs.length = n → (met xs).length ≤ xs.length := by
  intro n
  induction n with
  | zero => intro xs h; rw [List.eq_nil_of_length_eq_zero h]; exact Nat.le_refl 0
  | succ n ih =>
    intro xs h
    have hne : xs ≠ [] := fun z => by rw [z] at h; cases h
    have e := (List.dropLast_concat_getLast hne).symm
    have i1 := ih xs.dropLast (by rw [List.length_dropLast, h]; rfl)
    rw [e, met_add, List.length_append]
    unfold metS
    split
    · omega
    · rw [List.length_append]; exact Nat.add_le_add_right i1 1
theorem metS_len (σ : List Str) (v : Str) : (metS σ v).length = if σ.any (· == v) = true then σ.length else σ.length + 1 := by
  unfold metS
  split
  · rfl
  · rw [List.length_append]; rfl
theorem met_len {xs : List Str} : (met xs).length ≤ xs.length := met_le _ xs rfl
theorem met_nodup : ∀ n : Nat, ∀ xs : List Str, xs.length = n → ((met xs).length = xs.length ↔ xs.Nodup) := by
  intro n
  induction n with
  | zero => intro xs h; rw [List.eq_nil_of_length_eq_zero h]; simp [met]
  | succ n ih =>
    intro xs h
    have hne : xs ≠ [] := fun z => by rw [z] at h; cases h
    have e := (List.dropLast_concat_getLast hne).symm
    have i0 : xs.dropLast.length = n := by rw [List.length_dropLast, h]; rfl
    have i1 := ih xs.dropLast i0
    rw [e, met_add, List.length_append, metS_len, met_any _ n _ i0, List.nodup_append]
    have l1 := @met_len xs.dropLast
    by_cases c : xs.dropLast.any (· == xs.getLast hne) = true
    · rw [if_pos c]
      refine ⟨fun z => by simp only [List.length_cons, List.length_nil] at z; omega, fun ⟨_, _, z⟩ => ?_⟩
      obtain ⟨y, hy, ey⟩ := List.any_eq_true.mp c
      exact absurd (beq_iff_eq.mp ey) (z y hy _ (List.mem_singleton.mpr rfl))
    · rw [if_neg c]
      refine ⟨fun z => ⟨i1.mp (by simp only [List.length_cons, List.length_nil] at z; omega), by simp, fun a ha b hb => ?_⟩, fun ⟨z, _, _⟩ => by rw [i1.mpr z]; rfl⟩
      rw [List.mem_singleton.mp hb]
      intro q
      exact c (List.any_eq_true.mpr ⟨a, ha, beq_iff_eq.mpr q⟩)
section
variable {prog : Program} {w : World} {A : Around} {R : Result → Shared → Prop} {I : Addr} {fp wr : List Addr} {G : Array GenState → Array GenState → Prop} {n : Nat} {P : Nat → Value → Prop} {St : Nat → Shared → Prop}
theorem loopSt (W : WalksS prog w A.in1 I fp wr G n P St) (S : Addr) (hSf : S ∉ fp) (xs : List Str) (hsz : xs.length = n) (hn1 : n + 1 < scanBound)
    (hval : ∀ i v, P i v → ∃ t, v = .str (xs.getD i Str.empty) t) :
    ∀ (k i : Nat) (s : Shared), n - i = k → i ≤ n → St i s →
      s.heap.SetOf (PySem.strKind prog w) S (fun z => (met (xs.take i)).any (· == z)) (met (xs.take i)).length →
      (∀ s', Moved (S :: wr) G s s' → s'.heap.SetOf (PySem.strKind prog w) S (fun z => (met xs).any (· == z)) (met xs).length → R (.ok (.ret .none)) s') →
      codeAny (model prog w) A (.builtin "set.update.loop" ⟨[.ref S, .ref I], []⟩) R s := by
  have hSw : S ∉ wr := fun h => hSf (W.sub _ h)
  have hsub : ∀ b ∈ wr, b ∈ S :: wr := fun b hb => List.mem_cons_of_mem _ hb
  intro k
  induction k with
  | zero =>
    intro i s hk hi hst hS hR
    have hin : i = n := by omega
    subst hin
    rw [List.take_of_length_le (by omega)] at hS
    refine codeAny_builtin PyProof.Rows.F.entry_set_update_loop ?_
    rw [Around.under_plainId PyProof.Rows.F.plain_set_update_loop _]
    show wpAny _ A.in1 (pyNext (.ref I) >>= _) _ _ s
    refine wpAny_bind (W.done s _ _ hst fun s' hm => ?_)
    exact wpAny_pure (hR s' (hm.mono hsub) (by
      obtain ⟨o, es, ep, t, ho, q⟩ := hS
      exact ⟨o, es, ep, t, hm.heap S _ hSw ho, q⟩))
  | succ k ih =>
    intro i s hk hi hst hS hR
    have hlt : i < n := by omega
    refine codeAny_builtin PyProof.Rows.F.entry_set_update_loop ?_
    rw [Around.under_plainId PyProof.Rows.F.plain_set_update_loop _]
    show wpAny _ A.in1 (pyNext (.ref I) >>= _) _ _ s
    refine wpAny_bind (W.item i s _ _ hlt hst fun v s' hP hst' hm => ?_)
    obtain ⟨t, rfl⟩ := hval i v hP
    have hS' : s'.heap.SetOf (PySem.strKind prog w) S (fun z => (met (xs.take i)).any (· == z)) (met (xs.take i)).length := by
      obtain ⟨o, es, ep, tb, ho, q⟩ := hS
      exact ⟨o, es, ep, tb, hm.heap S _ hSw ho, q⟩
    show wpAny _ A.in1 (holding [Value.str (xs.getD i Str.empty) t] (setAdd S (.str (xs.getD i Str.empty) t)) >>= _) _ _ s'
    refine wpAny_bind (wpAny_holding ?_)
    unfold setAdd
    refine wpAny_holding ?_
    refine wpAny_bind ((PySem.strKind prog w).pyHash (k := xs.getD i Str.empty) (strKind_is _ _ _ _) ?_)
    have room : (met (xs.take i)).length + 1 < scanBound := by
      have := @met_len (xs.take i)
      rw [List.length_take] at this
      omega
    refine wpAny_setAddHashed_of (knd := PySem.strKind prog w) (s := { s' with toks := s'.toks + 1 }) (strKind_is _ _ _ _) rfl hS' room fun h' hsb hS2 => ?_
    have et : xs.take (i + 1) = xs.take i ++ [xs.getD i Str.empty] := by
      rw [List.take_succ, List.getD_eq_getElem?_getD, List.getElem?_eq_getElem (by omega)]
      rfl
    have hSi : h'.SetOf (PySem.strKind prog w) S (fun z => (met (xs.take (i + 1))).any (· == z)) (met (xs.take (i + 1))).length :=
      SetOf_congr hS2 (fun z => by rw [et, met_add, metS_any]) (by rw [et, met_add, metS_len])
    refine wpAny_pure ⟨plainId_quiet PyProof.Rows.F.plain_set_update_loop _, ih (i + 1) _ (by omega) hlt (W.frame _ s' _ _ hst' (Nat.le_succ _) fun b hb o e => ?_) hSi fun s'' hm'' hS'' => ?_⟩
    · rw [hsb.2 b (fun z : b = S => hSf (by rw [← z]; exact hb))]; exact e
    · refine hR s'' (Moved.trans W.gtrans ((hm.mono hsub).then_heap (Nat.le_succ _) fun b o hb e => ?_) hm'') hS''
      rw [hsb.2 b (fun z : b = S => hb (by rw [z]; exact List.mem_cons_self))]; exact e
end
section
variable {prog : Program} {w : World} {A : Around} {E : Value → Shared → Prop} {s : Shared}
abbrev oSet (b : Bool) : Obj := { cls := .type "set", dict := none, data := .set #[] 0 (.fresh 0 0 b) }
/-- set(xs), xs a list of texts -/
theorem set_texts {l : Addr} {its : Array Value} {xs : List Str} {Q : Value → Shared → Prop} (hh : A.handled = none) (hl : s.heap.IsList l its ∨ s.heap.IsTuple l its) (hi : PyProof.Rows.StrsAre its.toList xs) (hz : xs.length + 1 < scanBound)
    (fin : ∀ (H : Heap) (tk : Nat), H.SetOf (PySem.strKind prog w) s.heap.objs.size (fun z => (met xs).any (· == z)) (met xs).length → (∀ b o, b < s.heap.objs.size → s.heap.get? b = some o → H.get? b = some o) →
      Q (.ref s.heap.objs.size) { s with heap := H, toks := tk }) : wpAny (model prog w) A (call (.type "set") [.ref l]) Q E s := by
  obtain ⟨_, _, m0⟩ := PySem.F.called_set.mro
  have m1 := PySem.F.called_set.made
  have m2 := PySem.F.called_set.sub
  refine wpAny_call (codeAny_of_tree (show wpAny _ _ (callAny (.type "set") _) _ _ _ from ?_))
  refine wpAny_pure ⟨Code.quiet_builtin _ (by decide +kernel), codeAny_builtin PySem.F.entry_type_call ?_⟩
  rw [Around.under_plain (weight_type_call_type "set" [.ref l] []) rfl]
  have m3 := PySem.F.called_set.notType
  have m4 := PySem.F.called_set.canCreate
  have m5 := PySem.F.typeCall_set_1 (.ref l)
  repeat (any_goals (first | assumption | wp_step))
  refine codeAny_mono (code_set_new_1 (.ref l) (E := E) (Q₁ := fun r z => ∃ b : Bool, r = .ref s.heap.objs.size ∧ z = { s with heap := s.heap.push (oSet b) }) fun b => ⟨b, rfl, rfl⟩) fun r z hr => ?_
  rcases r with e | (_ | _ | _ | v) <;> first | exact hr | exact hr.elim | skip
  · obtain ⟨b, rfl, rfl⟩ := hr
    have g0 : (s.heap.push (oSet b)).get? s.heap.objs.size = some (oSet b) := Heap.get?_push_size _ rfl
    have ty : Shared.TypeIs { s with heap := s.heap.push (oSet b) } (.ref s.heap.objs.size) "set" := ⟨_, g0, rfl⟩
    have m6 := PySem.F.called_set.init.lookup
    have m7 := PySem.F.called_set.init.bind (.ref s.heap.objs.size)
    repeat (any_goals (first | assumption | wp_step))
    refine codeAny_mono (codeAny_call_builtin (R := wants (fun r z => r = .none ∧ ∃ H tk, z = { s with heap := H, toks := tk } ∧ H.SetOf (PySem.strKind prog w) s.heap.objs.size (fun z => (met xs).any (· == z)) (met xs).length ∧
      ∀ b o, b < s.heap.objs.size → s.heap.get? b = some o → H.get? b = some o) E) PySem.F.called_set.init.plain PySem.F.entry_set_init (check_set_init_1 ty ?_)) fun r z hr => ?_
    · rcases hl with hl | hl
      · obtain ⟨⟨cls, od, dat, sl⟩, ho, hc, n0, hd⟩ := hl
        simp only at hc hd
        subst hc hd
        have hol : (s.heap.push (oSet b)).get? l = some { cls := .type "list", dict := od, data := .seq its n0, slots := sl } := Heap.get?_push_of_some _ ho
        have u1 := PySem.F.sub_list_set
        have u2 := PySem.F.sub_list_frozenset
        have u3 : (Value.type "list" == Value.type "dict") = false := by decide
        have hl1 : (s.heap.push (oSet b)).IsList l its := ⟨_, hol, rfl, n0, rfl⟩
        unfold Builtin.«set.__init__» noKeywords Builtin.Frozenset.updateFrom
        generalize eI : pyIter = PI
        wp_walk
        subst eI
        refine wpAny_pyIter_list hl1 (wpAny_bind (wpAny_runValue ?_))
        have lt := Heap.lt_size ho
        have h3 : A.in1.in1.in1.handled = none := by simp [hh]
        have ne : l ≠ (s.heap.push (oSet b)).objs.size := by
          rw [Heap.size_push]
          exact Nat.ne_of_lt (Nat.lt_succ_of_lt lt)
        have nf : s.heap.objs.size ∉ [(s.heap.push (oSet b)).objs.size, l] := by
          rw [Heap.size_push]
          simp only [List.mem_cons, List.not_mem_nil, or_false, not_or]
          exact ⟨Nat.ne_of_lt (Nat.lt_succ_self _), Nat.ne_of_gt lt⟩
        have sz : xs.length = its.size := by rw [← StrsAre.len_eq hi, Array.length_toList]
        refine loopSt ((Walks.list h3 _ l ne its).toS) s.heap.objs.size nf xs sz (by rw [← sz]; exact hz) (fun i v hv => SS.strs_at hi i v (by rw [Array.getElem?_toList]; exact hv)) (its.size - 0) 0 _ rfl (Nat.zero_le _) ⟨⟨_, Heap.get?_push_size _ rfl, rfl, rfl⟩, (hl1.push _)⟩ ?_ ?_
        · exact PyProof.Rows.SetOf_congr ((PyProof.Rows.setObjOf_fresh (knd := PySem.strKind prog w) b).setOf (Heap.get?_push_of_some _ g0) (by unfold scanBound; omega)) (fun _ => rfl) rfl
        · intro s' hm hS
          obtain ⟨H, g, d, tk, os⟩ := s'
          obtain rfl : g = s.gens := hm.gens
          obtain rfl : d = s.drawn := hm.drawn
          obtain rfl : os = s.os := hm.os
          show wpAny _ _ _ _ _ _
          refine wpAny_pure (show wpAny _ _ (ret Value.none) _ _ _ from wpAny_pure ⟨rfl, H, tk, rfl, hS, fun c o hb e => ?_⟩)
          refine hm.heap c o ?_ (Heap.get?_push_of_some _ (Heap.get?_push_of_some _ e))
          simp only [List.mem_cons, List.not_mem_nil, or_false, not_or]
          rw [Heap.size_push]
          exact ⟨Nat.ne_of_lt hb, Nat.ne_of_lt (Nat.lt_succ_of_lt hb)⟩
      · obtain ⟨⟨cls, od, dat, sl⟩, ho, hc, n0, hd⟩ := hl
        simp only at hc hd
        subst hc hd
        have hol : (s.heap.push (oSet b)).get? l = some { cls := .type "tuple", dict := od, data := .seq its n0, slots := sl } := Heap.get?_push_of_some _ ho
        have u1 := PySem.F.sub_tuple_set
        have u2 := PySem.F.sub_tuple_frozenset
        have u3 : (Value.type "tuple" == Value.type "dict") = false := by decide
        have hl1 : (s.heap.push (oSet b)).IsTuple l its := ⟨_, hol, rfl, n0, rfl⟩
        unfold Builtin.«set.__init__» noKeywords Builtin.Frozenset.updateFrom
        generalize eI : pyIter = PI
        wp_walk
        subst eI
        refine wpAny_pyIter_tuple hl1 (wpAny_bind (wpAny_runValue ?_))
        have lt := Heap.lt_size ho
        have h3 : A.in1.in1.in1.handled = none := by simp [hh]
        have ne : l ≠ (s.heap.push (oSet b)).objs.size := by
          rw [Heap.size_push]
          exact Nat.ne_of_lt (Nat.lt_succ_of_lt lt)
        have nf : s.heap.objs.size ∉ [(s.heap.push (oSet b)).objs.size, l] := by
          rw [Heap.size_push]
          simp only [List.mem_cons, List.not_mem_nil, or_false, not_or]
          exact ⟨Nat.ne_of_lt (Nat.lt_succ_self _), Nat.ne_of_gt lt⟩
        have sz : xs.length = its.size := by rw [← StrsAre.len_eq hi, Array.length_toList]
        refine loopSt ((Walks.tuple h3 _ l ne its).toS) s.heap.objs.size nf xs sz (by rw [← sz]; exact hz) (fun i v hv => SS.strs_at hi i v (by rw [Array.getElem?_toList]; exact hv)) (its.size - 0) 0 _ rfl (Nat.zero_le _) ⟨⟨_, Heap.get?_push_size _ rfl, rfl, rfl⟩, (hl1.push _)⟩ ?_ ?_
        · exact PyProof.Rows.SetOf_congr ((PyProof.Rows.setObjOf_fresh (knd := PySem.strKind prog w) b).setOf (Heap.get?_push_of_some _ g0) (by unfold scanBound; omega)) (fun _ => rfl) rfl
        · intro s' hm hS
          obtain ⟨H, g, d, tk, os⟩ := s'
          obtain rfl : g = s.gens := hm.gens
          obtain rfl : d = s.drawn := hm.drawn
          obtain rfl : os = s.os := hm.os
          show wpAny _ _ _ _ _ _
          refine wpAny_pure (show wpAny _ _ (ret Value.none) _ _ _ from wpAny_pure ⟨rfl, H, tk, rfl, hS, fun c o hb e => ?_⟩)
          refine hm.heap c o ?_ (Heap.get?_push_of_some _ (Heap.get?_push_of_some _ e))
          simp only [List.mem_cons, List.not_mem_nil, or_false, not_or]
          rw [Heap.size_push]
          exact ⟨Nat.ne_of_lt hb, Nat.ne_of_lt (Nat.lt_succ_of_lt hb)⟩
    · rcases r with e | (_ | _ | _ | v) <;> first | exact hr | exact hr.elim | skip
      · obtain ⟨rfl, H, tk, rfl, hS, hk⟩ := hr
        repeat (any_goals (first | assumption | wp_step))
        exact fin _ _ hS hk
end
end L2.AP
set_option Elab.async false
set_option linter.all false
set_option maxRecDepth 100000
set_option maxHeartbeats 8000000
/-! AP2k: sets of nested tuples: len(set(xs)). -/
namespace L2.AP
open PySem PySem.Spec PyProof.Rows
abbrev IsN (h : Heap) (k : NestedKey) (a : Addr) : Prop := NestedIs h k (.ref a)
section
variable {P : Program} {w : World} {A : Around} {E : Value → Shared → Prop} {s : Shared}
def NoStmt (P : Program) (w : World) (n : Nat) (s : Shared) (v : Value) : Prop := ∀ (A : Around) (E : Value → Shared → Prop) (Q : Bool → Shared → Prop), Q false s → wpAny (model P w) A (ofAClassStatement n v) Q E s
def AnyHash (P : Program) (w : World) (n : Nat) (s : Shared) (v : Value) : Prop := ∀ (A : Around) (E : Value → Shared → Prop) (Q : Bool → Shared → Prop), (∀ b, Q b s) → wpAny (model P w) A (hashByValue n v) Q E s
theorem NoStmt.tuple {n : Nat} {a : Addr} {o : Obj} {vs : Array Value} {m : Nat} (ho : s.heap.get? a = some o) (hc : o.cls = .type "tuple") (hd : o.data = .seq vs m) (hq : ∀ v ∈ vs.toList, NoStmt P w n s v) : NoStmt P w (n + 1) s (.ref a) := fun A E Q q => by
  unfold ofAClassStatement
  refine wpAny_bind (wpAny_typeOf ⟨o, ho, hc⟩ ?_)
  have tt : (("tuple" : String) == "tuple") = true := by decide
  dsimp only
  simp only [tt, if_true, Bool.not_true, Bool.false_eq_true, if_false]
  try refine wpAny_bind (wpAny_pure ?_)
  try simp only [Bool.not_true, Bool.false_eq_true, if_false]
  refine wpAny_bind (m := seqItems? (.ref a)) (wpAny_seqItems ho hd ?_)
  dsimp only
  refine wpAny_bind ?_
  show wpAny _ _ (forIn vs _ _) _ _ s
  rw [← Array.forIn_toList]
  refine wpAny_forIn_list _ (fun rest r z => r.1 = none ∧ z = s ∧ ∀ v ∈ rest, NoStmt P w n s v) _ (fun v rest r z hi => ?_) (fun r z hi => ?_) _ _ ⟨rfl, rfl, hq⟩
  · obtain ⟨_, rfl, al⟩ := hi
    refine wpAny_bind (al v List.mem_cons_self _ _ _ ?_)
    simp only [Bool.false_eq_true, if_false]
    exact wpAny_pure ⟨rfl, rfl, fun u hu => al u (List.mem_cons_of_mem _ hu)⟩
  · obtain ⟨r1, r2⟩ := r
    obtain ⟨h1, rfl, _⟩ := hi
    simp only at h1
    subst h1
    exact wpAny_pure q
mutual
theorem stmt_key : ∀ (k : NestedKey) (v : Value) (n : Nat) (s : Shared), NestedIs s.heap k v → k.depth ≤ n → NoStmt P w n s v
  | .none, _, n, s, x, _ => by cases x; intro A E Q q; cases n <;> exact wpAny_pure q
  | .num i, _, n, s, x, _ => by cases x <;> (intro A E Q q; cases n <;> exact wpAny_pure q)
  | .text y, _, n, s, x, _ => by cases x; intro A E Q q; cases n <;> exact wpAny_pure q
  | .tup ks, _, n, s, x, hn => by
    cases x with
    | tup hg hc hd hk =>
      simp only [NestedKey.depth] at hn
      cases n with
      | zero => omega
      | succ n => exact .tuple hg hc hd (stmt_keys ks _ n s hk (by omega))
theorem stmt_keys : ∀ (ks : List NestedKey) (vs : List Value) (n : Nat) (s : Shared), NestedAll s.heap ks vs → NestedKey.depthAll ks ≤ n → ∀ v ∈ vs, NoStmt P w n s v
  | [], _, n, s, x, _, v, hv => by cases x; cases hv
  | k :: ks, _, n, s, x, hn, v, hv => by
    cases x with
    | cons x1 x2 =>
      simp only [NestedKey.depthAll] at hn
      rcases List.mem_cons.mp hv with e | hv
      · rw [e]; exact stmt_key k _ n s x1 (by omega)
      · exact stmt_keys ks _ n s x2 (by omega) v hv
end
theorem AnyHash.tuple {n : Nat} {a : Addr} {o : Obj} {vs : Array Value} {m : Nat} (ho : s.heap.get? a = some o) (hc : o.cls = .type "tuple") (hd : o.data = .seq vs m) (hq : ∀ v ∈ vs.toList, AnyHash P w n s v) : AnyHash P w (n + 1) s (.ref a) := fun A E Q q => by
  unfold hashByValue
  refine wpAny_bind (wpAny_specialOf (T := "tuple") ⟨o, ho, hc⟩ F.slot_tuple_hash.lookup ?_)
  dsimp only
  refine wpAny_bind (m := seqItems? (.ref a)) (wpAny_seqItems ho hd ?_)
  refine wpAny_bind ?_
  show wpAny _ _ (forIn vs _ _) _ _ s
  rw [← Array.forIn_toList]
  refine wpAny_forIn_list _ (fun rest r z => r.1 = none ∧ z = s ∧ ∀ v ∈ rest, AnyHash P w n s v) _ (fun v rest r z hi => ?_) (fun r z hi => ?_) _ _ ⟨rfl, rfl, hq⟩
  · obtain ⟨_, rfl, al⟩ := hi
    refine wpAny_bind (al v List.mem_cons_self _ _ _ fun b => ?_)
    cases b with
    | true =>
      simp only [Bool.not_true, Bool.false_eq_true, if_false]
      exact wpAny_pure ⟨rfl, rfl, fun u hu => al u (List.mem_cons_of_mem _ hu)⟩
    | false =>
      simp only [Bool.not_false, if_true]
      refine wpAny_pure ?_
      dsimp only
      exact wpAny_pure (q _)
  · obtain ⟨r1, r2⟩ := r
    obtain ⟨h1, rfl, _⟩ := hi
    simp only at h1
    subst h1
    exact wpAny_pure (q _)
mutual
theorem hash_key : ∀ (k : NestedKey) (v : Value) (n : Nat) (s : Shared), NestedIs s.heap k v → AnyHash P w n s v
  | .none, _, n, s, x => by cases x; intro A E Q q; cases n <;> exact wpAny_pure (q _)
  | .num i, _, n, s, x => by cases x <;> (intro A E Q q; cases n <;> exact wpAny_pure (q _))
  | .text y, _, n, s, x => by cases x; intro A E Q q; cases n <;> exact wpAny_pure (q _)
  | .tup ks, _, n, s, x => by
    cases x with
    | tup hg hc hd hk =>
      cases n with
      | zero => intro A E Q q; exact wpAny_pure (q _)
      | succ n => exact .tuple hg hc hd (hash_keys ks _ n s hk)
theorem hash_keys : ∀ (ks : List NestedKey) (vs : List Value) (n : Nat) (s : Shared), NestedAll s.heap ks vs → ∀ v ∈ vs, AnyHash P w n s v
  | [], _, n, s, x, v, hv => by cases x; cases hv
  | k :: ks, _, n, s, x, v, hv => by
    cases x with
    | cons x1 x2 =>
      rcases List.mem_cons.mp hv with e | hv
      · rw [e]; exact hash_key k _ n s x1
      · exact hash_keys ks _ n s x2 v hv
end
/-- shallow keys show nothing -/
theorem seenN {k : NestedKey} {b : Addr} {Q : Bool → Shared → Prop} (hk : IsN s.heap k b) (hd : k.depth ≤ 8) {ys : List Value} (hy : ∀ y ∈ ys, ∃ k' c, y = Value.ref c ∧ IsN s.heap k' c ∧ k'.depth ≤ 8) (q : Q false s) :
    wpAny (model P w) A (searchCouldBeSeen (.ref b) ys) Q E s := by
  unfold searchCouldBeSeen
  refine wpAny_bind ?_
  refine wpAny_forIn_list _ (fun rest r z => r.1 = none ∧ z = s ∧ ∀ y ∈ rest, ∃ k' c, y = Value.ref c ∧ IsN s.heap k' c ∧ k'.depth ≤ 8) _ (fun v rest r z hi => ?_) (fun r z hi => ?_) _ _ ⟨rfl, rfl, hy⟩
  · obtain ⟨_, rfl, al⟩ := hi
    obtain ⟨k', c, rfl, hc, hd'⟩ := al v List.mem_cons_self
    have more := fun u hu => al u (List.mem_cons_of_mem _ hu)
    dsimp only
    by_cases hv : (b == c || (carriedByValue (.ref b) && carriedByValue (.ref c))) = true
    · exact wp_if_pos hv (wpAny_pure ⟨rfl, rfl, more⟩)
    · refine wp_if_neg hv ?_
      refine wpAny_bind (quiet_key k _ 8 _ hk hd _ _ _ ?_)
      simp only [Bool.not_true, Bool.false_eq_true, if_false]
      refine wpAny_bind (quiet_key k' _ 8 _ hc hd' _ _ _ ?_)
      simp only [Bool.not_true, Bool.false_eq_true, if_false]
      refine wpAny_bind (stmt_key k _ 8 _ hk hd _ _ _ ?_)
      simp only [Bool.false_eq_true, if_false]
      refine wpAny_bind (stmt_key k' _ 8 _ hc hd' _ _ _ ?_)
      simp only [Bool.false_eq_true, if_false]
      exact wpAny_pure ⟨rfl, rfl, more⟩
  · obtain ⟨r1, r2⟩ := r
    obtain ⟨h1, rfl, _⟩ := hi
    simp only at h1
    subst h1
    exact wpAny_pure q

/-! ### the set -/
abbrev NL := List (Addr × NestedKey)
abbrev hashN (w : World) (p : Addr × NestedKey) : Int := p.2.hash w
def rowN (w : World) (p : Addr × NestedKey) : Int × Value := (hashN w p, Value.ref p.1)
structure SetN (w : World) (h : Heap) (a : Addr) (L : NL) (es : Array (Int × Value)) (ep : Nat) (t : SetTable) : Prop where
  ob : ∃ o, h.get? a = some o ∧ o.ExactSet ∧ o.data = .set es ep t
  rows : es.toList = L.map (rowN w)
  tab : TabOk t (L.map (hashN w))
  nd : (L.map (·.2)).Nodup
  tup : ∀ p ∈ L, IsN h p.2 p.1
  room : L.length * 5 < t.mask * 3
  few : L.length < 64
variable {a : Addr} {L : NL} {es : Array (Int × Value)} {ep : Nat} {t : SetTable}
theorem size_rows (h : es.toList = L.map (rowN w)) : es.size = L.length := by
  have := congrArg List.length h
  rwa [Array.length_toList, List.length_map] at this
theorem fits_of (hp : t.place.size = es.size) (hd : t.dummies = #[]) (hl : es.size ≤ t.mask) : t.fits es.size = true := by
  unfold SetTable.fits SetTable.fill
  rw [hd]
  simp [hp, hl]
theorem SetN.fits (R : SetN w s.heap a L es ep t) : t.fits es.size = true := by
  have h1 := R.tab.sz
  have h2 := size_rows R.rows
  have h3 := R.room
  rw [List.length_map] at h1
  exact fits_of (by omega) R.tab.dm (by omega)
theorem SetN.entry (R : SetN w s.heap a L es ep t) {i : Nat} {p : Addr × NestedKey} (h : L[i]? = some p) : es[i]? = some (rowN w p) := by
  rw [← Array.getElem?_toList, R.rows, List.getElem?_map, h]
  rfl
/-- the search -/
theorem searchN (R : SetN w s.heap a L es ep t) {x : Addr} {k : NestedKey} (hx : IsN s.heap k x) (hu : A.units + k.depth < cLine) (tame : ∀ p ∈ L, p.2.hash w = k.hash w → p.2.depth ≤ 8 ∧ k.depth ≤ 8) {K : Nat} (hKf : K < 10 * SetTable.turns t.mask)
    (hK : way t.mask (k.hash w) K ∉ t.place.toList) (hKb : ∀ c, c < K → way t.mask (k.hash w) c ∈ t.place.toList) {Q : SetFound → Shared → Prop}
    (hin : k ∈ L.map (·.2) → Q (.there none) s) (hout : k ∉ L.map (·.2) → Q (.free (way t.mask (k.hash w) K) false) s) :
    ∀ (f c : Nat) (stand : Option SetTable.Probe), stand.getD (t.probeStart (k.hash w)) = nth t.mask (runAt t.mask (SetTable.bits (k.hash w) % (t.mask + 1)) (SetTable.bits (k.hash w))) c → c ≤ K → K - c < f →
      (∀ (i : Nat) p, L[i]? = some p → p.2 = k → ∃ c', c ≤ c' ∧ c' < K ∧ t.place.toList[i]? = some (way t.mask (k.hash w) c')) →
      wpAny (model P w) A (setSearchFrom a (.ref x) (k.hash w) true f stand) Q E s
  | 0, c, stand, _, _, hf, _ => absurd hf (Nat.not_lt_zero _)
  | f + 1, c, stand, hst, hc, hf, hre => by
    obtain ⟨o, ho, hex, hd⟩ := R.ob
    rw [setSearchFrom_succ]
    refine wpAny_bind (wpAny_setState_of ho hd R.fits ?_)
    dsimp only
    have gw : ¬ t.gaveWay = true := by
      unfold SetTable.gaveWay
      rw [mask_odd R.tab.mok]
      decide
    refine wp_if_neg gw ?_
    try refine wpAny_bind (wpAny_pure ?_)
    generalize hb : runAt t.mask (SetTable.bits (k.hash w) % (t.mask + 1)) (SetTable.bits (k.hash w)) = start at hst
    have wj : ∀ q, (nth t.mask start q).j = way t.mask (k.hash w) q := fun q => by rw [← hb]
    have hnd : ∀ (n : Nat) (p : SetTable.Probe), p.dummy = none → (nth t.mask p n).dummy = none := by
      intro n
      induction n with
      | zero => exact fun p h => h
      | succ n ih =>
        refine fun p h => ih (adv t.mask p) ?_
        unfold adv
        split <;> exact h
    have hd0 : start.dummy = none := by rw [← hb]; rfl
    have sh : ∀ q, nth t.mask (nth t.mask start c) q = nth t.mask start (c + q) := fun q => (nth_add t.mask c start q).symm
    have e1 : ∀ q, (nth t.mask (nth t.mask start c) q).j = way t.mask (k.hash w) (c + q) := fun q => by rw [sh, wj]
    have spec := go_spec t R.tab.ris R.tab.dm (fun i => (es[i]?.map (·.1)).getD 0) (k.hash w) (10 * SetTable.turns t.mask) (K - c) (nth t.mask start c) (hnd c _ hd0) (by omega)
      (fun q hq => by rw [e1]; exact hKb (c + q) (by omega)) (by rw [e1, show c + (K - c) = K by omega]; exact hK)
    have hashAt : ∀ (i : Nat) p, L[i]? = some p → (fun i => (es[i]?.map (·.1)).getD 0) i = p.2.hash w := fun i p hp => by
      show (es[i]?.map (·.1)).getD 0 = _
      rw [R.entry hp]
      rfl
    rcases spec with ⟨q, i, hq, hi, hh, hno, hpr⟩ | ⟨hno, hpr⟩
    · have hpr' : t.probe (fun i => (es[i]?.map (·.1)).getD 0) (k.hash w) (stand.getD (t.probeStart (k.hash w))) = some (.candidate (way t.mask (k.hash w) (c + q)) i (nth t.mask start (c + (q + 1)))) := by
        rw [hst, ← e1, ← sh]
        exact hpr
      rw [hpr']
      dsimp only
      rw [e1] at hi
      have hil : i < L.length := by
        have h1 : i < t.place.toList.length := (List.getElem?_eq_some_iff.mp hi).1
        have h2 := R.tab.sz
        rw [List.length_map] at h2
        rw [Array.length_toList] at h1
        omega
      have hp : L[i]? = some L[i] := List.getElem?_eq_getElem hil
      generalize L[i] = p at hp
      have hmem : p ∈ L := List.mem_of_getElem? hp
      have hph : p.2.hash w = k.hash w := by rw [← hashAt i p hp]; exact hh
      have low := tame p hmem hph
      have go : wpAny (model P w) A (searchRest a (.ref x) (k.hash w) true f es t (way t.mask (k.hash w) (c + q)) i (nth t.mask start (c + (q + 1)))) Q E s := by
        unfold searchRest
        rw [R.entry hp]
        dsimp only [rowN]
        refine wpAny_bind (wpAny_holding (eqAt_key p.2 k A s _ _ (R.tup p hmem) hx (by omega) _ _ _ _ ?_))
        rw [← NestedKey.decide_eq]
        refine wpAny_bind (wpAny_setState_of ho hd R.fits ?_)
        dsimp only
        by_cases hkk : p.2 = k
        · refine wp_if_pos (by simp [hkk]) ?_
          exact wpAny_pure (hin (List.mem_map.mpr ⟨p, hmem, hkk⟩))
        · refine wp_if_neg (by simp [hkk]) ?_
          try refine wpAny_bind (wpAny_pure ?_)
          rw [sameMem]
          dsimp only
          have hsl : t.slot (way t.mask (k.hash w) (c + q)) = .live i := slot_live R.tab.ris hi
          simp only [if_true, hsl, R.entry hp, rowN]
          refine wpAny_bind (wpAny_isSame_ref_self (wpAny_bind (wpAny_pure ?_)))
          simp only [if_true]
          refine wp_if_neg (by simp [hkk]) ?_
          refine searchN R hx hu tame hKf hK hKb hin hout f (c + (q + 1)) _ (by rw [hb]; rfl) (by omega) (by omega) fun i0 p0 h0 hk0 => ?_
          obtain ⟨c', a1, a2, a3⟩ := hre i0 p0 h0 hk0
          refine ⟨c', ?_, a2, a3⟩
          rcases Nat.lt_trichotomy c' (c + q) with z | z | z
          · exact absurd ((hashAt i0 p0 h0).trans (by rw [hk0])) (hno (c' - c) i0 (by omega) (by rw [e1, show c + (c' - c) = c' by omega]; exact a3))
          · exfalso
            rw [z] at a3
            have s0 := slot_live R.tab.ris a3
            rw [hsl] at s0
            injection s0 with s0
            rw [← s0, hp] at h0
            exact hkk ((congrArg Prod.snd (Option.some.inj h0)).trans hk0)
          · omega
      by_cases hl : t.led = true
      · refine wp_if_neg (by simp [hl]) ?_
        try refine wpAny_bind (wpAny_pure ?_)
        exact go
      · refine wp_if_pos (by simp [hl]) ?_
        refine wpAny_bind (seenN hx low.2 (fun y hy => ?_) ?_)
        · obtain ⟨e, he, ee⟩ := List.mem_map.mp hy
          have he1 : e ∈ es ∧ e.1 = k.hash w := by simpa using he
          have he2 : e ∈ es.toList := by simpa using he1.1
          rw [R.rows] at he2
          obtain ⟨p2, hp2, e2⟩ := List.mem_map.mp he2
          have hh2 : p2.2.hash w = k.hash w := by rw [← he1.2, ← e2]; rfl
          exact ⟨p2.2, p2.1, by rw [← ee, ← e2]; rfl, R.tup p2 hp2, (tame p2 hp2 hh2).1⟩
        · refine wp_if_neg (by decide) ?_
          try refine wpAny_bind (wpAny_pure ?_)
          exact go
    · have hpr' : t.probe (fun i => (es[i]?.map (·.1)).getD 0) (k.hash w) (stand.getD (t.probeStart (k.hash w))) = some (.empty (way t.mask (k.hash w) K) none) := by
        have e2 : way t.mask (k.hash w) K = (nth t.mask (nth t.mask start c) (K - c)).j := by
          rw [e1, show c + (K - c) = K by omega]
        rw [hst, e2]
        exact hpr
      rw [hpr']
      dsimp only
      refine wpAny_pure (hout fun hm => ?_)
      obtain ⟨p0, h0, hk0⟩ := List.mem_map.mp hm
      obtain ⟨i0, hi0, e0⟩ := List.getElem_of_mem h0
      have h00 : L[i0]? = some p0 := by rw [List.getElem?_eq_getElem hi0, e0]
      obtain ⟨c', a1, a2, a3⟩ := hre i0 p0 h00 hk0
      exact hno (c' - c) i0 (by omega) (by rw [e1, show c + (c' - c) = c' by omega]; exact a3) ((hashAt i0 p0 h00).trans (by rw [hk0]))
theorem searchN_at (R : SetN w s.heap a L es ep t) {x : Addr} {k : NestedKey} (hx : IsN s.heap k x) (hu : A.units + k.depth < cLine) (tame : ∀ p ∈ L, p.2.hash w = k.hash w → p.2.depth ≤ 8 ∧ k.depth ≤ 8) {Q : SetFound → Shared → Prop}
    (hin : k ∈ L.map (·.2) → Q (.there none) s)
    (hout : ∀ K, k ∉ L.map (·.2) → way t.mask (k.hash w) K ∉ t.place.toList → (∀ c, c < K → way t.mask (k.hash w) c ∈ t.place.toList) → Q (.free (way t.mask (k.hash w) K) false) s) :
    wpAny (model P w) A (setSearch a (.ref x) (k.hash w) true) Q E s := by
  have hroom := R.room
  obtain ⟨K, hKf, hK, hKb⟩ := R.tab.first (by rw [List.length_map]; omega) (k.hash w)
  have big : K < 100000 := by
    have z : 10 * SetTable.turns t.mask ≤ 1420 := by
      unfold SetTable.turns
      rcases R.tab.mok with e | e | e <;> omega
    omega
  unfold setSearch
  refine searchN R hx hu tame hKf hK hKb hin (fun hn => hout K hn hK hKb) 100000 0 none rfl (Nat.zero_le _) (by omega) fun i p hp hk => ?_
  have hi : (L.map (hashN w))[i]? = some (k.hash w) := by rw [List.getElem?_map, hp, ← hk]; rfl
  have hil : i < t.place.toList.length := by
    have h1 : i < L.length := (List.getElem?_eq_some_iff.mp hp).1
    have h2 := R.tab.sz
    rw [List.length_map] at h2
    rw [Array.length_toList]
    omega
  have hj := List.getElem?_eq_getElem hil
  obtain ⟨c, hc, e⟩ := R.tab.before hK hi hj
  exact ⟨c, Nat.zero_le _, hc, by rw [hj, e]⟩
theorem isN_keep {h h' : Heap} {k : NestedKey} {b : Addr} (x : IsN h k b) (hk : ∀ c o, h.get? c = some o → (∃ vs n, o.data = .seq vs n) → h'.get? c = some o) : IsN h' k b := NestedIs.at (fun c o vs n e e2 => hk c o e ⟨vs, n, e2⟩) _ _ x
theorem isN_same {h h' : Heap} {k : NestedKey} {a b : Addr} {o : Obj} {es : Array (Int × Value)} {ep : Nat} {t : SetTable} (hb : IsN h k b) (ho : h.get? a = some o) (hd : o.data = .set es ep t) (hs : Heap.SameBut a h h') : IsN h' k b :=
  isN_keep hb fun c o' e ⟨vs, n, e2⟩ => (hs.2 c fun z => by
    subst z
    rw [ho] at e
    cases e
    rw [hd] at e2
    cases e2).trans e
/-- the rows in a new order -/
theorem order_rowsN (L : NL) (es : Array (Int × Value)) (order : Array Nat) (hr : es.toList = L.map (rowN w)) (hp : order.toList.Perm (List.range L.length)) :
    ∃ L2 : NL, (order.filterMap (es[·]?)).toList = L2.map (rowN w) ∧ L2.Perm L ∧ L2.map (hashN w) = order.toList.map fun i => (es.map (·.1)).getD i 0 := by
  have ent : ∀ i, es[i]? = (L[i]?).map (rowN w) := fun i => by rw [← Array.getElem?_toList, hr, List.getElem?_map]
  refine ⟨order.toList.filterMap fun i => L[i]?, ?_, ?_, ?_⟩
  · rw [Array.toList_filterMap, List.map_filterMap]
    exact congrArg (fun f => List.filterMap f order.toList) (funext ent)
  · have h1 := hp.filterMap fun i => L[i]?
    have h2 : ∀ n, n ≤ L.length → (List.range n).filterMap (fun i => L[i]?) = L.take n := by
      intro n
      induction n with
      | zero => intro _; rfl
      | succ n ih =>
        intro hn
        rw [List.range_succ, List.filterMap_append, ih (by omega), List.take_succ, List.getElem?_eq_getElem hn]
        rw [List.filterMap_cons_some (List.getElem?_eq_getElem hn)]
        rfl
    rw [h2 L.length (Nat.le_refl _), List.take_length] at h1
    exact h1
  · have mem : ∀ i ∈ order.toList, i < L.length := fun i hi => List.mem_range.mp (hp.mem_iff.mp hi)
    generalize order.toList = l at mem
    clear hp
    induction l with
    | nil => rfl
    | cons i l ih =>
      have hi := mem i List.mem_cons_self
      rw [List.filterMap_cons_some (List.getElem?_eq_getElem hi), List.map_cons, List.map_cons, ih fun j hj => mem j (List.mem_cons_of_mem _ hj)]
      have e5 : (es.map (·.1))[i]? = some (hashN w L[i]) := by rw [Array.getElem?_map, ent i, List.getElem?_eq_getElem hi]; rfl
      rw [Array.getD_eq_getD_getElem?, e5]
      rfl
theorem TabOk.same {t t' : SetTable} {hs : List Int} (T : TabOk t hs) (h1 : t'.place = t.place) (h2 : t'.dummies = t.dummies) (h3 : t'.mask = t.mask) : TabOk t' hs := by
  obtain ⟨a1, a2, a3, a4, a5, a6⟩ := T
  exact ⟨by rw [h1]; exact a1, by rw [h2]; exact a2, by rw [h1]; exact a3, by rw [h3]; exact a4, by rw [h1, h3]; exact a5, by rw [h1, h3]; exact a6⟩
/-- laid anew -/
theorem relayN {o : Obj} (ho : s.heap.get? a = some o) (hex : o.ExactSet) (hd : o.data = .set es ep t) (hrows : es.toList = L.map (rowN w)) (hsz : t.place.size = es.size) (hdm : t.dummies = #[]) (hfl : es.size ≤ t.mask)
    (nd : (L.map (·.2)).Nodup) (tup : ∀ p ∈ L, IsN s.heap p.2 p.1) (few : L.length < 64) {wanted M : Nat}
    (hw : SetTable.sizeAbove wanted - 1 = M) (hM : MaskOk M) (hw2 : SetTable.sizeAbove wanted ≤ 128) (hn : L.length * 5 < M * 3) {Q : Unit → Shared → Prop}
    (hQ : ∀ h' L' es' ep' t', Heap.SameBut a s.heap h' → SetN w h' a L' es' ep' t' → L'.Perm L → Q () { s with heap := h' }) : wpAny (model P w) A (setRelay a wanted) Q E s := by
  have hsl := size_rows hrows
  obtain ⟨t', order, e, hp, T, em, el, ep', ed⟩ := relaid_ok t (hs := es.map (·.1)) (wanted := wanted) hw hM (by rw [Array.size_map, hsl]; omega)
  rw [Array.size_map, hsl] at hp
  obtain ⟨L2, r1, r2, r3⟩ := order_rowsN L es order hrows hp
  rw [← r3] at T
  have hs2 : (order.filterMap (es[·]?)).size = es.size := by rw [size_rows r1, r2.length_eq, hsl]
  rw [setRelay_eq]
  refine wpAny_bind (wpAny_setState_of ho hd (fits_of hsz hdm hfl) ?_)
  dsimp only
  refine wp_if_neg (by rw [sizeLine_eq]; omega) ?_
  try refine wpAny_bind (wpAny_pure ?_)
  rw [e]
  dsimp only
  refine wpAny_bind ?_
  refine wp_if_neg (by rw [hs2]; simp) ?_
  try refine wpAny_bind (wpAny_pure ?_)
  refine wpAny_pure ?_
  dsimp only
  refine wpAny_storeSet_of ho hd ?_ (by rw [hs2, hsl, sizeLine_eq]; omega)
  have sb : Heap.SameBut a s.heap (s.heap.update a (Obj.putSet (order.filterMap (es[·]?)) t')) := Heap.SameBut.update ..
  refine hQ _ L2 _ (ep + 1) t' sb ⟨⟨_, store_at ho hd, ⟨hex.1, hex.2.1, hex.2.2⟩, rfl⟩, r1, T, (r2.map (·.2)).nodup_iff.mpr nd, fun p hpm => isN_same (tup p (r2.mem_iff.mp hpm)) ho hd sb, ?_, by rw [r2.length_eq]; exact few⟩ r2
  rw [r2.length_eq, em]
  exact hn
/-- one more -/
theorem addN (R : SetN w s.heap a L es ep t) {x : Addr} {k : NestedKey} (hx : IsN s.heap k x) (hu : A.units + k.depth < cLine) (tame : ∀ p ∈ L, p.2.hash w = k.hash w → p.2.depth ≤ 8 ∧ k.depth ≤ 8) (hfew : L.length + 1 < 64) {Q : Bool → Shared → Prop}
    (hQ : ∀ b h' L' es' ep' t', Heap.SameBut a s.heap h' → SetN w h' a L' es' ep' t' → (k ∈ L.map (·.2) → L' = L) → (k ∉ L.map (·.2) → L'.Perm ((x, k) :: L)) → Q b { s with heap := h' }) :
    wpAny (model P w) A (setAddHashed a (.ref x) (k.hash w)) Q E s := by
  obtain ⟨o, ho, hex, hd⟩ := R.ob
  have hsl := size_rows R.rows
  have hroom := R.room
  unfold setAddHashed
  refine wpAny_holding ?_
  rw [show (100000 : Nat) = 99999 + 1 from rfl, setAddHashedIn_succ]
  refine wpAny_bind (wpAny_setState_of ho hd R.fits ?_)
  dsimp only
  refine wp_if_neg (by simp [byScan, Value.scannable]) ?_
  try refine wpAny_bind (wpAny_pure ?_)
  refine wpAny_bind (searchN_at R hx hu tame (fun hm => ?_) fun K hm hK hb => ?_)
  · exact wpAny_pure (hQ false s.heap L es ep t (Heap.SameBut.refl a s.heap) R (fun _ => rfl) fun z => absurd hm z)
  · dsimp only
    refine wpAny_bind (wpAny_setState_of ho hd R.fits ?_)
    dsimp only
    obtain ⟨q1, q2, q3, q4, q5, q6, q7, q8, q9⟩ := R.tab.put hK hb
    generalize hpt : t.put (way t.mask (k.hash w) K) = pt at q1 q3 q4 q9 ⊢
    obtain ⟨t1, p⟩ := pt
    dsimp only at q1 q3 q4 q9 ⊢
    subst q1
    have fin : ∀ t2 : SetTable, t2.place = t1.place → t2.dummies = t1.dummies → t2.mask = t1.mask → wpAny (model P w) A (do
        storeSet a (SetTable.insertAt es (SetTable.below t.place (way t.mask (k.hash w) K)) (k.hash w, Value.ref x)) t2
        if !false && t2.tooFull then setRelay a (SetTable.grown (es.size + 1))
        return true) Q E s := fun t2 z1 z2 z3 => by
      replace q3 := TabOk.same q3 z1 z2 z3
      rw [← z3] at q4
      have q9 : t2.fill = L.length + 1 := by
        have e : t2.fill = t1.fill := by unfold SetTable.fill; rw [z1, z2]
        rw [e, q9, List.length_map]
      have hin : (SetTable.insertAt es (SetTable.below t.place (way t.mask (k.hash w) K)) (k.hash w, Value.ref x)).toList = (L.take (SetTable.below t.place (way t.mask (k.hash w) K)) ++ (x, k) :: L.drop (SetTable.below t.place (way t.mask (k.hash w) K))).map (rowN w) := by
        rw [SetTable.toList_insertAt, R.rows, List.map_append, List.map_cons, List.map_take, List.map_drop]
        rfl
      generalize hpp : SetTable.below t.place (way t.mask (k.hash w) K) = p at q2 q3 hin ⊢
      have pm := put_perm L p (x, k)
      have hlen : (L.take p ++ (x, k) :: L.drop p).length = L.length + 1 := pm.length_eq
      have hhs : (L.take p ++ (x, k) :: L.drop p).map (hashN w) = (L.map (hashN w)).take p ++ k.hash w :: (L.map (hashN w)).drop p := by
        rw [List.map_append, List.map_cons, List.map_take, List.map_drop]
      rw [← hhs] at q3
      have nd1 : ((L.take p ++ (x, k) :: L.drop p).map (·.2)).Nodup := by
        refine (pm.map (·.2)).nodup_iff.mpr ?_
        rw [List.map_cons]
        exact List.nodup_cons.mpr ⟨hm, R.nd⟩
      have hes := (size_rows hin).trans hlen
      generalize SetTable.insertAt es p (k.hash w, Value.ref x) = es1 at hin hes ⊢
      generalize L.take p ++ (x, k) :: L.drop p = L1 at pm hlen q3 nd1 hin
      refine wpAny_bind (wpAny_storeSet_of ho hd ?_ (by rw [hes, sizeLine_eq]; omega))
      have sb : Heap.SameBut a s.heap (s.heap.update a (Obj.putSet es1 t2)) := Heap.SameBut.update ..
      have ho1 := store_at (es' := es1) (t' := t2) ho hd
      generalize s.heap.update a (Obj.putSet es1 t2) = h1 at sb ho1 ⊢
      have tup1 : ∀ p ∈ L1, IsN h1 p.2 p.1 := fun p hp => by
        rcases List.mem_cons.mp (pm.mem_iff.mp hp) with e | hp
        · rw [e]; exact isN_same hx ho hd sb
        · exact isN_same (R.tup p hp) ho hd sb
      by_cases hf : t2.tooFull = true
      · first
          | (refine wpAny_bind ?_; refine wp_if_pos (by simp [hf]) ?_)
          | (refine wp_if_pos (by simp [hf]) ?_; refine wpAny_bind ?_)
        have hfull : (L.length + 1) * 5 ≥ t2.mask * 3 := by
          have h := hf
          unfold SetTable.tooFull at h
          rwa [decide_eq_true_eq, q9] at h
        rw [hsl]
        have hsz1 : t2.place.size = es1.size := by
          have h := q3.sz
          rw [List.length_map, hlen] at h
          rw [h, hes]
        have two : (t.mask = 7 ∧ L.length = 4) ∨ (t.mask = 31 ∧ L.length = 18) := by
          rw [q4] at hfull
          rcases R.tab.mok with e | e | e <;> rw [e] at hfull hroom
          · exact .inl ⟨e, by omega⟩
          · exact .inr ⟨e, by omega⟩
          · omega
        have go : ∀ M, SetTable.sizeAbove (SetTable.grown (L.length + 1)) - 1 = M → MaskOk M → SetTable.sizeAbove (SetTable.grown (L.length + 1)) ≤ 128 → (L.length + 1) * 5 < M * 3 →
            wpAny (model P w) A (setRelay a (SetTable.grown (L.length + 1))) (fun _ s' => wpAny (model P w) A (pure true) Q E s') E { s with heap := h1 } := fun M g1 g2 g3 g4 =>
          relayN (s := { s with heap := h1 }) ho1 ⟨hex.1, hex.2.1, hex.2.2⟩ rfl hin hsz1 q3.dm (by rw [hes, q4]; omega) nd1 tup1 (by rw [hlen]; exact hfew) g1 g2 g3 (by rw [hlen]; exact g4)
            fun h2 L2 es2 ep2 t3 sb2 R2 pm2 => wpAny_pure (hQ true h2 L2 es2 ep2 t3 (sb.trans sb2) R2 (fun z => absurd z hm) fun _ => pm2.trans pm)
        rcases two with ⟨_, e2⟩ | ⟨_, e2⟩
        · exact go 31 (by rw [e2, size_20]) (.inr (.inl rfl)) (by rw [e2, size_20]; decide) (by omega)
        · exact go 127 (by rw [e2, size_76]) (.inr (.inr rfl)) (by rw [e2, size_76]; decide) (by omega)
      · first
          | refine wp_if_neg (by simp [hf]) ?_
          | (refine wpAny_bind ?_; refine wp_if_neg (by simp [hf]) ?_; refine wpAny_pure ?_)
        refine wpAny_pure (hQ true h1 L1 es1 (ep + 1) t2 sb ⟨⟨_, ho1, ⟨hex.1, hex.2.1, hex.2.2⟩, rfl⟩, hin, q3, nd1, tup1, ?_, by rw [hlen]; exact hfew⟩ (fun z => absurd z hm) fun _ => pm)
        have h := hf
        unfold SetTable.tooFull at h
        rw [decide_eq_true_eq, q9] at h
        rw [hlen]
        omega
    by_cases hpl : t1.plain = true
    · have ask : ∀ (R0 : Bool → Sem Bool), (∀ b, wpAny (model P w) A (R0 b) Q E s) → wpAny (model P w) A (hashByValue 8 (.ref x) >>= R0) Q E s := fun R0 hr => wpAny_bind (hash_key k _ 8 s hx _ _ _ hr)
      first
        | (refine wp_if_pos hpl ?_; refine ask _ fun b => ?_)
        | (refine wpAny_bind ?_; refine wp_if_pos hpl ?_; refine hash_key k _ 8 s hx _ _ _ fun b => ?_)
      cases b with
      | true => exact fin t1 rfl rfl rfl
      | false => exact fin _ rfl rfl rfl
    · first
        | (refine wp_if_neg hpl ?_; refine wpAny_bind (wpAny_pure ?_))
        | (refine wpAny_bind ?_; refine wp_if_neg hpl ?_; refine wpAny_pure ?_)
        | refine wp_if_neg hpl ?_
      exact fin t1 rfl rfl rfl
/-- what the first i items have left -/
structure GotN (ks : NL) (i : Nat) (L : NL) : Prop where
  sub : ∀ p ∈ L, p ∈ ks.take i
  all : ∀ p ∈ ks.take i, p.2 ∈ L.map (·.2)
  len : L.length ≤ i
theorem GotN.step {ks L L' : NL} {i : Nat} {x : Addr × NestedKey} (g : GotN ks i L) (h : ks[i]? = some x) (c1 : x.2 ∈ L.map (·.2) → L' = L) (c2 : x.2 ∉ L.map (·.2) → L'.Perm (x :: L)) : GotN ks (i + 1) L' := by
  have e : ks.take (i + 1) = ks.take i ++ [x] := by rw [List.take_succ, h]; rfl
  by_cases m : x.2 ∈ L.map (·.2)
  · rw [c1 m]
    refine ⟨fun p hp => by rw [e]; exact List.mem_append_left _ (g.sub p hp), fun p hp => ?_, Nat.le_succ_of_le g.len⟩
    rw [e] at hp
    rcases List.mem_append.mp hp with z | z
    · exact g.all p z
    · rw [List.mem_singleton.mp z]; exact m
  · have pm := c2 m
    refine ⟨fun p hp => ?_, fun p hp => ?_, by rw [pm.length_eq]; exact Nat.succ_le_succ g.len⟩
    · rw [e]
      rcases List.mem_cons.mp (pm.mem_iff.mp hp) with z | z
      · rw [z]; exact List.mem_append_right _ (List.mem_singleton.mpr rfl)
      · exact List.mem_append_left _ (g.sub p z)
    · rw [(pm.map (·.2)).mem_iff, List.map_cons]
      rw [e] at hp
      rcases List.mem_append.mp hp with z | z
      · exact List.mem_cons_of_mem _ (g.all p z)
      · rw [List.mem_singleton.mp z]; exact List.mem_cons_self
/-- keys that may be asked -/
def Tame (w : World) (ks : List NestedKey) : Prop := (∀ k ∈ ks, k.depth ≤ 8) ∨ (ks.map (·.hash w)).Nodup
theorem Tame.at {w : World} {ks : NL} (h : Tame w (ks.map (·.2))) {i : Nat} {p x : Addr × NestedKey} (hx : ks[i]? = some x) (hp : p ∈ ks.take i) (e : p.2.hash w = x.2.hash w) : p.2.depth ≤ 8 ∧ x.2.depth ≤ 8 := by
  rcases h with h | h
  · exact ⟨h _ (List.mem_map.mpr ⟨p, List.mem_of_mem_take hp, rfl⟩), h _ (List.mem_map.mpr ⟨x, List.mem_of_getElem? hx, rfl⟩)⟩
  · exfalso
    rw [List.map_map] at h
    obtain ⟨j, hj, ej⟩ := List.getElem_of_mem hp
    have lj : j < i := by rw [List.length_take] at hj; omega
    have hi := (List.getElem?_eq_some_iff.mp hx).1
    rw [List.getElem_take] at ej
    have := List.pairwise_iff_getElem.mp h j i (by rw [List.length_map]; omega) (by rw [List.length_map]; exact hi) lj
    rw [List.getElem_map, List.getElem_map] at this
    refine this ?_
    have e2 : ks[i] = x := by
      have := List.getElem?_eq_getElem hi
      rw [hx] at this
      exact (Option.some.inj this).symm
    show ks[j].2.hash w = ks[i].2.hash w
    rw [ej, e2, e]
theorem setN_fresh {h : Heap} {a : Addr} {b : Bool} (ho : h.get? a = some (oSet b)) : SetN w h a [] #[] 0 (.fresh 0 0 b) where
  ob := ⟨_, ho, ⟨rfl, rfl, rfl⟩, rfl⟩
  rows := rfl
  tab := ⟨List.Pairwise.nil, rfl, rfl, .inl rfl, fun x hx => (by cases hx), fun i h j hi => (by simp at hi)⟩
  nd := List.nodup_nil
  tup := fun p hp => (by cases hp)
  room := by
    show 0 * 5 < 7 * 3
    decide
  few := by
    show 0 < 64
    decide
theorem SetN.keep {h h' : Heap} {a : Addr} (R : SetN w h a L es ep t) (ha : ∀ o, h.get? a = some o → h'.get? a = some o) (ht : ∀ p ∈ L, IsN h' p.2 p.1) : SetN w h' a L es ep t := by
  obtain ⟨o, ho, r⟩ := R.ob
  exact ⟨⟨o, ha o ho, r⟩, R.rows, R.tab, R.nd, ht, R.room, R.few⟩
/-- the walk that fills the set -/
theorem updN {I : Addr} {fp wr : List Addr} {G : Array GenState → Array GenState → Prop} {n : Nat} {Pv : Nat → Value → Prop} {St : Nat → Shared → Prop} {R : Result → Shared → Prop}
    (W : WalksS P w A.in1 I fp wr G n Pv St) (S : Addr) (hSf : S ∉ fp) (ks : NL) (hn : n = ks.length) (hfew : ks.length < 64) (hval : ∀ i v, Pv i v → ∃ p, ks[i]? = some p ∧ v = .ref p.1) (tm : Tame w (ks.map (·.2)))
    (h0 : Heap) (hk : ∀ p ∈ ks, IsN h0 p.2 p.1) (hS0 : h0.get? S = none) (hw0 : ∀ b ∈ wr, h0.get? b = none) (hu : ∀ p ∈ ks, A.in1.units + p.2.depth < cLine) :
    ∀ (k i : Nat) (s : Shared), n - i = k → i ≤ n → St i s → (∀ b o, h0.get? b = some o → s.heap.get? b = some o) → (∃ L es ep t, SetN w s.heap S L es ep t ∧ GotN ks i L) →
      (∀ s' L es ep t, Moved (S :: wr) G s s' → SetN w s'.heap S L es ep t → GotN ks n L → (∀ b o, h0.get? b = some o → s'.heap.get? b = some o) → R (.ok (.ret .none)) s') →
      codeAny (model P w) A (.builtin "set.update.loop" ⟨[.ref S, .ref I], []⟩) R s := by
  have hSw : S ∉ wr := fun h => hSf (W.sub _ h)
  have hsub : ∀ b ∈ wr, b ∈ S :: wr := fun b hb => List.mem_cons_of_mem _ hb
  have keepM : ∀ {s s' : Shared}, Moved wr G s s' → (∀ b o, h0.get? b = some o → s.heap.get? b = some o) → ∀ b o, h0.get? b = some o → s'.heap.get? b = some o := fun hm hkp b o e =>
    hm.heap b o (fun hb => by rw [hw0 b hb] at e; cases e) (hkp b o e)
  have isn : ∀ {h1 : Heap} {L : NL} {i : Nat}, (∀ b o, h0.get? b = some o → h1.get? b = some o) → GotN ks i L → ∀ p ∈ L, IsN h1 p.2 p.1 := fun hkp g p hp => isN_keep (hk p (List.mem_of_mem_take (g.sub p hp))) fun c o e _ => hkp c o e
  intro k
  induction k with
  | zero =>
    intro i s hk' hi hst hkp ⟨L, es, ep, t, hS, g⟩ hR
    obtain rfl : i = n := by omega
    refine codeAny_builtin F.entry_set_update_loop ?_
    rw [Around.under_plainId F.plain_set_update_loop _]
    show wpAny _ A.in1 (pyNext (.ref I) >>= _) _ _ s
    refine wpAny_bind (W.done s _ _ hst fun s' hm => ?_)
    have hkp' := keepM hm hkp
    exact wpAny_pure (hR s' L es ep t (hm.mono hsub) (hS.keep (fun o e => hm.heap S o hSw e) (isn hkp' g)) g hkp')
  | succ k ih =>
    intro i s hk' hi hst hkp ⟨L, es, ep, t, hS, g⟩ hR
    have hlt : i < n := by omega
    refine codeAny_builtin F.entry_set_update_loop ?_
    rw [Around.under_plainId F.plain_set_update_loop _]
    show wpAny _ A.in1 (pyNext (.ref I) >>= _) _ _ s
    refine wpAny_bind (W.item i s _ _ hlt hst fun v s' hP hst' hm => ?_)
    obtain ⟨p, hp, rfl⟩ := hval i v hP
    have hkp' := keepM hm hkp
    have pm := List.mem_of_getElem? hp
    have hS' : SetN w s'.heap S L es ep t := hS.keep (fun o e => hm.heap S o hSw e) (isn hkp' g)
    have hx : IsN s'.heap p.2 p.1 := isN_keep (hk p pm) fun c o e _ => hkp' c o e
    show wpAny _ A.in1 (holding [Value.ref p.1] (setAdd S (.ref p.1)) >>= _) _ _ s'
    refine wpAny_bind (wpAny_holding ?_)
    unfold setAdd
    refine wpAny_holding ?_
    refine wpAny_bind (pyHash_key p.2 _ A.in1 s' _ hx (hu p pm) ?_)
    refine addN (s := { s' with toks := s'.toks + p.2.draws }) hS' hx (hu p pm) (fun q hq e => tm.at hp (g.sub q hq) e) (by have := g.len; omega) fun b h' L' es' ep' t' hsb hS2 c1 c2 => ?_
    have g' := g.step hp c1 c2
    have hkp2 : ∀ b o, h0.get? b = some o → h'.get? b = some o := fun b o e => (hsb.2 b (fun z => by rw [z, hS0] at e; cases e)).trans (hkp' b o e)
    refine wpAny_pure ⟨plainId_quiet F.plain_set_update_loop _, ih (i + 1) _ (by omega) hlt (W.frame _ s' _ _ hst' (Nat.le_add_right _ _) fun b hb o e => ?_) hkp2 ⟨L', es', ep', t', hS2, g'⟩ fun s'' L2 es2 ep2 t2 hm'' hS'' g'' hkp'' => ?_⟩
    · rw [hsb.2 b (fun h : b = S => hSf (by rw [← h]; exact hb))]; exact e
    · refine hR s'' L2 es2 ep2 t2 (Moved.trans W.gtrans ((hm.mono hsub).then_heap (Nat.le_add_right _ _) fun b o hb e => ?_) hm'') hS'' g'' hkp''
      rw [hsb.2 b (fun h : b = S => hb (by rw [h]; exact List.mem_cons_self))]; exact e
/-- set(xs), xs a list or a tuple of nested tuples -/
theorem set_nested {l : Addr} {its : Array Value} {ks : NL} {Q : Value → Shared → Prop} (hh : A.handled = none) (hl : s.heap.IsList l its ∨ s.heap.IsTuple l its) (hit : its.toList = ks.map fun p => Value.ref p.1)
    (hk : ∀ p ∈ ks, IsN s.heap p.2 p.1) (hfew : ks.length < 64) (tm : Tame w (ks.map (·.2))) (hu : ∀ p ∈ ks, A.units + 3 + p.2.depth < cLine)
    (fin : ∀ (H : Heap) (tk : Nat) L es ep t, SetN w H s.heap.objs.size L es ep t → GotN ks ks.length L → (∀ b o, s.heap.get? b = some o → H.get? b = some o) → Q (.ref s.heap.objs.size) { s with heap := H, toks := tk }) :
    wpAny (model P w) A (call (.type "set") [.ref l]) Q E s := by
  have hisz : its.size = ks.length := by
    have q := congrArg List.length hit
    rwa [Array.length_toList, List.length_map] at q
  obtain ⟨_, _, m0⟩ := PySem.F.called_set.mro
  have m1 := PySem.F.called_set.made
  have m2 := PySem.F.called_set.sub
  refine wpAny_call (codeAny_of_tree (show wpAny _ _ (callAny (.type "set") _) _ _ _ from ?_))
  refine wpAny_pure ⟨Code.quiet_builtin _ (by decide +kernel), codeAny_builtin PySem.F.entry_type_call ?_⟩
  rw [Around.under_plain (weight_type_call_type "set" [.ref l] []) rfl]
  have m3 := PySem.F.called_set.notType
  have m4 := PySem.F.called_set.canCreate
  have m5 := PySem.F.typeCall_set_1 (.ref l)
  repeat (any_goals (first | assumption | wp_step))
  refine codeAny_mono (code_set_new_1 (.ref l) (E := E) (Q₁ := fun r z => ∃ b : Bool, r = .ref s.heap.objs.size ∧ z = { s with heap := s.heap.push (oSet b) }) fun b => ⟨b, rfl, rfl⟩) fun r z hr => ?_
  rcases r with e | (_ | _ | _ | v) <;> first | exact hr | exact hr.elim | skip
  · obtain ⟨b, rfl, rfl⟩ := hr
    have g0 : (s.heap.push (oSet b)).get? s.heap.objs.size = some (oSet b) := Heap.get?_push_size _ rfl
    have ty : Shared.TypeIs { s with heap := s.heap.push (oSet b) } (.ref s.heap.objs.size) "set" := ⟨_, g0, rfl⟩
    have m6 := PySem.F.called_set.init.lookup
    have m7 := PySem.F.called_set.init.bind (.ref s.heap.objs.size)
    repeat (any_goals (first | assumption | wp_step))
    refine codeAny_mono (codeAny_call_builtin (R := wants (fun r z => r = .none ∧ ∃ H tk L es ep t, z = { s with heap := H, toks := tk } ∧ SetN w H s.heap.objs.size L es ep t ∧ GotN ks ks.length L ∧
      ∀ b o, s.heap.get? b = some o → H.get? b = some o) E) PySem.F.called_set.init.plain PySem.F.entry_set_init (check_set_init_1 ty ?_)) fun r z hr => ?_
    · have none_of : ∀ b, s.heap.objs.size ≤ b → s.heap.get? b = none := fun b hb => by
        cases q : s.heap.get? b with
        | none => rfl
        | some o => exact absurd (Nat.lt_of_lt_of_le (Heap.lt_size q) hb) (Nat.lt_irrefl _)
      have hval : ∀ (i : Nat) (v : Value), its[i]? = some v → ∃ p, ks[i]? = some p ∧ v = .ref p.1 := fun i v hv => by
        have q : its.toList[i]? = some v := by rw [Array.getElem?_toList]; exact hv
        rw [hit, List.getElem?_map] at q
        obtain ⟨p, h1, h2⟩ := Option.map_eq_some_iff.mp q
        exact ⟨p, h1, h2.symm⟩
      have h3 : A.in1.in1.in1.handled = none := by simp [hh]
      have fit : ∀ (lt : l < s.heap.objs.size), l ≠ (s.heap.push (oSet b)).objs.size ∧ s.heap.objs.size ∉ [(s.heap.push (oSet b)).objs.size, l] := fun lt => by
        rw [Heap.size_push]
        refine ⟨Nat.ne_of_lt (Nat.lt_succ_of_lt lt), ?_⟩
        simp only [List.mem_cons, List.not_mem_nil, or_false, not_or]
        exact ⟨Nat.ne_of_lt (Nat.lt_succ_self _), Nat.ne_of_gt lt⟩
      have uu : ∀ p ∈ ks, A.in1.in1.in1.units + p.2.depth < cLine := fun p hp => by
        have := hu p hp
        simp only [Around.in1_units]
        omega
      rcases hl with hl | hl
      · obtain ⟨⟨cls, od, dat, sl⟩, ho, hc, n0, hd⟩ := hl
        simp only at hc hd
        subst hc hd
        have hol : (s.heap.push (oSet b)).get? l = some { cls := .type "list", dict := od, data := .seq its n0, slots := sl } := Heap.get?_push_of_some _ ho
        have u1 := PySem.F.sub_list_set
        have u2 := PySem.F.sub_list_frozenset
        have u3 : (Value.type "list" == Value.type "dict") = false := by decide
        have hl1 : (s.heap.push (oSet b)).IsList l its := ⟨_, hol, rfl, n0, rfl⟩
        unfold Builtin.«set.__init__» noKeywords Builtin.Frozenset.updateFrom
        generalize eI : pyIter = PI
        wp_walk
        subst eI
        refine wpAny_pyIter_list hl1 (wpAny_bind (wpAny_runValue ?_))
        obtain ⟨ne, nf⟩ := fit (Heap.lt_size ho)
        refine updN ((Walks.list h3 _ l ne its).toS) s.heap.objs.size nf ks hisz hfew hval tm s.heap hk (none_of _ (Nat.le_refl _)) (fun c hc => none_of c (by rw [List.mem_singleton.mp hc, Heap.size_push]; exact Nat.le_succ _)) uu (its.size - 0) 0 _ rfl (Nat.zero_le _)
          ⟨⟨_, Heap.get?_push_size _ rfl, rfl, rfl⟩, (hl1.push _)⟩ (fun c o e => Heap.get?_push_of_some _ (Heap.get?_push_of_some _ e)) ⟨[], #[], 0, _, setN_fresh (Heap.get?_push_of_some _ g0), ⟨fun p h => (by cases h), fun p h => (by simp at h), Nat.le_refl _⟩⟩ ?_
        intro s' L es ep t hm hS g hkp
        obtain ⟨H, g2, d, tk, os⟩ := s'
        obtain rfl : g2 = s.gens := hm.gens
        obtain rfl : d = s.drawn := hm.drawn
        obtain rfl : os = s.os := hm.os
        rw [hisz] at g
        show wpAny _ _ _ _ _ _
        exact wpAny_pure (show wpAny _ _ (ret Value.none) _ _ _ from wpAny_pure ⟨rfl, H, tk, L, es, ep, t, rfl, hS, g, hkp⟩)
      · obtain ⟨⟨cls, od, dat, sl⟩, ho, hc, n0, hd⟩ := hl
        simp only at hc hd
        subst hc hd
        have hol : (s.heap.push (oSet b)).get? l = some { cls := .type "tuple", dict := od, data := .seq its n0, slots := sl } := Heap.get?_push_of_some _ ho
        have u1 := PySem.F.sub_tuple_set
        have u2 := PySem.F.sub_tuple_frozenset
        have u3 : (Value.type "tuple" == Value.type "dict") = false := by decide
        have hl1 : (s.heap.push (oSet b)).IsTuple l its := ⟨_, hol, rfl, n0, rfl⟩
        unfold Builtin.«set.__init__» noKeywords Builtin.Frozenset.updateFrom
        generalize eI : pyIter = PI
        wp_walk
        subst eI
        refine wpAny_pyIter_tuple hl1 (wpAny_bind (wpAny_runValue ?_))
        obtain ⟨ne, nf⟩ := fit (Heap.lt_size ho)
        refine updN ((Walks.tuple h3 _ l ne its).toS) s.heap.objs.size nf ks hisz hfew hval tm s.heap hk (none_of _ (Nat.le_refl _)) (fun c hc => none_of c (by rw [List.mem_singleton.mp hc, Heap.size_push]; exact Nat.le_succ _)) uu (its.size - 0) 0 _ rfl (Nat.zero_le _)
          ⟨⟨_, Heap.get?_push_size _ rfl, rfl, rfl⟩, (hl1.push _)⟩ (fun c o e => Heap.get?_push_of_some _ (Heap.get?_push_of_some _ e)) ⟨[], #[], 0, _, setN_fresh (Heap.get?_push_of_some _ g0), ⟨fun p h => (by cases h), fun p h => (by simp at h), Nat.le_refl _⟩⟩ ?_
        intro s' L es ep t hm hS g hkp
        obtain ⟨H, g2, d, tk, os⟩ := s'
        obtain rfl : g2 = s.gens := hm.gens
        obtain rfl : d = s.drawn := hm.drawn
        obtain rfl : os = s.os := hm.os
        rw [hisz] at g
        show wpAny _ _ _ _ _ _
        exact wpAny_pure (show wpAny _ _ (ret Value.none) _ _ _ from wpAny_pure ⟨rfl, H, tk, L, es, ep, t, rfl, hS, g, hkp⟩)
    · rcases r with e | (_ | _ | _ | v) <;> first | exact hr | exact hr.elim | skip
      · obtain ⟨rfl, H, tk, L, es, ep, t, rfl, hS, g, hkp⟩ := hr
        repeat (any_goals (first | assumption | wp_step))
        exact fin _ _ _ _ _ _ hS g hkp
end
end L2.AP
set_option Elab.async false
set_option linter.all false
set_option maxRecDepth 100000
set_option maxHeartbeats 2000000
/-! AP3: what operators, subscripts, slices, calls of built-ins do with deep values. -/
namespace L2.AP
open PySem PySem.Spec PyProof.Rows

/-- the items of a list: one that stands still, one that changes -/
def asL (m : AH) : D → Option (List D)
  | .lst xs => some xs
  | .ref a => match m a with
    | some (.lst xs) => some xs
    | _ => none
  | _ => none
/-- the items of a list or a tuple -/
def asQ (m : AH) : D → Option (List D)
  | .tup xs => some xs
  | .rdl xs => some xs
  | d => asL m d
section
variable {K : PySem.W.Frag} {mg : Str → Option Value} {H : Hp} {m : AH} {d : D} {v : V} {xs : List D}
theorem asL_ref {a : Addr} (e : m a = some (.lst xs)) : asL m (.ref a) = some xs := by
  show (match m a with | some (.lst xs) => some xs | _ => none) = _
  rw [e]
theorem asL_of_ref {a : Addr} (e : asL m (.ref a) = some xs) : m a = some (.lst xs) := by
  replace e : (match m a with | some (.lst xs) => some xs | _ => none) = some xs := e
  cases q : m a with
  | none => rw [q] at e; cases e
  | some o =>
    rw [q] at e
    cases o with
    | lst ys => cases e; rfl
    | _ => cases e
theorem asL_rep (h : HRep K mg H m) (r : Rep K mg H d v) (e : asL m d = some xs) : ∃ a vs, v = .ref a ∧ Rd H a (.lst vs) ∧ Reps K mg H xs vs := by
  cases d with
  | lst ys =>
    cases e
    obtain ⟨a, vs, rfl, ⟨o, h1⟩, h2⟩ := r
    exact ⟨a, vs, rfl, .inr ⟨o, h1⟩, h2⟩
  | ref a =>
    cases r
    obtain ⟨vs, h1, h2⟩ := h a _ (asL_of_ref e)
    exact ⟨a, vs, rfl, .inl h1, h2⟩
  | _ => cases e
theorem asQ_rep (h : HRep K mg H m) (r : Rep K mg H d v) (e : asQ m d = some xs) : ∃ a vs, v = .ref a ∧ (SqL K H a vs ∨ SqT K H a vs) ∧ Reps K mg H xs vs := by
  cases d with
  | tup ys =>
    cases e
    obtain ⟨a, vs, rfl, h1, h2⟩ := r
    exact ⟨a, vs, rfl, .inr h1, h2⟩
  | rdl ys =>
    cases e
    obtain ⟨a, vs, rfl, h1, h2⟩ := r
    exact ⟨a, vs, rfl, .inl h1.sql, h2⟩
  | lst ys =>
    obtain ⟨a, vs, e1, h1, h2⟩ := asL_rep h r (show asL m (.lst ys) = some xs from e)
    exact ⟨a, vs, e1, .inl (.inl h1), h2⟩
  | ref b =>
    obtain ⟨a, vs, e1, h1, h2⟩ := asL_rep h r (show asL m (.ref b) = some xs from e)
    exact ⟨a, vs, e1, .inl (.inl h1), h2⟩
  | _ => cases e
end
/-- a list's very object -/
theorem Inv.rdM {X : Cx} {pins : List (Addr × Obj)} {σ : St} {H : Hp} {s : Shared} {l : Addr} {xs : List V} (I : Inv X pins σ H s) (h : Rd H l (.lst xs)) :
    xs.length ≤ sizeLine ∧ ∃ (its : List Value) (n : Nat), Vals xs its ∧ xs.length = its.length ∧ s.heap.get? l = some { cls := .type "list", data := .seq its.toArray n } := by
  obtain ⟨z, its, n, r, e⟩ := h.ok I.hok
  exact ⟨z, its, n, r, r.length, e⟩

/-! ### + -/
def addR (d e : D) (m : AH) (Q : DQ) : Prop := match d, e with
  | .int i, .int j => Q (.int (i + j)) m
  | .str x, .str y => x.length + y.length ≤ sizeLine ∧ Q (.str (x ++ y)) m
  | .tup xs, .tup ys => xs.length + ys.length ≤ sizeLine ∧ Q (.tup (xs ++ ys)) m
  | d, e => ∃ xs ys, asL m d = some xs ∧ asL m e = some ys ∧ xs.length + ys.length ≤ sizeLine ∧ Q (.lst (xs ++ ys)) m
section
variable {X : Cx}
def rCatR : R2 := fun x y H Q => ∃ l b xs zs, x = .ref l ∧ y = .ref b ∧ Rd H l (.lst xs) ∧ Rd H b (.lst zs) ∧ xs.length + zs.length ≤ sizeLine ∧ ∀ p, H p = none → Q (.ref p) (upd H p (.lst (xs ++ zs)))
theorem op_catR : OpR X (binaryOp .Add) rCatR := by
  intro pins s σ H x y v u Q I rx ry h
  obtain ⟨l, b, xs, zs, rfl, rfl, hH, hB, hz, q⟩ := h
  cases rx
  cases ry
  obtain ⟨_, its, n, r, hl, e⟩ := Inv.rdM I hH
  obtain ⟨_, jts, k, r2, hl2, e2⟩ := Inv.rdM I hB
  refine PySem.P.add_list e e2 ?_ (by simp only [List.size_toArray]; omega)
  have I2 := I.lnew (t' := s.toks) (r.append r2) (by simp only [List.length_append]; omega)
  rw [← List.append_toArray] at I2
  exact ⟨.ref s.heap.objs.size, _, I2, rfl, q _ I.fresh⟩
theorem addR_ok : DOp X (binaryOp .Add) addR := by
  refine OpR.imp (OpR.or op_add (OpR.or op_add_str (OpR.or op_catA (OpR.frz op_catR)))) fun x y H Q h => ?_
  obtain ⟨d, e, m, P, r1, r2, h, t, q⟩ := h
  unfold addR at t
  split at t
  · cases r1; cases r2
    exact .inl ⟨_, _, rfl, rfl, q.here h t rfl⟩
  · cases r1; cases r2
    exact .inr (.inl ⟨_, _, rfl, rfl, t.1, q.here h t.2 rfl⟩)
  · rename_i xs ys
    obtain ⟨a, vs, rfl, s1, q1⟩ := r1
    obtain ⟨b, us, rfl, s2, q2⟩ := r2
    refine .inr (.inr (.inl ⟨a, b, vs, us, rfl, rfl, s1, s2, by rw [q1.len, q2.len]; exact t.1, fun e => ?_, fun _ e => ?_, fun _ _ p hp => q.tup h t.2 (q1.app q2) p hp⟩))
    · subst e
      have z : xs = [] := List.eq_nil_of_length_eq_zero q1.len.symm
      subst z
      exact q.here h t.2 ⟨b, us, rfl, s2, q2⟩
    · subst e
      have z : ys = [] := List.eq_nil_of_length_eq_zero q2.len.symm
      subst z
      rw [List.append_nil] at t
      exact q.here h t.2 ⟨a, vs, rfl, s1, q1⟩
  · obtain ⟨xs, ys, e1, e2, hz, p⟩ := t
    obtain ⟨a, vs, rfl, s1, q1⟩ := asL_rep h r1 e1
    obtain ⟨b, us, rfl, s2, q2⟩ := asL_rep h r2 e2
    exact .inr (.inr (.inr ⟨a, b, vs, us, rfl, rfl, s1, s2, by rw [q1.len, q2.len]; exact hz, q.frz h p (q1.app q2)⟩))

/-- two lists, the new one changes later -/
def addMR (d e : D) (m : AH) (Q : DQ) : Prop := ∃ xs ys, asL m d = some xs ∧ asL m e = some ys ∧ xs.length + ys.length ≤ sizeLine ∧ ∀ p, m p = none → Q (.ref p) (put m p (.lst (xs ++ ys)))
theorem addMR_ok : DOp X (binaryOp .Add) addMR := by
  refine OpR.imp op_catR fun x y H Q ⟨d, e, m, P, r1, r2, h, ⟨xs, ys, e1, e2, hz, p⟩, q⟩ => ?_
  obtain ⟨a, vs, rfl, s1, q1⟩ := asL_rep h r1 e1
  obtain ⟨b, us, rfl, s2, q2⟩ := asL_rep h r2 e2
  exact ⟨a, b, vs, us, rfl, rfl, s1, s2, by rw [q1.len, q2.len]; exact hz, q.lst h p (q1.app q2)⟩

/-! ### ints -/
def subR (d e : D) (m : AH) (Q : DQ) : Prop := match d, e with
  | .int i, .int j => Q (.int (i - j)) m
  | _, _ => False
theorem subR_ok : DOp X (binaryOp .Sub) subR := by
  refine OpR.imp op_sub fun x y H Q ⟨d, e, m, P, r1, r2, h, t, q⟩ => ?_
  unfold subR at t
  split at t
  · cases r1; cases r2; exact ⟨_, _, rfl, rfl, q.here h t rfl⟩
  · exact t.elim
def fdivR (d e : D) (m : AH) (Q : DQ) : Prop := match d, e with
  | .int i, .int j => (0 < j ∧ j < 1073741824) ∧ Q (.int (i / j)) m
  | _, _ => False
theorem fdivR_ok : DOp X (binaryOp .FloorDiv) fdivR := by
  refine OpR.imp op_fdiv fun x y H Q ⟨d, e, m, P, r1, r2, h, t, q⟩ => ?_
  unfold fdivR at t
  split at t
  · cases r1; cases r2; exact ⟨_, _, rfl, rfl, t.1, q.here h t.2 rfl⟩
  · exact t.elim
def modR (d e : D) (m : AH) (Q : DQ) : Prop := match d, e with
  | .int i, .int j => 0 < j ∧ Q (.int (i % j)) m
  | _, _ => False
theorem modR_ok : DOp X (binaryOp .Mod) modR := by
  refine OpR.imp op_mod fun x y H Q ⟨d, e, m, P, r1, r2, h, t, q⟩ => ?_
  unfold modR at t
  split at t
  · cases r1; cases r2; exact ⟨_, _, rfl, rfl, t.1, q.here h t.2 rfl⟩
  · exact t.elim
def powR (d e : D) (m : AH) (Q : DQ) : Prop := match d, e with
  | .int i, .int j => (0 ≤ j ∧ j ≤ 1000000 ∧ i.natAbs < 2 ^ 64) ∧ Q (.int (i ^ j.toNat)) m
  | _, _ => False
theorem powR_ok : DOp X (binaryOp .Pow) powR := by
  refine OpR.imp op_pow fun x y H Q ⟨d, e, m, P, r1, r2, h, t, q⟩ => ?_
  unfold powR at t
  split at t
  · cases r1; cases r2; exact ⟨_, _, rfl, rfl, t.1, q.here h t.2 rfl⟩
  · exact t.elim
/-- one factor small, or both of together less than a million bits -/
def MulOk (i j : Int) : Prop := (-(2 ^ 64) < i ∧ i < 2 ^ 64) ∨ (-(2 ^ 64) < j ∧ j < 2 ^ 64) ∨ i.natAbs.log2 + j.natAbs.log2 < 1000000
def mulR (d e : D) (m : AH) (Q : DQ) : Prop := match d, e with
  | .int i, .int j => MulOk i j ∧ Q (.int (i * j)) m
  | .tup xs, .int k => -1000 ≤ k ∧ k ≤ 1000 ∧ xs.length ≤ 1000 ∧ Q (.tup (List.replicate k.toNat xs).flatten) m
  | _, _ => False
theorem Reps.rep {K : PySem.W.Frag} {mg : Str → Option Value} {H : Hp} {xs : List D} {vs : List V} (r : Reps K mg H xs vs) : ∀ n : Nat, Reps K mg H (List.replicate n xs).flatten (List.replicate n vs).flatten
  | 0 => rfl
  | n + 1 => by rw [List.replicate_succ, List.replicate_succ, List.flatten_cons, List.flatten_cons]; exact r.app (Reps.rep r n)
theorem mulR_ok : DOp X (binaryOp .Mult) mulR := by
  refine OpR.imp (OpR.or op_mul (OpR.or op_mulW (OpR.or op_repT (OpR.or op_rep1 op_rep0)))) fun x y H Q ⟨d, e, m, P, r1, r2, h, t, q⟩ => ?_
  unfold mulR at t
  split at t
  · cases r1; cases r2
    rcases t.1 with z | z | z
    · exact .inl ⟨_, _, rfl, rfl, .inl z, q.here h t.2 rfl⟩
    · exact .inl ⟨_, _, rfl, rfl, .inr z, q.here h t.2 rfl⟩
    · exact .inr (.inl ⟨_, _, rfl, rfl, z, q.here h t.2 rfl⟩)
  · rename_i xs k
    obtain ⟨a, vs, rfl, s1, q1⟩ := r1
    cases r2
    obtain ⟨h1, h2, h4, p⟩ := t
    by_cases c1 : vs = [] ∨ k = 1
    · refine .inr (.inr (.inr (.inl ⟨a, _, vs, rfl, rfl, s1, h1, h2, c1, ?_⟩)))
      have e : (List.replicate k.toNat xs).flatten = xs := by
        rcases c1 with z | z
        · subst z
          have : xs = [] := List.eq_nil_of_length_eq_zero (by rw [← q1.len]; rfl)
          subst this
          simp
        · subst z
          simp
      rw [e] at p
      exact q.here h p ⟨a, vs, rfl, s1, q1⟩
    · obtain ⟨n1, n2⟩ := not_or.mp c1
      by_cases c2 : k ≤ 0
      · refine .inr (.inr (.inr (.inr ⟨a, _, vs, rfl, rfl, s1, h1, c2, n1, ?_⟩)))
        have e : k.toNat = 0 := by omega
        rw [e] at p
        exact q.tup h p Reps.nil
      · exact .inr (.inr (.inl ⟨a, _, vs, rfl, rfl, s1, n1, by omega, h2, by rw [q1.len]; exact h4, q.tup h p (Reps.rep q1 _)⟩))
  · exact t.elim
def negR (d : D) (m : AH) (Q : DQ) : Prop := match d with
  | .int i => Q (.int (-i)) m
  | _ => False
theorem negR_ok : DUn X (unaryOp .USub) negR := by
  intro pins s σ H x v Q I rx ⟨d, m, P, r1, h, t, q⟩
  unfold negR at t
  split at t
  · cases r1; exact un_neg pins s σ H _ v Q I rx ⟨_, rfl, q.here h t rfl⟩
  · exact t.elim

/-! ### order of ints, texts -/
def ordR (p : Int → Int → Bool) (d e : D) (m : AH) (Q : DQ) : Prop := match d, e with
  | .int i, .int j => Q (.bl (p i j)) m
  | _, _ => False
theorem ordR_ok {op : CmpOp} {p : Int → Int → Bool} (h : OpR X (compareOp op) (rI0 fun i j => .bl (p i j))) : DOp X (compareOp op) (ordR p) := by
  refine OpR.imp h fun x y H Q ⟨d, e, m, P, r1, r2, h, t, q⟩ => ?_
  unfold ordR at t
  split at t
  · cases r1; cases r2; exact ⟨_, _, rfl, rfl, q.here h t rfl⟩
  · exact t.elim
abbrev ltI := ordR fun i j => decide (i < j)
abbrev leR := ordR fun i j => decide (i ≤ j)
abbrev gtR := ordR fun i j => decide (j < i)
abbrev geR := ordR fun i j => decide (j ≤ i)
theorem ltI_ok : DOp X (compareOp .Lt) ltI := ordR_ok op_lt
theorem leR_ok : DOp X (compareOp .LtE) leR := ordR_ok op_le
theorem gtR_ok : DOp X (compareOp .Gt) gtR := ordR_ok op_gt
theorem geR_ok : DOp X (compareOp .GtE) geR := ordR_ok op_ge

/-! ### ==, != -/
mutual
/-- as data -/
def toPy : D → Option PyData
  | .non => some .none
  | .bl b => some (.bool b)
  | .int i => some (.int i)
  | .str x => some (.str x)
  | .tup xs => (toPys xs).map .tuple
  | .lst xs => (toPys xs).map .list
  | _ => none
def toPys : List D → Option (List PyData)
  | [] => some []
  | d :: ds => match toPy d, toPys ds with
    | some x, some xs => some (x :: xs)
    | _, _ => none
end
/-- as data, by the heap -/
def pyAt (m : AH) : D → Option PyData
  | .ref a => match m a with
    | some (.lst xs) => (toPys xs).map .list
    | _ => none
  | d => toPy d
section
variable {K : PySem.W.Frag} {mg : Str → Option Value} {H : Hp}
mutual
theorem toPy_dp : ∀ {d : D} {v : V} {x : PyData}, Rep K mg H d v → toPy d = some x → Dp K H v x
  | .non, _, _, r, e => by cases r; cases e; exact .non
  | .bl _, _, _, r, e => by cases r; cases e; exact .bl _
  | .int _, _, _, r, e => by cases r; cases e; exact .int _
  | .str _, _, _, r, e => by cases r; cases e; exact .str _
  | .ref _, _, _, r, e => by cases e
  | .ty _, _, _, r, e => by cases e
  | .fn _, _, _, r, e => by cases e
  | .rdl _, _, _, r, e => by cases e
  | .tup xs, _, _, r, e => by
    obtain ⟨a, vs, rfl, s1, q1⟩ := r
    cases z : toPys xs with
    | none => simp only [toPy, z, Option.map_none] at e; cases e
    | some ys => simp only [toPy, z, Option.map_some] at e; cases e; exact .tup s1 (toPys_dp q1 z)
  | .lst xs, _, _, r, e => by
    obtain ⟨a, vs, rfl, s1, q1⟩ := r
    cases z : toPys xs with
    | none => simp only [toPy, z, Option.map_none] at e; cases e
    | some ys => simp only [toPy, z, Option.map_some] at e; cases e; exact .lst s1.sql (toPys_dp q1 z)
theorem toPys_dp : ∀ {ds : List D} {vs : List V} {xs : List PyData}, Reps K mg H ds vs → toPys ds = some xs → DpAll K H vs xs
  | [], _, _, r, e => by rw [show _ = [] from r]; cases e; exact .nil
  | d :: ds, _, _, ⟨v, r, h1, h2, h3⟩, e => by
    rw [h1]
    cases z : toPy d with
    | none => simp only [toPys, z] at e; cases e
    | some y =>
      cases z2 : toPys ds with
      | none => simp only [toPys, z, z2] at e; cases e
      | some ys => simp only [toPys, z, z2] at e; cases e; exact .cons (toPy_dp h2 z) (toPys_dp h3 z2)
end
theorem pyAt_dp {m : AH} {d : D} {v : V} {x : PyData} (h : HRep K mg H m) (r : Rep K mg H d v) (e : pyAt m d = some x) : Dp K H v x := by
  cases d with
  | ref a =>
    cases r
    replace e : (match m a with | some (.lst xs) => (toPys xs).map .list | _ => none) = some x := e
    cases q : m a with
    | none => rw [q] at e; cases e
    | some o =>
      rw [q] at e
      cases o with
      | lst xs =>
        obtain ⟨vs, h1, h2⟩ := h a _ q
        cases z : toPys xs with
        | none => simp only [z, Option.map_none] at e; cases e
        | some ys => simp only [z, Option.map_some] at e; cases e; exact .lst (SqL.of h1) (toPys_dp h2 z)
      | _ => cases e
  | _ => exact toPy_dp r e
end
mutual
/-- equality of data -/
def eqD : D → D → Bool
  | .non, e => match e with | .non => true | _ => false
  | .bl a, e => match e with | .bl b => a == b | .int j => (if a then 1 else 0) == j | _ => false
  | .int i, e => match e with | .bl b => i == (if b then 1 else 0) | .int j => i == j | _ => false
  | .str x, e => match e with | .str y => x == y | _ => false
  | .tup xs, e => match e with | .tup ys => eqDs xs ys | _ => false
  | .lst xs, e => match e with | .lst ys => eqDs xs ys | _ => false
  | _, _ => false
def eqDs : List D → List D → Bool
  | [], ys => match ys with | [] => true | _ => false
  | x :: xs, ys => match ys with | [] => false | y :: r => eqD x y && eqDs xs r
end
mutual
/-- data that may be compared: its texts are texts -/
def lay : D → Bool
  | .non => true
  | .bl _ => true
  | .int _ => true
  | .str x => PyData.strOk x
  | .tup xs => lays xs
  | .lst xs => lays xs
  | _ => false
def lays : List D → Bool
  | [] => true
  | d :: ds => lay d && lays ds
end
mutual
def dep : D → Nat
  | .tup xs => deps xs + 1
  | .lst xs => deps xs + 1
  | _ => 0
def deps : List D → Nat
  | [] => 0
  | d :: ds => max (dep d) (deps ds)
end
/-- a list by what it holds -/
def val (m : AH) (d : D) : D := match d with
  | .ref a => match m a with
    | some (.lst xs) => .lst xs
    | _ => .ref a
  | d => d
mutual
theorem lay_py : ∀ d : D, lay d = true → ∃ x, toPy d = some x ∧ x.canLay0 = true ∧ x.depth = dep d
  | .non, _ => ⟨_, rfl, rfl, rfl⟩
  | .bl _, _ => ⟨_, rfl, rfl, rfl⟩
  | .int _, _ => ⟨_, rfl, rfl, rfl⟩
  | .str x, h => ⟨_, rfl, by simpa [lay, PyData.canLay0] using h, rfl⟩
  | .ref _, h => by simp [lay] at h
  | .ty _, h => by simp [lay] at h
  | .fn _, h => by simp [lay] at h
  | .rdl _, h => by simp [lay] at h
  | .tup xs, h => by
    obtain ⟨ys, e, l, d⟩ := lays_py xs (by simpa [lay] using h)
    exact ⟨.tuple ys, by simp [toPy, e], by simpa [PyData.canLay0] using l, by simp [PyData.depth, dep, d]⟩
  | .lst xs, h => by
    obtain ⟨ys, e, l, d⟩ := lays_py xs (by simpa [lay] using h)
    exact ⟨.list ys, by simp [toPy, e], by simpa [PyData.canLay0] using l, by simp [PyData.depth, dep, d]⟩
theorem lays_py : ∀ ds : List D, lays ds = true → ∃ xs, toPys ds = some xs ∧ PyData.canLayAll0 xs = true ∧ PyData.depthAll xs = deps ds
  | [], _ => ⟨[], rfl, rfl, rfl⟩
  | d :: ds, h => by
    have h' : lay d = true ∧ lays ds = true := by simpa [lays] using h
    obtain ⟨x, e, l, q⟩ := lay_py d h'.1
    obtain ⟨xs, e2, l2, q2⟩ := lays_py ds h'.2
    exact ⟨x :: xs, by simp [toPys, e, e2], by simp [PyData.canLayAll0, l, l2], by simp [PyData.depthAll, deps, q, q2]⟩
end
mutual
theorem eqD_py : ∀ (d e : D) (x y : PyData), toPy d = some x → toPy e = some y → PyData.eqv x y = eqD d e
  | .non, e, x, y, h1, h2 => by cases h1; cases e <;> first | (cases h2 <;> simp [PyData.eqv, eqD]) | (simp [toPy] at h2; obtain ⟨_, _, rfl⟩ := h2; simp [PyData.eqv, eqD])
  | .bl b, e, x, y, h1, h2 => by cases h1; cases e <;> first | (cases h2 <;> simp [PyData.eqv, eqD]) | (simp [toPy] at h2; obtain ⟨_, _, rfl⟩ := h2; simp [PyData.eqv, eqD])
  | .int i, e, x, y, h1, h2 => by cases h1; cases e <;> first | (cases h2 <;> simp [PyData.eqv, eqD]) | (simp [toPy] at h2; obtain ⟨_, _, rfl⟩ := h2; simp [PyData.eqv, eqD])
  | .str z, e, x, y, h1, h2 => by cases h1; cases e <;> first | (cases h2 <;> simp [PyData.eqv, eqD]) | (simp [toPy] at h2; obtain ⟨_, _, rfl⟩ := h2; simp [PyData.eqv, eqD])
  | .ref _, _, _, _, h1, _ => by cases h1
  | .ty _, _, _, _, h1, _ => by cases h1
  | .fn _, _, _, _, h1, _ => by cases h1
  | .rdl _, _, _, _, h1, _ => by cases h1
  | .tup ds, e, x, y, h1, h2 => by
    simp [toPy] at h1
    obtain ⟨xs, e1, rfl⟩ := h1
    cases e with
    | tup es =>
      simp [toPy] at h2
      obtain ⟨ys, e2, rfl⟩ := h2
      simp only [PyData.eqv, eqD]
      exact eqDs_py ds es xs ys e1 e2
    | _ => first | (cases h2 <;> simp [PyData.eqv, eqD]) | (simp [toPy] at h2; obtain ⟨_, _, rfl⟩ := h2; simp [PyData.eqv, eqD])
  | .lst ds, e, x, y, h1, h2 => by
    simp [toPy] at h1
    obtain ⟨xs, e1, rfl⟩ := h1
    cases e with
    | lst es =>
      simp [toPy] at h2
      obtain ⟨ys, e2, rfl⟩ := h2
      simp only [PyData.eqv, eqD]
      exact eqDs_py ds es xs ys e1 e2
    | _ => first | (cases h2 <;> simp [PyData.eqv, eqD]) | (simp [toPy] at h2; obtain ⟨_, _, rfl⟩ := h2; simp [PyData.eqv, eqD])
theorem eqDs_py : ∀ (ds es : List D) (xs ys : List PyData), toPys ds = some xs → toPys es = some ys → PyData.eqvAll xs ys = eqDs ds es
  | [], [], _, _, h1, h2 => by cases h1; cases h2; rfl
  | [], e :: es, _, _, h1, h2 => by
    cases h1
    simp only [toPys] at h2
    split at h2
    · cases h2; simp [PyData.eqvAll, eqDs]
    · cases h2
  | d :: ds, [], _, _, h1, h2 => by
    cases h2
    simp only [toPys] at h1
    split at h1
    · cases h1; simp [PyData.eqvAll, eqDs]
    · cases h1
  | d :: ds, e :: es, _, _, h1, h2 => by
    simp only [toPys] at h1 h2
    split at h1
    · rename_i x xs a1 a2
      cases h1
      split at h2
      · rename_i y ys b1 b2
        cases h2
        simp only [PyData.eqvAll, eqDs]
        rw [eqD_py d e x y a1 b1, eqDs_py ds es xs ys a2 b2]
      · cases h2
    · cases h1
end
theorem pyAt_val {m : AH} {d : D} (h : lay (val m d) = true) : pyAt m d = toPy (val m d) := by
  cases d with
  | ref a =>
    unfold val pyAt at *
    dsimp only at h ⊢
    cases q : m a with
    | none => rw [q] at h; simp [lay] at h
    | some o =>
      rw [q] at h
      cases o with
      | lst xs => simp [toPy]
      | _ => simp [lay] at h
  | _ => rfl
theorem val_py {K : PySem.W.Frag} {mg : Str → Option Value} {H : Hp} {m : AH} {d : D} {v : V} (h : HRep K mg H m) (r : Rep K mg H d v) (l : lay (val m d) = true) : ∃ x, toPy (val m d) = some x ∧ Dp K H v x ∧ x.canLay0 = true ∧ x.depth = dep (val m d) := by
  obtain ⟨x, e, c, q⟩ := lay_py _ l
  exact ⟨x, e, pyAt_dp h r ((pyAt_val l).trans e), c, q⟩
def eqR (d e : D) (m : AH) (Q : DQ) : Prop := lay (val m d) = true ∧ lay (val m e) = true ∧ min (dep (val m d)) (dep (val m e)) ≤ 64 ∧ Q (.bl (eqD (val m d) (val m e))) m
def neR (d e : D) (m : AH) (Q : DQ) : Prop := lay (val m d) = true ∧ lay (val m e) = true ∧ min (dep (val m d)) (dep (val m e)) ≤ 64 ∧ Q (.bl (!eqD (val m d) (val m e))) m
theorem eqR_ok (hu : X.A.units + 64 < cLine) : DOp X (compareOp .Eq) eqR := by
  rintro pins s σ H x y v u Q I rx ry ⟨d, e, m, P, r1, r2, h, ⟨l1, l2, hz, p⟩, q⟩
  obtain ⟨a, a1, a2, a3, a4⟩ := val_py h r1 l1
  obtain ⟨b, b1, b2, b3, b4⟩ := val_py h r2 l2
  obtain ⟨as, c1⟩ := Dp.reads I a x v a2 rx
  obtain ⟨bs, c2⟩ := Dp.reads I b y u b2 ry
  refine SeqAt.compareEq_reads c1 c2 a3 b3 (by rw [a4, b4]; omega) ⟨.bl _, H, I, rfl, ?_⟩
  rw [eqD_py _ _ _ _ a1 b1]
  exact q.here h p rfl
theorem neR_ok (hu : X.A.units + 64 < cLine) : DOp X (compareOp .NotEq) neR := by
  rintro pins s σ H x y v u Q I rx ry ⟨d, e, m, P, r1, r2, h, ⟨l1, l2, hz, p⟩, q⟩
  obtain ⟨a, a1, a2, a3, a4⟩ := val_py h r1 l1
  obtain ⟨b, b1, b2, b3, b4⟩ := val_py h r2 l2
  obtain ⟨as, c1⟩ := Dp.reads I a x v a2 rx
  obtain ⟨bs, c2⟩ := Dp.reads I b y u b2 ry
  refine SeqAt.compareNe_reads c1 c2 a3 b3 (by rw [a4, b4]; omega) ⟨.bl _, H, I, rfl, ?_⟩
  rw [eqD_py _ _ _ _ a1 b1]
  exact q.here h p rfl
/-- is, is not: None on the right, or two bools -/
def isR (d e : D) (m : AH) (Q : DQ) : Prop := match d, e with
  | .bl a, .bl b => Q (.bl (decide (a = b))) m
  | .non, .non => Q (.bl true) m
  | .bl _, .non => Q (.bl false) m
  | .int _, .non => Q (.bl false) m
  | .str _, .non => Q (.bl false) m
  | .tup _, .non => Q (.bl false) m
  | .lst _, .non => Q (.bl false) m
  | .ref _, .non => Q (.bl false) m
  | _, _ => False
def isNotR (d e : D) (m : AH) (Q : DQ) : Prop := isR d e m fun z m' => ∃ b, z = .bl b ∧ Q (.bl (!b)) m'
theorem isR_cases {d e : D} {m : AH} {Q : DQ} (t : isR d e m Q) : (∃ a b, d = .bl a ∧ e = .bl b ∧ Q (.bl (decide (a = b))) m) ∨ (e = .non ∧ ((d = .non ∧ Q (.bl true) m) ∨ (d ≠ .non ∧ (∀ n, d ≠ .ty n) ∧ Q (.bl false) m))) := by
  unfold isR at t
  split at t <;> first
    | exact .inl ⟨_, _, rfl, rfl, t⟩
    | exact .inr ⟨rfl, .inl ⟨rfl, t⟩⟩
    | exact .inr ⟨rfl, .inr ⟨(fun z => nomatch z), (fun _ z => nomatch z), t⟩⟩
    | exact t.elim
theorem Rep.not_non {K : PySem.W.Frag} {mg : Str → Option Value} {H : Hp} {d : D} {v : V} (r : Rep K mg H d v) (n : d ≠ .non) : v ≠ .non := by
  cases d with
  | non => exact absurd rfl n
  | bl _ => cases r; exact fun z => nomatch z
  | int _ => cases r; exact fun z => nomatch z
  | str _ => cases r; exact fun z => nomatch z
  | ref _ => cases r; exact fun z => nomatch z
  | ty _ => cases r; exact fun z => nomatch z
  | fn _ => obtain ⟨a, rfl, _⟩ := r; exact fun z => nomatch z
  | rdl _ => obtain ⟨a, _, rfl, _⟩ := r; exact fun z => nomatch z
  | tup _ => obtain ⟨a, _, rfl, _⟩ := r; exact fun z => nomatch z
  | lst _ => obtain ⟨a, _, rfl, _⟩ := r; exact fun z => nomatch z
theorem isR_ok : DOp X (compareOp .Is) isR := by
  refine OpR.imp (OpR.or op_isBl op_isN) fun x y H Q ⟨d, e, m, P, r1, r2, h, t, q⟩ => ?_
  rcases isR_cases t with ⟨a, b, rfl, rfl, p⟩ | ⟨rfl, ⟨rfl, p⟩ | ⟨n, _, p⟩⟩
  · cases r1; cases r2; exact .inl ⟨_, _, rfl, rfl, q.here h p rfl⟩
  · cases r1; cases r2; exact .inr ⟨rfl, q.here h p rfl⟩
  · cases r2; exact .inr ⟨rfl, by rw [decide_eq_false (r1.not_non n)]; exact q.here h p rfl⟩
theorem isNotR_ok : DOp X (compareOp .IsNot) isNotR := by
  refine OpR.imp (OpR.or op_notBl op_notN) fun x y H Q ⟨d, e, m, P, r1, r2, h, t, q⟩ => ?_
  rcases isR_cases t with ⟨a, b, rfl, rfl, ⟨k, ek, p⟩⟩ | ⟨rfl, ⟨rfl, ⟨k, ek, p⟩⟩ | ⟨n, _, ⟨k, ek, p⟩⟩⟩
  · cases r1; cases r2; cases ek; exact .inl ⟨_, _, rfl, rfl, q.here h p rfl⟩
  · cases r1; cases r2; cases ek; exact .inr ⟨rfl, q.here h p rfl⟩
  · cases r2; cases ek; exact .inr ⟨rfl, by rw [decide_eq_false (r1.not_non n)]; exact q.here h p rfl⟩
end
end L2.AP
set_option Elab.async false
set_option linter.all false
set_option maxRecDepth 100000
set_option maxHeartbeats 2000000
/-! AP4: subscripts, slices, built-ins, methods of lists. -/
namespace L2.AP
open PySem PySem.Spec PyProof.Rows

section
variable {K : PySem.W.Frag} {mg : Str → Option Value} {H : Hp}
theorem Reps.atI {ds : List D} {vs : List V} {i : Int} {d : D} (r : Reps K mg H ds vs) (e : L2.atI ds i = some d) : ∃ v, L2.atI vs i = some v ∧ Rep K mg H d v := by
  unfold L2.atI at e ⊢
  rw [r.len]
  cases q : ixN ds.length i with
  | none => rw [q] at e; cases e
  | some j =>
    rw [q] at e
    exact Reps.get r e
end
theorem IxR.imp {X : Cx} {r r' : R2} (h : IxR X r) (i : ∀ x y H Q, r' x y H Q → r x y H Q) : IxR X r' := fun va sl pins s σ H x y v u Q I rx ry q => h va sl pins s σ H x y v u Q I rx ry (i _ _ _ _ q)
/-- xs[i], s[i] -/
def ixR (d e : D) (m : AH) (Q : DQ) : Prop := match e with
  | .int k => (∃ xs x, asQ m d = some xs ∧ L2.atI xs k = some x ∧ Q x m) ∨ (∃ z c, d = .str z ∧ z.length ≤ sizeLine ∧ L2.atI z.cps.toList k = some c ∧ Q (.str ⟨#[c]⟩) m)
  | _ => False
section
variable {X : Cx} {a b : Expr} {ta tb : DTE} {pos : Pos}
theorem ixR_ok : IxR X (lift2 X.K X.mg ixR) := by
  refine IxR.imp (IxR.or ix_list (IxR.or ix_tup ix_str)) fun x y H Q ⟨d, e, m, P, r1, r2, h, t, q⟩ => ?_
  unfold ixR at t
  split at t
  · cases r2
    rcases t with ⟨xs, x, e1, e2, p⟩ | ⟨z, c, rfl, hz, e2, p⟩
    · obtain ⟨a, vs, rfl, s1, q1⟩ := asQ_rep h r1 e1
      obtain ⟨v, e3, rv⟩ := q1.atI e2
      rcases s1 with s1 | s1
      · exact .inl ⟨a, vs, _, v, rfl, rfl, s1, e3, q.here h p rv⟩
      · exact .inr (.inl ⟨a, vs, _, v, rfl, rfl, s1, e3, q.here h p rv⟩)
    · cases r1
      exact .inr (.inr ⟨z, _, c, rfl, rfl, hz, e2, q.here h p rfl⟩)
  · exact t.elim
theorem de_ix (ha : DE X a ta) (hb : DE X b tb) (hs : PlainIx b) : DE X (.Subscript a b pos) (dOp ixR ta tb) :=
  ⟨fun W H0 tk => PE.imp (pe_ix ixR_ok (ha.run W H0 tk) (hb.run W H0 tk) hs) fun _ _ _ h => lift_op h⟩
end

/-! ### slices -/
def cut {α : Type} (xs : List α) (lo hi : Option Int) : List α := (xs.drop (HT.sIx xs.length 0 lo)).take (HT.sIx xs.length xs.length hi - HT.sIx xs.length 0 lo)
theorem Reps.cut {K : PySem.W.Frag} {mg : Str → Option Value} {H : Hp} {ds : List D} {vs : List V} (r : Reps K mg H ds vs) (lo hi : Option Int) : Reps K mg H (AP.cut ds lo hi) (cutV vs lo hi) := by
  unfold AP.cut cutV
  rw [r.len]
  exact (r.drop _).take _
theorem cut_all {α : Type} (xs : List α) (lo hi : Option Int) (h1 : HT.sIx xs.length 0 lo = 0) (h2 : HT.sIx xs.length xs.length hi = xs.length) : AP.cut xs lo hi = xs := by
  unfold AP.cut
  rw [h1, h2, List.drop_zero, Nat.sub_zero, List.take_length]
theorem SlR.imp {X : Cx} {r r' : V → Option Int → Option Int → Hp → VK → Prop} (h : SlR X r) (i : ∀ x lo hi H Q, r' x lo hi H Q → r x lo hi H Q) : SlR X r' :=
  fun pins s σ H x v vl vu lo hi sl Q I rx hs pl pu q => h pins s σ H x v vl vu lo hi sl Q I rx hs pl pu (i _ _ _ _ _ q)
theorem SlR.frz {X : Cx} {r : V → Option Int → Option Int → Hp → VK → Prop} (h : SlR X r) : SlR X (fun x lo hi H Q => r x lo hi H (Frz Q)) := fun pins s σ H x v vl vu lo hi sl Q I rx hs pl pu q => by
  obtain ⟨T, id, h1, h2, h3⟩ := h pins s σ H x v vl vu lo hi sl _ I rx hs pl pu q
  exact ⟨T, id, h1, h2, thn h3 fun _ _ z => ep_frz z⟩
/-- d[lo:hi]; a list's slice changes later (mu) or not -/
def slR (mu : Bool) (d : D) (lo hi : Option Int) (m : AH) (Q : DQ) : Prop := match d with
  | .tup xs => Q (.tup (AP.cut xs lo hi)) m
  | .str z => z.length ≤ sizeLine ∧ Q (.str (cutS z lo hi)) m
  | .rdl xs => if mu = true then ∀ p, m p = none → Q (.ref p) (put m p (.lst (AP.cut xs lo hi))) else Q (.lst (AP.cut xs lo hi)) m
  | d => ∃ xs, asL m d = some xs ∧ if mu = true then ∀ p, m p = none → Q (.ref p) (put m p (.lst (AP.cut xs lo hi))) else Q (.lst (AP.cut xs lo hi)) m
abbrev DTO := DW → Dl → AH → (Option Int → AH → Prop) → Prop
def dNoPart : DTO := fun _ _ m Q => Q none m
def dPart (t : DTE) : DTO := fun W δ m Q => t W δ m fun d m1 => ∃ i, d = .int i ∧ Q (some i) m1
def liftO (K : PySem.W.Frag) (mg : Str → Option Value) (t : DTO) (W : DW) (H0 : Hp) : TO := fun σ H Q => Ext H0 H ∧ ∃ δ m P, ERep K mg H σ δ ∧ HRep K mg H m ∧ t W δ m P ∧ ∀ o m', P o m' → ∀ H', Ext H H' → HRep K mg H' m' → Q o H'
structure DO (X : Cx) (e : Option Expr) (t : DTO) : Prop where
  run : ∀ W H0, Takes X (liftW X.K X.mg W H0) → PO X e (liftO X.K X.mg t W H0)
theorem PO.imp {X : Cx} {e : Option Expr} {t t' : TO} (h : PO X e t) (i : ∀ σ H Q, t' σ H Q → t σ H Q) : PO X e t' := ⟨fun pins s σ H Q I q => h.run pins s σ H Q I (i σ H Q q)⟩
def dSl (mu : Bool) (t : DTE) (tl th : DTO) : DTE := fun W δ m Q => t W δ m fun d m1 => tl W δ m1 fun lo m2 => th W δ m2 fun hi m3 => slR mu d lo hi m3 Q
section
variable {X : Cx} {e : Expr} {te : DTE} {lo hi : Option Expr} {tl th : DTO} {pos p2 : Pos}
theorem do_none : DO X none dNoPart := ⟨fun W H0 tk => PO.imp po_none fun σ H Q ⟨x0, δ, m, P, e, h, t, q⟩ => q _ _ t H (Ext.refl H) h⟩
theorem do_some (h : DE X e te) : DO X (some e) (dPart te) := ⟨fun W H0 tk => PO.imp (po_some (h.run W H0 tk)) fun σ H Q ⟨x0, δ, m, P, e, h, t, q⟩ => ⟨x0, δ, m, _, e, h, t, fun d m1 ⟨i, ei, p⟩ v H1 x r h1 => by
  subst ei; exact ⟨i, r, q _ _ p H1 x h1⟩⟩⟩
theorem slR_ok (mu : Bool) : SlR X (fun x lo hi H Q => ∃ d m P, Rep X.K X.mg H d x ∧ HRep X.K X.mg H m ∧ slR mu d lo hi m P ∧ LQ X.K X.mg H P Q) := by
  refine SlR.imp (SlR.or sl_tupA (SlR.or sl_str (SlR.or sl_list (SlR.frz sl_list)))) fun x lo hi H Q ⟨d, m, P, r1, h, t, q⟩ => ?_
  unfold slR at t
  split at t
  · obtain ⟨a, vs, rfl, s1, q1⟩ := r1
    refine .inl ⟨a, vs, rfl, s1, fun ⟨e1, e2⟩ => ?_, fun _ => q.tup h t (q1.cut lo hi)⟩
    rw [q1.len] at e1 e2
    rw [cut_all _ _ _ e1 e2] at t
    exact q.here h t ⟨a, vs, rfl, s1, q1⟩
  · cases r1
    exact .inr (.inl ⟨_, rfl, t.1, q.here h t.2 rfl⟩)
  · obtain ⟨a, vs, rfl, s1, q1⟩ := r1
    cases mu with
    | true => rw [if_pos rfl] at t; exact .inr (.inr (.inl ⟨a, vs, rfl, s1.sql, q.lst h t (q1.cut lo hi)⟩))
    | false => rw [if_neg Bool.false_ne_true] at t; exact .inr (.inr (.inr ⟨a, vs, rfl, s1.sql, q.frz h t (q1.cut lo hi)⟩))
  · obtain ⟨xs, e1, t⟩ := t
    obtain ⟨a, vs, rfl, s1, q1⟩ := asL_rep h r1 e1
    cases mu with
    | true => rw [if_pos rfl] at t; exact .inr (.inr (.inl ⟨a, vs, rfl, .inl s1, q.lst h t (q1.cut lo hi)⟩))
    | false => rw [if_neg Bool.false_ne_true] at t; exact .inr (.inr (.inr ⟨a, vs, rfl, .inl s1, q.frz h t (q1.cut lo hi)⟩))
theorem de_sl (mu : Bool) (he : DE X e te) (hl : DO X lo tl) (hu : DO X hi th) : DE X (.Subscript e (.Slice lo hi none p2) pos) (dSl mu te tl th) :=
  ⟨fun W H0 tk => PE.imp (pe_slice (slR_ok mu) (he.run W H0 tk) (hl.run W H0 tk) (hu.run W H0 tk)) fun σ H Q ⟨x0, δ, m, P, e, h, t, q⟩ =>
    ⟨x0, δ, m, _, e, h, t, fun d m1 t1 v H1 x1 r1 h1 => ⟨x0.trans x1, δ, m1, _, e.ext x1, h1, t1, fun lo m2 t2 H2 x2 h2 => ⟨x0.trans (x1.trans x2), δ, m2, _, e.ext (x1.trans x2), h2, t2, fun hi m3 t3 H3 x3 h3 =>
      ⟨d, m3, P, r1.ext (x2.trans x3), h3, t3, q.ext ((x1.trans x2).trans x3)⟩⟩⟩⟩⟩
/-- xs[::-1] of a list -/
def dRev (t : DTE) : DTE := fun W δ m Q => t W δ m fun d m1 => ∃ xs, asL m1 d = some xs ∧ Q (.lst xs.reverse) m1
theorem de_rev {k : Nat} {p1 p2 p3 : Pos} (he : DE X e te) : DE X (.Subscript e (.Slice none none (some (.UnaryOp .USub (.Constant (.int 1) k p1) p2)) p3) pos) (dRev te) :=
  ⟨fun W H0 tk => PE.imp (PE.frz (pe_revL (he.run W H0 tk))) fun σ H Q ⟨x0, δ, m, P, e, h, t, q⟩ => ⟨x0, δ, m, _, e, h, t, fun d m1 ⟨xs, e1, p⟩ v H1 x1 r1 h1 => by
    obtain ⟨a, vs, rfl, s1, q1⟩ := asL_rep h1 r1 e1
    exact ⟨a, vs, rfl, .inl s1, (q.ext x1).frz h1 p q1.rev⟩⟩⟩
end

/-! ### calls of built-ins -/
def dCall (r : List D → AH → DQ → Prop) (t : DTA) : DTE := fun W δ m Q => t W δ m fun ds m1 => r ds m1 Q
section
variable {X : Cx} {e : Expr} {es : List Expr} {t : DTA} {p pos : Pos} {x : Str} {id T : String} {r : List D → AH → DQ → Prop}
theorem lift_call {K : PySem.W.Frag} {mg : Str → Option Value} {W : DW} {H0 : Hp} {σ : St} {H : Hp} {Q : VK} (h : liftE K mg (dCall r t) W H0 σ H Q) : tCB (liftC K mg r) (liftA K mg t W H0) σ H Q := by
  obtain ⟨x0, δ, m, P, e, h, t, q⟩ := h
  exact ⟨x0, δ, m, _, e, h, t, fun ds m1 t1 vs H1 x1 r1 h1 => ⟨ds, m1, P, r1, h1, t1, q.ext x1⟩⟩
theorem de_callB (hc : DCallR X (.builtin id) r) (hg : Gl X x) (hm : X.mg x = none) (hv : bootBuiltins x = some (.builtin id)) (ha : DA X (e :: es) t) (hn : x ≠ "__name__") (hdb : (x == ("__debug__" : Str)) = false)
    (he : starEach (e :: es) X.env = (false, eval e X.env) :: starEach es X.env) (hpl : (backTo pos (starEach es X.env)).any (·.1) = false) : DE X (.Call (.Name x p) (e :: es) [] pos) (dCall r t) :=
  ⟨fun W H0 tk => PE.imp (pe_callB hc hg hm hv (ha.run W H0 tk) hn hdb he hpl) fun _ _ _ h => lift_call h⟩
theorem de_callTy (hc : DCallR X (.type T) r) (hg : Gl X x) (hm : X.mg x = none) (hv : bootBuiltins x = some (.type T)) (ha : DA X (e :: es) t) (hn : x ≠ "__name__") (hdb : (x == ("__debug__" : Str)) = false)
    (he : starEach (e :: es) X.env = (false, eval e X.env) :: starEach es X.env) (hpl : (backTo pos (starEach es X.env)).any (·.1) = false) : DE X (.Call (.Name x p) (e :: es) [] pos) (dCall r t) :=
  ⟨fun W H0 tk => PE.imp (pe_callTy hc hg hm hv (ha.run W H0 tk) hn hdb he hpl) fun _ _ _ h => lift_call h⟩
end
section
variable {X : Cx}
/-- len -/
def lenR (ds : List D) (m : AH) (Q : DQ) : Prop := match ds with
  | [.str z] => z.length ≤ sizeLine ∧ Q (.int z.length) m
  | [d] => ∃ xs, asQ m d = some xs ∧ Q (.int xs.length) m
  | _ => False
theorem lenR_ok : DCallR X (.builtin "len") lenR := by
  refine CallR.imp (CallR.or call_len_seq call_len_str) fun xs H Q ⟨ds, m, P, r, h, t, q⟩ => ?_
  unfold lenR at t
  split at t
  · obtain ⟨v, r', rfl, r1, rfl⟩ := r
    cases r1
    exact .inr ⟨_, rfl, t.1, q.here h t.2 rfl⟩
  · obtain ⟨v, r', rfl, r1, rfl⟩ := r
    obtain ⟨xs, e1, p⟩ := t
    obtain ⟨a, vs, rfl, s1, q1⟩ := asQ_rep h r1 e1
    exact .inl ⟨a, vs, rfl, s1, by rw [q1.len]; exact q.here h p rfl⟩
  · exact t.elim
/-- list(xs) -/
def listR (mu : Bool) (ds : List D) (m : AH) (Q : DQ) : Prop := match ds with
  | [d] => ∃ xs, asQ m d = some xs ∧ if mu = true then ∀ p, m p = none → Q (.ref p) (put m p (.lst xs)) else Q (.lst xs) m
  | _ => False
theorem listR_ok (mu : Bool) : DCallR X (.type "list") (listR mu) := by
  refine CallR.imp (CallR.or call_list_of (CallR.frz call_list_of)) fun xs H Q ⟨ds, m, P, r, h, t, q⟩ => ?_
  unfold listR at t
  split at t
  · obtain ⟨v, r', rfl, r1, rfl⟩ := r
    obtain ⟨xs, e1, t⟩ := t
    obtain ⟨a, vs, rfl, s1, q1⟩ := asQ_rep h r1 e1
    cases mu with
    | true => rw [if_pos rfl] at t; exact .inl ⟨a, vs, rfl, s1, q.lst h t q1⟩
    | false => rw [if_neg Bool.false_ne_true] at t; exact .inr ⟨a, vs, rfl, s1, q.frz h t q1⟩
  · exact t.elim
/-- tuple(xs) -/
def tupleR (ds : List D) (m : AH) (Q : DQ) : Prop := match ds with
  | [d] => ∃ xs, asQ m d = some xs ∧ Q (.tup xs) m
  | _ => False
theorem tupleR_ok : DCallR X (.type "tuple") tupleR := by
  refine CallR.imp call_tuple_of fun xs H Q ⟨ds, m, P, r, h, t, q⟩ => ?_
  unfold tupleR at t
  split at t
  · obtain ⟨v, r', rfl, r1, rfl⟩ := r
    obtain ⟨xs, e1, t⟩ := t
    obtain ⟨a, vs, rfl, s1, q1⟩ := asQ_rep h r1 e1
    rcases s1 with s1 | s1
    · exact ⟨a, vs, rfl, .inl ⟨s1, q.tup h t q1⟩⟩
    · exact ⟨a, vs, rfl, .inr ⟨s1, q.here h t ⟨a, vs, rfl, s1, q1⟩⟩⟩
  · exact t.elim
theorem Reps.map_bl {K : PySem.W.Frag} {mg : Str → Option Value} {H : Hp} : ∀ {bs : List Bool} {vs : List V}, Reps K mg H (bs.map D.bl) vs → vs = bs.map V.bl
  | [], _, r => r
  | _ :: _, _, ⟨_, _, h1, h2, h3⟩ => by rw [h1, show _ = _ from h2, Reps.map_bl h3]; rfl
theorem Reps.map_int {K : PySem.W.Frag} {mg : Str → Option Value} {H : Hp} : ∀ {bs : List Int} {vs : List V}, Reps K mg H (bs.map D.int) vs → vs = bs.map V.int
  | [], _, r => r
  | _ :: _, _, ⟨_, _, h1, h2, h3⟩ => by rw [h1, show _ = _ from h2, Reps.map_int h3]; rfl
theorem Reps.map_str {K : PySem.W.Frag} {mg : Str → Option Value} {H : Hp} : ∀ {bs : List Str} {vs : List V}, Reps K mg H (bs.map D.str) vs → vs = bs.map V.str
  | [], _, r => r
  | _ :: _, _, ⟨_, _, h1, h2, h3⟩ => by rw [h1, show _ = _ from h2, Reps.map_str h3]; rfl
def allR (ds : List D) (m : AH) (Q : DQ) : Prop := match ds with
  | [d] => ∃ bs : List Bool, asL m d = some (bs.map D.bl) ∧ Q (.bl (bs.all id)) m
  | _ => False
theorem allR_ok (hc : X.calm = true) : DCallR X (.builtin "all") allR := by
  refine CallR.imp (cr_all hc) fun xs H Q ⟨ds, m, P, r, h, t, q⟩ => ?_
  unfold allR at t
  split at t
  · obtain ⟨v, r', rfl, r1, rfl⟩ := r
    obtain ⟨bs, e1, t⟩ := t
    obtain ⟨a, vs, rfl, s1, q1⟩ := asL_rep h r1 e1
    have e2 := q1.map_bl
    subst e2
    exact ⟨a, bs, rfl, .inl s1, q.here h t rfl⟩
  · exact t.elim
def anyR (ds : List D) (m : AH) (Q : DQ) : Prop := match ds with
  | [d] => ∃ bs : List Bool, asL m d = some (bs.map D.bl) ∧ Q (.bl (bs.any id)) m
  | _ => False
theorem anyR_ok (hc : X.calm = true) : DCallR X (.builtin "any") anyR := by
  refine CallR.imp (cr_any hc) fun xs H Q ⟨ds, m, P, r, h, t, q⟩ => ?_
  unfold anyR at t
  split at t
  · obtain ⟨v, r', rfl, r1, rfl⟩ := r
    obtain ⟨bs, e1, t⟩ := t
    obtain ⟨a, vs, rfl, s1, q1⟩ := asL_rep h r1 e1
    have e2 := q1.map_bl
    subst e2
    exact ⟨a, bs, rfl, .inl s1, q.here h t rfl⟩
  · exact t.elim
def sumR (ds : List D) (m : AH) (Q : DQ) : Prop := match ds with
  | [d] => ∃ ns : List Int, asL m d = some (ns.map D.int) ∧ Q (.int ns.sum) m
  | _ => False
theorem sumR_ok (hc : X.calm = true) : DCallR X (.builtin "sum") sumR := by
  refine CallR.imp (cr_sum hc) fun xs H Q ⟨ds, m, P, r, h, t, q⟩ => ?_
  unfold sumR at t
  split at t
  · obtain ⟨v, r', rfl, r1, rfl⟩ := r
    obtain ⟨bs, e1, t⟩ := t
    obtain ⟨a, vs, rfl, s1, q1⟩ := asL_rep h r1 e1
    have e2 := q1.map_int
    subst e2
    exact ⟨a, bs, rfl, .inl s1, q.here h t rfl⟩
  · exact t.elim
/-- min, max of a list of ints, of two ints -/
def minR (ds : List D) (m : AH) (Q : DQ) : Prop := match ds with
  | [.int i, .int j] => Q (.int (if j < i then j else i)) m
  | [d] => ∃ ns : List Int, asL m d = some (ns.map D.int) ∧ 0 < ns.length ∧ ∀ k, k ∈ ns → (∀ y, y ∈ ns → k ≤ y) → Q (.int k) m
  | _ => False
theorem minR_ok (hc : X.calm = true) : DCallR X (.builtin "min") minR := by
  refine CallR.imp (CallR.or (cr_min hc) (call_min2 hc)) fun xs H Q ⟨ds, m, P, r, h, t, q⟩ => ?_
  unfold minR at t
  split at t
  · obtain ⟨v, _, rfl, r1, v2, _, rfl, r2, rfl⟩ := r
    cases r1; cases r2
    exact .inr ⟨_, _, rfl, q.here h t rfl⟩
  · obtain ⟨v, r', rfl, r1, rfl⟩ := r
    obtain ⟨bs, e1, hl, t⟩ := t
    obtain ⟨a, vs, rfl, s1, q1⟩ := asL_rep h r1 e1
    have e2 := q1.map_int
    subst e2
    exact .inl ⟨a, bs, rfl, .inl s1, hl, fun k k1 k2 => q.here h (t k k1 k2) rfl⟩
  · exact t.elim
def maxR (ds : List D) (m : AH) (Q : DQ) : Prop := match ds with
  | [.int i, .int j] => Q (.int (if j > i then j else i)) m
  | [d] => ∃ ns : List Int, asL m d = some (ns.map D.int) ∧ 0 < ns.length ∧ ∀ k, k ∈ ns → (∀ y, y ∈ ns → y ≤ k) → Q (.int k) m
  | _ => False
theorem maxR_ok (hc : X.calm = true) : DCallR X (.builtin "max") maxR := by
  refine CallR.imp (CallR.or (cr_max hc) (call_max2 hc)) fun xs H Q ⟨ds, m, P, r, h, t, q⟩ => ?_
  unfold maxR at t
  split at t
  · obtain ⟨v, _, rfl, r1, v2, _, rfl, r2, rfl⟩ := r
    cases r1; cases r2
    exact .inr ⟨_, _, rfl, q.here h t rfl⟩
  · obtain ⟨v, r', rfl, r1, rfl⟩ := r
    obtain ⟨bs, e1, hl, t⟩ := t
    obtain ⟨a, vs, rfl, s1, q1⟩ := asL_rep h r1 e1
    have e2 := q1.map_int
    subst e2
    exact .inl ⟨a, bs, rfl, .inl s1, hl, fun k k1 k2 => q.here h (t k k1 k2) rfl⟩
  · exact t.elim
def absR (ds : List D) (m : AH) (Q : DQ) : Prop := match ds with
  | [.int i] => Q (.int (if i < 0 then -i else i)) m
  | _ => False
theorem absR_ok : DCallR X (.builtin "abs") absR := by
  refine CallR.imp call_abs fun xs H Q ⟨ds, m, P, r, h, t, q⟩ => ?_
  unfold absR at t
  split at t
  · obtain ⟨v, r', rfl, r1, rfl⟩ := r
    cases r1
    exact ⟨_, rfl, q.here h t rfl⟩
  · exact t.elim
def intR (ds : List D) (m : AH) (Q : DQ) : Prop := match ds with
  | [.int i] => Q (.int i) m
  | [.bl k] => Q (.int (if k = true then 1 else 0)) m
  | _ => False
theorem intR_ok : DCallR X (.type "int") intR := by
  refine CallR.imp call_int1 fun xs H Q ⟨ds, m, P, r, h, t, q⟩ => ?_
  unfold intR at t
  split at t
  · obtain ⟨v, r', rfl, r1, rfl⟩ := r
    cases r1
    exact .inl ⟨_, rfl, q.here h t rfl⟩
  · obtain ⟨v, r', rfl, r1, rfl⟩ := r
    cases r1
    exact .inr ⟨_, rfl, q.here h t rfl⟩
  · exact t.elim
def strR (ds : List D) (m : AH) (Q : DQ) : Prop := match ds with
  | [.int i] => i.natAbs.log2 < 1920 ∧ Q (.str (Str.ofString (toString i))) m
  | _ => False
theorem strR_ok : DCallR X (.type "str") strR := by
  refine CallR.imp call_str_int fun xs H Q ⟨ds, m, P, r, h, t, q⟩ => ?_
  unfold strR at t
  split at t
  · obtain ⟨v, r', rfl, r1, rfl⟩ := r
    cases r1
    exact ⟨_, rfl, t.1, q.here h t.2 rfl⟩
  · exact t.elim
end
/-! ### isinstance -/
inductive Kd where
  | int | bool | str | none | tuple | list
  deriving DecidableEq
def Kd.name : Kd → String
  | .int => "int" | .bool => "bool" | .str => "str" | .none => "NoneType" | .tuple => "tuple" | .list => "list"
def kd (m : AH) : D → Option Kd
  | .int _ => some .int
  | .bl _ => some .bool
  | .str _ => some .str
  | .non => some .none
  | .tup _ => some .tuple
  | .lst _ => some .list
  | .rdl _ => some .list
  | .ref a => match m a with
    | some (.lst _) => some .list
    | _ => Option.none
  | _ => Option.none
def isKd : Kd → Kd → Bool
  | .bool, .int => true
  | a, b => decide (a = b)
theorem kitB_kd : ∀ a b : Kd, kitB a.name b.name = some (isKd a b) := by
  intro a b
  cases a <;> cases b <;> decide +kernel
theorem kd_rep {K : PySem.W.Frag} {mg : Str → Option Value} {H : Hp} {m : AH} {d : D} {v : V} {k : Kd} (h : HRep K mg H m) (r : Rep K mg H d v) (e : kd m d = some k) : TyX K H v (.type k.name) := by
  cases d with
  | non => cases r; cases e; exact .base .non
  | bl _ => cases r; cases e; exact .base (.bl _)
  | int _ => cases r; cases e; exact .base (.int _)
  | str _ => cases r; cases e; exact .base (.str _)
  | ty _ => cases e
  | fn _ => cases e
  | tup xs =>
    cases e
    obtain ⟨a, vs, rfl, s1, q1⟩ := r
    rcases s1 with (s1 | ⟨o, s1⟩) | ⟨o, its, n, hk, hc, _⟩
    · exact .base (.tup s1)
    · exact .fTuple s1
    · exact .kTuple hk hc
  | lst xs =>
    cases e
    obtain ⟨a, vs, rfl, ⟨o, s1⟩, q1⟩ := r
    exact .base (.frz s1)
  | rdl xs =>
    cases e
    obtain ⟨a, vs, rfl, s1, q1⟩ := r
    rcases s1 with ⟨o, s1⟩ | ⟨o, its, n, hk, hc, _⟩
    · exact .base (.frz s1)
    · exact .kList hk hc
  | ref a =>
    cases r
    replace e : (match m a with | some (.lst _) => some Kd.list | _ => Option.none) = some k := e
    cases q : m a with
    | none => rw [q] at e; cases e
    | some o =>
      rw [q] at e
      cases o with
      | lst xs =>
        cases e
        obtain ⟨vs, h1, h2⟩ := h a _ q
        exact .base (.lst h1)
      | _ => cases e
def isiR (c : Kd) (ds : List D) (m : AH) (Q : DQ) : Prop := match ds with
  | [d, .ty n] => n = c.name ∧ ∃ k, kd m d = some k ∧ Q (.bl (isKd k c)) m
  | _ => False
theorem isiR_ok {X : Cx} (c : Kd) : DCallR X (.builtin "isinstance") (isiR c) := by
  refine CallR.imp call_isi fun xs H Q ⟨ds, m, P, r, h, t, q⟩ => ?_
  unfold isiR at t
  split at t
  · obtain ⟨v, _, rfl, r1, v2, _, rfl, r2, rfl⟩ := r
    obtain ⟨rfl, k, e1, p⟩ := t
    cases r2
    exact ⟨_, _, _, _, _, rfl, .ty _, kd_rep h r1 e1, kit_ty (kitB_kd k c), q.here h p rfl⟩
  · exact t.elim
end L2.AP
set_option Elab.async false
set_option linter.all false
set_option maxRecDepth 100000
set_option maxHeartbeats 4000000
/-! AP4r: xs[::-1], xs[:0:-1] of lists and tuples. -/
namespace L2.AP
open PySem PySem.Spec PyProof.Rows
/-- all from the back; all but the first from the back -/
def revC {α : Type} (z : Bool) (xs : List α) : List α := if z = true then (xs.drop 1).reverse else xs.reverse
def zP (z : Bool) : Option Int := if z = true then some 0 else none
theorem revC_len {α : Type} (z : Bool) (xs : List α) : (revC z xs).length = if z = true then xs.length - 1 else xs.length := by
  cases z <;> simp [revC]
theorem revC_get {α : Type} (z : Bool) (xs : List α) : (revC z xs) = (List.range (if z = true then xs.length - 1 else xs.length)).filterMap fun (k : Nat) => xs[((xs.length : Int) - 1 + (k : Int) * -1).toNat]? := by
  have key : ∀ n, n ≤ xs.length → (List.range n).filterMap (fun (k : Nat) => xs[((xs.length : Int) - 1 + (k : Int) * -1).toNat]?) = xs.reverse.take n := by
    intro n
    induction n with
    | zero => intro _; rfl
    | succ n ih =>
      intro hn
      rw [List.range_succ, List.filterMap_append, ih (by omega), List.take_succ]
      congr 1
      have e : ((xs.length : Int) - 1 + (n : Int) * -1).toNat = xs.length - 1 - n := by omega
      have h1 : xs.length - 1 - n < xs.length := by omega
      rw [List.filterMap_cons, e, List.getElem?_eq_getElem h1, List.getElem?_reverse (by omega), List.getElem?_eq_getElem h1]
      rfl
  cases z with
  | false =>
    simp only [Bool.false_eq_true, if_false, revC]
    rw [key xs.length (Nat.le_refl _), List.take_of_length_le (by simp)]
  | true =>
    simp only [if_true, revC]
    rw [key (xs.length - 1) (by omega)]
    cases xs with
    | nil => rfl
    | cons x r =>
      simp only [List.drop_one, List.tail_cons, List.length_cons, Nat.add_sub_cancel, List.reverse_cons]
      rw [List.take_left' (by simp)]
theorem adjust_rev (z : Bool) (n : Nat) : ∃ hi, Builtin.Slice.sliceAdjust none (zP z) (-1) (n : Int) = ((n : Int) - 1, hi) ∧ Builtin.Slice.slicePlaces ((n : Int) - 1) hi (-1) = if z = true then n - 1 else n := by
  cases z with
  | false =>
    refine ⟨-1, by simp [Builtin.Slice.sliceAdjust, zP], ?_⟩
    unfold Builtin.Slice.slicePlaces
    simp
    split <;> omega
  | true =>
    refine ⟨if n = 0 then -1 else 0, ?_, ?_⟩
    · by_cases c : n = 0
      · subst c
        simp [Builtin.Slice.sliceAdjust, zP]
        decide
      · have : min (0 : Int) ((n : Int) - 1) = 0 := by omega
        simp [Builtin.Slice.sliceAdjust, zP, c, this]
    · unfold Builtin.Slice.slicePlaces
      simp
      split <;> split <;> omega
section
variable {prog : Program} {w : World} {A : Around} {E : Value → Shared → Prop} {s : Shared}
theorem applied_rev {z : Bool} {sl : Addr} {vl vu vs : Value} {n : Nat} {Q : Int × Int × Nat → Shared → Prop} (hs : s.heap.IsSliceOf sl vl vu vs) (pl : IsPart vl none) (pu : IsPart vu (zP z)) (ps : IsPart vs (some (-1)))
    (h : Q ((n : Int) - 1, -1, if z = true then n - 1 else n) s) : wpAny (model prog w) A (Builtin.Slice.sliceApplied (.ref sl) (pure (n : Int))) Q E s := by
  obtain ⟨os, hos, hcs, hds⟩ := id hs
  obtain ⟨hi, e1, e2⟩ := adjust_rev z n
  unfold Builtin.Slice.sliceApplied Builtin.Slice.sliceFields
  refine wpAny_bind (wpAny_bind (wpAny_field hos hds (x := vl) rfl (wpAny_bind (wpAny_field hos hds (x := vu) rfl (wpAny_bind (wpAny_field hos hds (x := vs) rfl (wpAny_pure ?_)))))))
  refine wpAny_bind (HT.slicePart_ ps ?_)
  show wpAny _ _ (if ((-1 : Int) == 0) = true then _ else _) _ _ s
  rw [if_neg (by decide)]
  refine wpAny_bind (HT.slicePart_ pl (wpAny_bind (HT.slicePart_ pu (wpAny_bind (wpAny_pure ?_)))))
  show wpAny _ _ (match Builtin.Slice.sliceAdjust none (zP z) (-1) (n : Int) with | (lo, hi) => pure (lo, (-1 : Int), Builtin.Slice.slicePlaces lo hi (-1))) _ _ s
  rw [e1]
  show wpAny _ _ (pure ((n : Int) - 1, (-1 : Int), Builtin.Slice.slicePlaces ((n : Int) - 1) hi (-1))) _ _ s
  rw [e2]
  exact wpAny_pure h
theorem getItem_tuple_rev {z : Bool} {t sl : Addr} {items : Array Value} {vl vu vs : Value} {Q : Value → Shared → Prop} (ht : IsTup s.heap t items) (hs : s.heap.IsSliceOf sl vl vu vs) (pl : IsPart vl none) (pu : IsPart vu (zP z)) (ps : IsPart vs (some (-1)))
    (h : Q (.ref s.heap.objs.size) { s with heap := s.heap.push { cls := .type "tuple", data := .seq (revC z items.toList).toArray } }) (hsz : items.size ≤ sizeLine) : wpAny (model prog w) A (getItem (.ref t) (.ref sl)) Q E s := by
  have htake : sizeOk (.seq (revC z items.toList).toArray) := by
    show (revC z items.toList).toArray.size ≤ sizeLine
    rw [List.size_toArray, revC_len, Array.length_toList]
    split <;> omega
  obtain ⟨os, hos, hcs, hds⟩ := id hs
  have hTs : s.TypeIs (.ref sl) "slice" := ⟨os, hos, hcs⟩
  unfold getItem
  try with_reducible refine wpAny_holding ?_
  first | refine wpAny_bind (wpAny_pure ?_) | skip
  refine wpAny_bind (wpAny_sequenceKey ht.typeIs (by decide) ?_)
  refine wpAny_bind (wpAny_callSpecial?_slot (name := Str.ofString "__getitem__") ht.typeIs PyProof.Rows.slot_tuple_getitem (wpAny_call_entry PyProof.Rows.slot_tuple_getitem ht.typeIs entry_tuple_getitem ?_ (args_tuple_getitem _ _)))
  show wpAny _ _ (Builtin.Tuple.tupleItemsOf (.ref t) >>= _) _ _ s
  refine wpAny_bind (tupleItemsOf_ ht ?_)
  refine wpAny_bind (wpAny_typeOf hTs ?_)
  rw [if_pos (by decide)]
  refine wpAny_bind (applied_rev (z := z) hs pl pu ps ?_)
  have hno : ¬ ((((items.size : Int) - 1) == 0 && (-1 : Int) == 1 && (if z = true then items.size - 1 else items.size) == items.size) = true) := by simp
  show wpAny _ _ (if (((items.size : Int) - 1) == 0 && (-1 : Int) == 1 && (if z = true then items.size - 1 else items.size) == items.size) = true then _ else _) _ _ s
  rw [if_neg hno]
  have e : ((List.range (if z = true then items.size - 1 else items.size)).filterMap fun (k : Nat) => items[((items.size : Int) - 1 + (k : Int) * -1).toNat]?) = revC z items.toList := by
    rw [revC_get]
    simp
  rw [e]
  first
    | exact wpAny_bind (m := Builtin.Tuple.tupleExact _) (wpAny_newObj_type (wpAny_pure ⟨_, rfl, wpAny_pure h⟩) htake)
    | exact wpAny_bind (m := Builtin.Tuple.tupleExact _) (wpAny_newObj_type (wpAny_bind (wpAny_pure (wpAny_pure ⟨_, rfl, wpAny_pure h⟩))) htake)
    | exact wpAny_bind (wpAny_bind (m := Builtin.Tuple.tupleExact _) (wpAny_newObj_type (wpAny_pure (wpAny_pure ⟨_, rfl, wpAny_pure h⟩)) htake))
    | exact wpAny_bind (wpAny_bind (m := Builtin.Tuple.tupleExact _) (wpAny_newObj_type (wpAny_pure ⟨_, rfl, wpAny_pure h⟩) htake))
theorem fm_congr {α β : Type} {f g : α → Option β} : ∀ {l : List α}, (∀ x ∈ l, f x = g x) → l.filterMap f = l.filterMap g
  | [], _ => rfl
  | x :: l, h => by rw [List.filterMap_cons, List.filterMap_cons, h x List.mem_cons_self, fm_congr fun y hy => h y (List.mem_cons_of_mem _ hy)]
theorem pick_rev (z : Bool) (items : Array Value) : slicePick items none (zP z) (some (-1)) = (revC z items.toList).toArray := by
  cases z with
  | false => rw [show zP false = none from rfl, PySem.W.krv_pick]; rfl
  | true =>
    have e : sliceBounds none (zP true) (some (-1)) items.size = ((items.size : Int) - 1, if items.size = 0 then -1 else 0, -1) := by
      by_cases c : items.size = 0
      · simp [sliceBounds, zP, c]
        decide
      · have h1 : min (0 : Int) ((items.size : Int) - 1) = 0 := by omega
        simp [sliceBounds, zP, c, h1]
        decide
    have r : sliceRange ((items.size : Int) - 1) (if items.size = 0 then -1 else 0) (-1) = (List.range (items.size - 1)).map fun k => items.size - 1 - k := by
      unfold sliceRange
      have h1 : ¬ ((-1 : Int) > 0) := by decide
      simp only [h1, if_false]
      by_cases c : items.size ≤ 1
      · have e0 : items.size - 1 = 0 := by omega
        have c2 : ¬ ((items.size : Int) - 1 > if items.size = 0 then -1 else 0) := by split <;> omega
        rw [if_neg c2, e0]
        rfl
      · have c0 : ¬ items.size = 0 := by omega
        have c2 : ((items.size : Int) - 1 > 0) := by omega
        rw [if_neg c0, if_pos c2]
        have e1 : ((items.size : Int) - 1 - 0 - -1 - 1) / (- -1) = ((items.size - 1 : Nat) : Int) := by
          rw [show (- -1 : Int) = 1 by decide, Int.ediv_one]
          omega
        rw [e1, Int.toNat_natCast]
        apply List.map_congr_left
        intro k hk
        have := List.mem_range.mp hk
        omega
    unfold slicePick
    rw [e]
    simp only
    rw [r, revC_get, List.filterMap_map]
    simp only [if_true, Array.length_toList]
    congr 1
    refine fm_congr fun k hk => ?_
    have := List.mem_range.mp hk
    show items[items.size - 1 - k]? = items.toList[_]?
    rw [Array.getElem?_toList]
    congr 1
    omega
end
theorem vals_revC {z : Bool} {xs : List V} {us : List Value} (h : Vals xs us) : Vals (AP.revC z xs) (AP.revC z us) := by
  cases z
  · exact h.reverse
  · exact (h.drop 1).reverse
theorem Reps.revC {K : PySem.W.Frag} {mg : Str → Option Value} {H : Hp} {z : Bool} {xs : List D} {us : List V} (h : Reps K mg H xs us) : Reps K mg H (AP.revC z xs) (AP.revC z us) := by
  cases z
  · exact h.rev
  · exact (h.drop 1).rev
def tRevG (K : PySem.W.Frag) (z : Bool) (te : TE) : TE := fun σ H Q => te σ H fun x H1 => ∃ a xs, x = .ref a ∧ ((SqL K H1 a xs ∧ ∀ p, H1 p = none → Frz Q (.ref p) (upd H1 p (.lst (revC z xs)))) ∨ (SqT K H1 a xs ∧ ∀ p, H1 p = none → Q (.ref p) (upd H1 p (.tup (revC z xs)))))
def zE (z : Bool) (k : Nat) (p : Pos) : Option Expr := if z = true then some (.Constant (.int 0) k p) else none
section
variable {X : Cx} {e : Expr} {te : TE} {k j : Nat} {p0 p1 p2 p3 pos : Pos}
theorem pe_revG (z : Bool) (he : PE X e te) : PE X (.Subscript e (.Slice none (zE z j p0) (some (.UnaryOp .USub (.Constant (.int 1) k p1) p2)) p3) pos) (tRevG X.K z te) := by
  refine ⟨fun pins s σ H Q I h => ?_⟩
  refine Subscript_ (thn (he.run pins s σ H _ I h) fun v s1 ⟨x, H1, I1, r1, q1⟩ => ?_)
  obtain ⟨a, xs, rfl, q1⟩ := q1
  cases r1
  have hst : PO X (some (.UnaryOp .USub (.Constant (.int 1) k p1) p2)) (tPart (tUn (rU fun i => .int (-i)) (tC (.int 1)))) := po_some (pe_un un_neg pe_int)
  have hhi : ∀ s σ H, Inv X pins σ H s → wpAny (model X.prog X.w) X.A (evalPart (zE z j p0) X.env) (fun v s' => ∃ o H2, Inv X pins σ H2 s' ∧ IsPart v o ∧ o = zP z ∧ H2 = H) X.xe s := fun s σ H I => by
    cases z
    · exact po_none.run pins s σ H (fun o H2 => o = none ∧ H2 = H) I ⟨rfl, rfl⟩
    · exact (po_some (pe_int (i := 0) (j := j) (pos := p0))).run pins s σ H (fun o H2 => o = some 0 ∧ H2 = H) I ⟨0, rfl, rfl, rfl⟩
  refine wpAny_Slice (thn (po_none.run pins s1 σ H1 (fun o H2 => o = none ∧ H2 = H1) I1 ⟨rfl, rfl⟩) fun vl s2 ⟨l, H2, I2, pl, el, e2⟩ => ?_)
  subst el e2
  refine thn (hhi s2 σ _ I2) fun vu s3 ⟨u, H3, I3, pu, eu, e3⟩ => ?_
  subst eu e3
  refine thn (hst.run pins s3 σ _ (fun o H4 => o = some (-1) ∧ H4 = H3) I3 ⟨1, rfl, -1, rfl, rfl, rfl⟩) fun vs s4 ⟨o, H4, I4, ps, eo, e4⟩ => ?_
  subst eo e4
  have I5 : Inv X pins σ H4 { s4 with heap := s4.heap.push { cls := .type "slice", data := .fields #[vl, vu, vs] } } := I4.kept (t' := s4.toks) fun b ob q => Heap.get?_push_of_some _ q
  show wpAny (model X.prog X.w) X.A (subscriptTail e (.Slice none (zE z j p0) (some (.UnaryOp .USub (.Constant (.int 1) k p1) p2)) p3) (.ref a) (.ref s4.heap.objs.size)) (EP X pins σ Q) X.xe { s4 with heap := s4.heap.push { cls := .type "slice", data := .fields #[vl, vu, vs] } }
  rcases q1 with ⟨hx, q⟩ | ⟨hx, q⟩
  · obtain ⟨its, r, ht, hz⟩ := I5.list hx
    have hlen := r.length
    refine thn (Q := EP X pins σ (Frz Q)) ?_ fun _ _ z => ep_frz z
    refine tail_any (ops := [.ref a, .ref s4.heap.objs.size]) ht.isList.typeIs (PySem.slot_list_getitem.lookup) ?_ (by with_unfolding_all rfl)
    refine wpAny_getItem_list_slice ht.isList (Heap.IsSliceOf.new _ vl vu vs) pl pu ps (by decide) ?_ (by rw [List.size_toArray]; omega)
    rw [pick_rev]
    refine ⟨.ref _, _, I5.laid (t' := s4.toks) (o := .lst (revC z xs)) (fun b ob q => Heap.get?_push_of_some _ q) (Nat.le_refl _) ?_, rfl, q _ (I5.hok.fresh (Nat.le_refl _))⟩
    exact ⟨by rw [revC_len]; split <;> omega, _, 0, vals_revC r, Heap.get?_push_size _ rfl⟩
  · obtain ⟨its, r, ht, hz⟩ := I5.tuple hx
    have hlen := r.length
    refine tail_any (ops := [.ref a, .ref s4.heap.objs.size]) ht.typeIs (PyProof.Rows.slot_tuple_getitem.lookup) ?_ (by with_unfolding_all rfl)
    refine getItem_tuple_rev (z := z) ht (Heap.IsSliceOf.new _ vl vu vs) pl pu ps ?_ (by rw [List.size_toArray]; omega)
    refine ⟨.ref _, _, I5.laid (t' := s4.toks) (o := .tup (revC z xs)) (fun b ob q => Heap.get?_push_of_some _ q) (Nat.le_refl _) ?_, rfl, q _ (I5.hok.fresh (Nat.le_refl _))⟩
    exact ⟨by rw [revC_len]; split <;> omega, _, vals_revC r, IsTup.new _ _⟩
end
/-- xs[::-1] (false), xs[:0:-1] (true) -/
def dRevG (z : Bool) (t : DTE) : DTE := fun W δ m Q => t W δ m fun d m1 => (∃ xs, d = .tup xs ∧ Q (.tup (revC z xs)) m1) ∨ ∃ xs, asL m1 d = some xs ∧ Q (.lst (revC z xs)) m1
section
variable {X : Cx} {e : Expr} {te : DTE} {k j : Nat} {p0 p1 p2 p3 pos : Pos}
theorem de_revG (z : Bool) (he : DE X e te) : DE X (.Subscript e (.Slice none (zE z j p0) (some (.UnaryOp .USub (.Constant (.int 1) k p1) p2)) p3) pos) (dRevG z te) :=
  ⟨fun W H0 tk => PE.imp (pe_revG z (he.run W H0 tk)) fun σ H Q ⟨x0, δ, m, P, e, h, t, q⟩ => ⟨x0, δ, m, _, e, h, t, fun d m1 t1 v H1 x1 r1 h1 => by
    rcases t1 with ⟨xs, rfl, p⟩ | ⟨xs, e1, p⟩
    · obtain ⟨a, vs, rfl, s1, q1⟩ := r1
      exact ⟨a, vs, rfl, .inr ⟨s1, (q.ext x1).tup h1 p q1.revC⟩⟩
    · obtain ⟨a, vs, rfl, s1, q1⟩ := asL_rep h1 r1 e1
      exact ⟨a, vs, rfl, .inl ⟨.inl s1, (q.ext x1).frz h1 p q1.revC⟩⟩⟩⟩
end
end L2.AP
set_option Elab.async false
set_option linter.all false
set_option maxRecDepth 100000
set_option maxHeartbeats 2000000
/-! AP5: methods of lists, membership, targets, statements. -/
namespace L2.AP
open PySem PySem.Spec PyProof.Rows

/-! ### methods -/
theorem ext_tup (l : Addr) (xs : Array Value) (n : Nat) (b : Addr) (ys : Array Value) (k : Nat) (dd : Option Addr) (sl : Array (Option Value))
    (h0 : ¬ (!xs.isEmpty && Builtin.List.listTooLong (xs.size + ys.size)) = true) (h1 : xs.size ≤ sizeLine) (h2 : xs.size + ys.size ≤ sizeLine + 1) :
    Meets (Builtin.«list.extend» ⟨[.ref l, .ref b], []⟩) (fun _ R s => s.heap.get? l = some { cls := .type "list", data := .seq xs n } ∧
      s.heap.get? b = some { cls := .type "tuple", dict := dd, data := .seq ys k, slots := sl } ∧ R (.ok (.ret Value.none)) { s with heap := s.heap.update l (Obj.mapSeq (· ++ ys)) }) :=
  .of_wp fun prog w A R s hh => by
    obtain ⟨h, g, d, t, o⟩ := s
    obtain ⟨el, eb, q⟩ := hh
    have := AutoSeq1.sub_tuple_tuple
    have := AutoSeq1.sub_tuple_list
    have := AutoSeq1.sub_list_list
    have hz : (xs ++ ys).size ≤ sizeLine + 1 := by rw [Array.size_append]; exact h2
    wp_walk using (wpAny_updateSeq el rfl (hz := h1) (_hz' := hz)), wpAny_loadPart' el, wpAny_loadPart' eb
    exact ⟨_, rfl, q⟩
section
variable {X : Cx}
def rExtR (K : PySem.W.Frag) : V → List V → Hp → VK → Prop := fun x vs H Q => ∃ l b xs zs, x = .ref l ∧ vs = [.ref b] ∧ H l = some (.lst xs) ∧ (Rd H b (.lst zs) ∨ SqT K H b zs) ∧ xs.length + zs.length ≤ sizeLine ∧ Q .non (upd H l (.lst (xs ++ zs)))
theorem mt_extR : MtR X "list.extend" (rExtR X.K) := by
  intro pins s σ H x vs v us Q I rx rv h
  obtain ⟨l, b, xs, zs, rfl, rfl, hH, hB, hz, q⟩ := h
  cases rx
  obtain ⟨u, rfl, ru⟩ := rv.one
  cases ru
  obtain ⟨_, its, n, r, hl, e⟩ := I.lstM hH
  rcases hB with hB | hB
  · obtain ⟨_, jts, k, r2, hl2, e2⟩ := Inv.rdM I hB
    have hs : its.toArray.size + jts.toArray.size ≤ sizeLine := by simp only [List.size_toArray]; omega
    have hk : ¬ (!its.toArray.isEmpty && Builtin.List.listTooLong (its.toArray.size + jts.toArray.size)) = true := by rw [notLongL hs, Bool.and_false]; decide
    refine call_meets F.slot_list_extend ⟨_, e, rfl⟩ F.entry_list_extend (F.args_list_extend_2 _ _) (AutoSeq1.list_extend_list_list_0 l its.toArray n b jts.toArray k hk (by omega) (by omega)) ⟨e, e2, ?_⟩
    exact ⟨.non, _, I.lset (its' := its ++ jts) hH e (by simp) (r.append r2) (by simp only [List.length_append]; omega), rfl, q⟩
  · obtain ⟨jts, r2, ⟨⟨cls, dd, dat, sl⟩, e2, hc, k, hd⟩, _⟩ := I.tuple hB
    simp only at hc hd
    subst hc hd
    have hl2 := r2.length
    have hs : its.toArray.size + jts.toArray.size ≤ sizeLine := by simp only [List.size_toArray]; omega
    have hk : ¬ (!its.toArray.isEmpty && Builtin.List.listTooLong (its.toArray.size + jts.toArray.size)) = true := by rw [notLongL hs, Bool.and_false]; decide
    refine call_meets F.slot_list_extend ⟨_, e, rfl⟩ F.entry_list_extend (F.args_list_extend_2 _ _) (ext_tup l its.toArray n b jts.toArray k dd sl hk (by omega) (by omega)) ⟨e, e2, ?_⟩
    exact ⟨.non, _, I.lset (its' := its ++ jts) hH e (by simp) (r.append r2) (by simp only [List.length_append]; omega), rfl, q⟩
def appendR (d : D) (ds : List D) (m : AH) (Q : DQ) : Prop := match d, ds with
  | .ref a, [x] => ∃ xs, m a = some (.lst xs) ∧ xs.length < sizeLine ∧ Q .non (put m a (.lst (xs ++ [x])))
  | _, _ => False
theorem HRep.putL {K : PySem.W.Frag} {mg : Str → Option Value} {H : Hp} {m : AH} {a : Addr} {vs us : List V} {ds : List D} (h : HRep K mg H m) (e : H a = Option.some (.lst vs)) (r : Reps K mg H ds us) :
    Ext H (upd H a (.lst us)) ∧ HRep K mg (upd H a (.lst us)) (AP.put m a (.lst ds)) := by
  have x : Ext H (upd H a (.lst us)) := Ext.put e (fun _ z => nomatch z) (fun _ _ z => nomatch z)
  exact ⟨x, h.put e (fun _ z => nomatch z) (fun _ _ z => nomatch z) ⟨us, upd_same, r.ext x⟩⟩
theorem appendR_ok : DMtR X "list.append" appendR := by
  refine MtR.imp mt_append fun x xs H Q ⟨d, ds, m, P, r1, r2, h, t, q⟩ => ?_
  unfold appendR at t
  split at t
  · cases r1
    obtain ⟨v, _, rfl, r3, rfl⟩ := r2
    obtain ⟨ys, e, hl, p⟩ := t
    obtain ⟨vs, e1, e2⟩ := h _ _ e
    obtain ⟨x1, h1⟩ := HRep.putL h e1 (e2.app (Reps.cons r3 Reps.nil))
    exact ⟨_, vs, v, rfl, rfl, e1, by rw [e2.len]; exact hl, q _ _ p _ _ x1 rfl h1⟩
  · exact t.elim
def extendR (d : D) (ds : List D) (m : AH) (Q : DQ) : Prop := match d, ds with
  | .ref a, [x] => ∃ xs ys, m a = some (.lst xs) ∧ (asL m x = some ys ∨ x = .tup ys) ∧ xs.length + ys.length ≤ sizeLine ∧ Q .non (put m a (.lst (xs ++ ys)))
  | _, _ => False
theorem extendR_ok : DMtR X "list.extend" extendR := by
  refine MtR.imp mt_extR fun x xs H Q ⟨d, ds, m, P, r1, r2, h, t, q⟩ => ?_
  unfold extendR at t
  split at t
  · cases r1
    obtain ⟨v, _, rfl, r3, rfl⟩ := r2
    obtain ⟨ys, zs, e, e3, hl, p⟩ := t
    obtain ⟨vs, e1, e2⟩ := h _ _ e
    rcases e3 with e3 | rfl
    · obtain ⟨b, us, rfl, s1, q1⟩ := asL_rep h r3 e3
      obtain ⟨x1, h1⟩ := HRep.putL h e1 (e2.app q1)
      exact ⟨_, b, vs, us, rfl, rfl, e1, .inl s1, by rw [e2.len, q1.len]; exact hl, q _ _ p _ _ x1 rfl h1⟩
    · obtain ⟨b, us, rfl, s1, q1⟩ := r3
      obtain ⟨x1, h1⟩ := HRep.putL h e1 (e2.app q1)
      exact ⟨_, b, vs, us, rfl, rfl, e1, .inr s1, by rw [e2.len, q1.len]; exact hl, q _ _ p _ _ x1 rfl h1⟩
  · exact t.elim
theorem Reps.last {K : PySem.W.Frag} {mg : Str → Option Value} {H : Hp} {xs : List D} {x : D} {vs : List V} (r : Reps K mg H (xs ++ [x]) vs) : ∃ us v, vs = us ++ [v] ∧ Reps K mg H xs us ∧ Rep K mg H x v := by
  have h1 := r.take xs.length
  have h2 := r.drop xs.length
  rw [List.take_left] at h1
  rw [List.drop_left] at h2
  obtain ⟨v, _, e, rv, rfl⟩ := h2
  exact ⟨_, v, by rw [← e, List.take_append_drop], h1, rv⟩
def popR (d : D) (ds : List D) (m : AH) (Q : DQ) : Prop := match d, ds with
  | .ref a, [] => ∃ xs x, m a = some (.lst (xs ++ [x])) ∧ Q x (put m a (.lst xs))
  | _, _ => False
theorem popR_ok : DMtR X "list.pop" popR := by
  refine MtR.imp mt_pop fun x xs H Q ⟨d, ds, m, P, r1, r2, h, t, q⟩ => ?_
  unfold popR at t
  split at t
  · cases r1
    cases r2
    obtain ⟨ys, y, e, p⟩ := t
    obtain ⟨vs, e1, e2⟩ := h _ _ e
    obtain ⟨us, v, rfl, e3, e4⟩ := e2.last
    obtain ⟨x1, h1⟩ := HRep.putL h e1 e3
    refine ⟨_, _, v, rfl, rfl, e1, by simp, ?_⟩
    rw [List.dropLast_concat]
    exact q _ _ p _ _ x1 (e4.ext x1) h1
  · exact t.elim
/-- a call of a list's method -/
def dBM (r : D → List D → AH → DQ → Prop) (to : DTE) (t : DTA) : DTE := fun W δ m Q => to W δ m fun d m1 => (∃ xs, asL m1 d = some xs) ∧ t W δ m1 fun ds m2 => r d ds m2 Q
variable {o e : Expr} {es : List Expr} {to : DTE} {t : DTA} {name : Str} {apos cpos : Pos} {id : String} {r : D → List D → AH → DQ → Prop}
theorem de_bm0 (slot : Slot "list" name id) (hty : typeOf (.builtin id) = pure (.type "method_descriptor")) (hm : DMtR X id r) (ho : DE X o to)
    (hbase : attributeBase o name X.env (eval o X.env) = eval o X.env) (hline : (apos.endLine == cpos.line) = true) : DE X (.Call (.Attribute o name apos) [] [] cpos) (dBM r to dNil) :=
  ⟨fun W H0 tk => PE.imp (pe_bm0 PySem.F.plainAttrs_list slot hty hm (ho.run W H0 tk) hbase hline) fun σ H Q ⟨x0, δ, m, P, e, h, t, q⟩ => ⟨x0, δ, m, _, e, h, t, fun d m1 ⟨⟨xs, e1⟩, t1⟩ v H1 x1 r1 h1 => by
    obtain ⟨a, vs, rfl, s1, q1⟩ := asL_rep h1 r1 e1
    exact ⟨.inl ⟨rfl, vs, .inl s1⟩, d, [], m1, P, r1, rfl, h1, t1, q.ext x1⟩⟩⟩
theorem de_bm (slot : Slot "list" name id) (hty : typeOf (.builtin id) = pure (.type "method_descriptor")) (hm : DMtR X id r) (ho : DE X o to) (ha : DA X (e :: es) t)
    (hbase : attributeBase o name X.env (eval o X.env) = eval o X.env)
    (hfew : ((backTo cpos (starEach (e :: es) X.env)).all (fun x => !x.1) && (backToKw cpos (keywordEach [] X.env)).all (fun x => x.1.isSome) && decide ((e :: es).length + ([] : List Keyword).length + (if ([] : List Keyword).isEmpty then 0 else 1) < 30)) = true)
    (hline : (apos.endLine == cpos.line) = true) (hs : starEach (e :: es) X.env = (false, eval e X.env) :: starEach es X.env) (hplain : (backTo cpos (starEach es X.env)).any (·.1) = false) :
    DE X (.Call (.Attribute o name apos) (e :: es) [] cpos) (dBM r to t) :=
  ⟨fun W H0 tk => PE.imp (pe_bm PySem.F.plainAttrs_list slot hty hm (ho.run W H0 tk) (ha.run W H0 tk) hbase hfew hline hs hplain) fun σ H Q ⟨x0, δ, m, P, e, h, t, q⟩ => ⟨x0, δ, m, _, e, h, t, fun d m1 ⟨⟨xs, e1⟩, t1⟩ v H1 x1 r1 h1 => by
    obtain ⟨a, vs, rfl, s1, q1⟩ := asL_rep h1 r1 e1
    exact ⟨.inl ⟨rfl, vs, .inl s1⟩, x0.trans x1, δ, m1, _, e.ext x1, h1, t1, fun ds m2 t2 us H2 x2 r2 h2 => ⟨d, ds, m2, P, r1.ext x2, r2, h2, t2, q.ext (x1.trans x2)⟩⟩⟩⟩
end

/-! ### in, not in -/
section
variable {X : Cx}
/-- one sign in a text; a thing in a list or tuple of data -/
def inR (neg : Bool) (d e : D) (m : AH) (Q : DQ) : Prop := match d, e with
  | .str x, .str z => ∃ c : Nat, x = ⟨#[c]⟩ ∧ Q (.bl (decide (c ∈ z.cps.toList) != neg)) m
  | d, e => ∃ ys, (val m e = .lst ys ∨ val m e = .tup ys) ∧ lays ys = true ∧ lay (val m d) = true ∧ min (deps ys) (dep (val m d)) ≤ 64 ∧ Q (.bl ((ys.any fun z => eqD z (val m d)) != neg)) m
theorem any_py {d : D} {x : PyData} (h : toPy d = some x) : ∀ (ys : List D) (zs : List PyData), toPys ys = some zs → (zs.any fun z => PyData.eqv z x) = ys.any fun y => eqD y d
  | [], _, e => by cases e; rfl
  | y :: ys, _, e => by
    simp only [toPys] at e
    split at e
    · rename_i z zs a1 a2
      cases e
      rw [List.any_cons, List.any_cons, eqD_py y d z x a1 h, any_py h ys zs a2]
    · cases e
theorem inR_gen {op : CmpOp} {neg : Bool} (hs : OpR X (compareOp op) (fun x y H Q => ∃ (c : Nat) (z : Str), x = .str ⟨#[c]⟩ ∧ y = .str z ∧ Q (.bl (decide (c ∈ z.cps.toList) != neg)) H))
    (h1 : ∀ {pins : List (Addr × Obj)} {s : Shared} {σ : St} {H : Hp} {x y : V} {v u : Value} {Q : VK} {b : PyData} {zs : List PyData}, Inv X pins σ H s → RelV x v → RelV y u → Dp X.K H x b → (Dp X.K H y (.list zs) ∨ Dp X.K H y (.tuple zs)) → PyData.canLayAll0 zs = true → b.canLay0 = true →
      min (PyData.depthAll zs) b.depth ≤ 64 → Q (.bl ((zs.any fun z => PyData.eqv z b) != neg)) H → wpAny (model X.prog X.w) X.A (compareOp op v u) (EP X pins σ Q) X.xe s) : DOp X (compareOp op) (inR neg) := by
  rintro pins s σ H x y v u Q I rx ry ⟨d, e, m, P, r1, r2, h, t, q⟩
  unfold inR at t
  split at t
  · cases r1; cases r2
    obtain ⟨c, rfl, p⟩ := t
    exact hs pins s σ H _ _ v u Q I rx ry ⟨c, _, rfl, rfl, q.here h p rfl⟩
  · obtain ⟨ys, e1, l1, l2, hz, p⟩ := t
    obtain ⟨a, a1, a2, a3, a4⟩ := val_py h r1 l2
    obtain ⟨zs, b1, b2, b3⟩ := lays_py ys l1
    have le : lay (val m e) = true := by rcases e1 with e1 | e1 <;> (rw [e1]; simpa [lay] using l1)
    obtain ⟨b, c1, c2, c3, c4⟩ := val_py h r2 le
    refine h1 I rx ry a2 (zs := zs) ?_ b2 a3 (by rw [b3, a4]; exact hz) (by rw [any_py a1 ys zs b1]; exact q.here h p rfl)
    rcases e1 with e1 | e1
    · rw [e1] at c1
      simp only [toPy, b1, Option.map_some, Option.some.injEq] at c1
      rw [← c1] at c2
      exact .inl c2
    · rw [e1] at c1
      simp only [toPy, b1, Option.map_some, Option.some.injEq] at c1
      rw [← c1] at c2
      exact .inr c2
theorem inR_ok (hu : X.A.units + 65 < cLine) : DOp X (compareOp .In) (inR false) := by
  refine inR_gen (OpR.imp op_in_sign fun x y H Q ⟨c, z, e1, e2, q⟩ => ⟨c, z, e1, e2, by simpa using q⟩) fun {pins s σ H x y v u Q b zs} I rx ry d1 d2 l1 l2 hz q => ?_
  have q : Q (.bl (zs.any fun z => PyData.eqv z b)) H := by simpa using q
  obtain ⟨as, c1⟩ := Dp.reads I b x v d1 rx
  rcases d2 with d2 | d2
  · obtain ⟨bs, c2⟩ := Dp.reads I _ y u d2 ry
    exact SeqAt.in_list_reads c2 c1 l1 l2 (by omega) ⟨.bl _, H, I, rfl, q⟩
  · obtain ⟨bs, c2⟩ := Dp.reads I _ y u d2 ry
    exact SeqAt.in_tuple_reads c2 c1 l1 l2 (by omega) ⟨.bl _, H, I, rfl, q⟩
theorem notInR_ok (hu : X.A.units + 65 < cLine) : DOp X (compareOp .NotIn) (inR true) := by
  refine inR_gen (OpR.imp op_notIn_sign fun x y H Q ⟨c, z, e1, e2, q⟩ => ⟨c, z, e1, e2, by simpa using q⟩) fun {pins s σ H x y v u Q b zs} I rx ry d1 d2 l1 l2 hz q => ?_
  have q : Q (.bl (!zs.any fun z => PyData.eqv z b)) H := by simpa using q
  obtain ⟨as, c1⟩ := Dp.reads I b x v d1 rx
  rcases d2 with d2 | d2
  · obtain ⟨bs, c2⟩ := Dp.reads I _ y u d2 ry
    exact SeqAt.notIn_list_reads c2 c1 l1 l2 (by omega) ⟨.bl _, H, I, rfl, q⟩
  · obtain ⟨bs, c2⟩ := Dp.reads I _ y u d2 ry
    exact SeqAt.notIn_tuple_reads c2 c1 l1 l2 (by omega) ⟨.bl _, H, I, rfl, q⟩
end

/-! ### len(set(xs)) -/
mutual
/-- as a key -/
def keyD : D → Option NestedKey
  | .non => some .none
  | .bl b => some (.num (if b = true then 1 else 0))
  | .int i => some (.num i)
  | .str x => some (.text x)
  | .tup xs => (keysD xs).map .tup
  | _ => none
def keysD : List D → Option (List NestedKey)
  | [] => some []
  | d :: ds => match keyD d, keysD ds with
    | some k, some ks => some (k :: ks)
    | _, _ => none
end
def isTupD : D → Bool
  | .tup _ => true
  | _ => false
theorem keysD_cons {d : D} {ds : List D} {l : List NestedKey} (h : keysD (d :: ds) = some l) : ∃ k ks, l = k :: ks ∧ keyD d = some k ∧ keysD ds = some ks := by
  simp only [keysD] at h
  split at h
  · rename_i k ks h1 h2
    cases h
    exact ⟨k, ks, rfl, h1, h2⟩
  · cases h
section
variable {X : Cx}
mutual
theorem keyD_rep : ∀ {d : D} {v : V} {u : Value} {k : NestedKey} {pins : List (Addr × Obj)} {σ : St} {H : Hp} {s : Shared}, Inv X pins σ H s → Rep X.K X.mg H d v → RelV v u → keyD d = some k → NestedIs s.heap k u
  | .non, _, _, _, _, _, _, _, _, r, ru, e => by cases r; cases e; obtain rfl : _ = Value.none := ru; exact .none
  | .bl b, _, _, _, _, _, _, _, _, r, ru, e => by cases r; cases e; obtain rfl : _ = Value.bool b := ru; exact .bool rfl
  | .int i, _, _, _, _, _, _, _, _, r, ru, e => by cases r; cases e; obtain ⟨t, rfl⟩ := ru; exact .int _ _
  | .str x, _, _, _, _, _, _, _, _, r, ru, e => by cases r; cases e; obtain ⟨t, rfl⟩ := ru; exact .text _ _
  | .ref _, _, _, _, _, _, _, _, _, _, _, e => by cases e
  | .ty _, _, _, _, _, _, _, _, _, _, _, e => by cases e
  | .fn _, _, _, _, _, _, _, _, _, _, _, e => by cases e
  | .rdl _, _, _, _, _, _, _, _, _, _, _, e => by cases e
  | .lst _, _, _, _, _, _, _, _, _, _, _, e => by cases e
  | .tup ds, _, _, _, _, _, _, _, I, r, ru, e => by
    obtain ⟨a, vs, rfl, s1, q1⟩ := r
    obtain rfl : _ = Value.ref a := ru
    simp only [keyD] at e
    obtain ⟨ks, e1, rfl⟩ := Option.map_eq_some_iff.mp e
    obtain ⟨its, rv, ⟨o, ho, hc, n, hd⟩, _⟩ := I.tuple s1
    exact .tup ho hc hd (keysD_rep I q1 rv e1)
theorem keysD_rep : ∀ {ds : List D} {vs : List V} {us : List Value} {ks : List NestedKey} {pins : List (Addr × Obj)} {σ : St} {H : Hp} {s : Shared}, Inv X pins σ H s → Reps X.K X.mg H ds vs → Vals vs us → keysD ds = some ks → NestedAll s.heap ks us
  | [], _, _, _, _, _, _, _, I, r, ru, e => by
    rw [show _ = [] from r] at ru
    cases ru
    cases e
    exact .nil
  | d :: ds, _, _, _, _, _, _, _, I, ⟨v, r, h1, h2, h3⟩, ru, e => by
    rw [h1] at ru
    obtain ⟨k, ks, rfl, e1, e2⟩ := keysD_cons e
    cases ru with
    | cons r1 r2 => exact .cons (keyD_rep I h2 r1 e1) (keysD_rep I h3 r2 e2)
end
end
/-- nested tuples with their addresses -/
theorem nl_of {h : Heap} {xs : List D} {ks : List NestedKey} : ∀ {us : List Value}, NestedAll h ks us → keysD xs = some ks → xs.all isTupD = true → ∃ L : NL, us = L.map (fun p => Value.ref p.1) ∧ L.map (·.2) = ks ∧ ∀ p ∈ L, IsN h p.2 p.1 := by
  induction xs generalizing ks with
  | nil =>
    intro us n e _
    cases e
    cases n
    exact ⟨[], rfl, rfl, fun p hp => by cases hp⟩
  | cons d xs ih =>
    intro us n e hx
    obtain ⟨k, ks, rfl, e1, e2⟩ := keysD_cons e
    rw [List.all_cons, Bool.and_eq_true] at hx
    cases n with
    | cons n1 n2 =>
      obtain ⟨L, f1, f2, f3⟩ := ih n2 e2 hx.2
      cases d with
      | tup ds =>
        simp only [keyD] at e1
        obtain ⟨ks', _, rfl⟩ := Option.map_eq_some_iff.mp e1
        cases n1 with
        | @tup a o vs n _ h1 h2 h3 h4 =>
          refine ⟨(a, .tup ks') :: L, by rw [f1]; rfl, by rw [← f2]; rfl, fun p hp => ?_⟩
          rcases List.mem_cons.mp hp with z | z
          · rw [z]; exact .tup h1 h2 h3 h4
          · exact f3 p z
      | _ => exact absurd hx.1 (by simp [isTupD])
theorem nodup_le {α : Type} [DecidableEq α] : ∀ (l D : List α), l.Nodup → (∀ x ∈ l, x ∈ D) → l.length ≤ D.length
  | [], _, _, _ => Nat.zero_le _
  | x :: l, D, hn, hs => by
    obtain ⟨h1, h2⟩ := List.nodup_cons.mp hn
    have hx := hs x List.mem_cons_self
    have ih := nodup_le l (D.erase x) h2 fun y hy => (List.mem_erase_of_ne (fun e : y = x => h1 (by rw [← e]; exact hy))).2 (hs y (List.mem_cons_of_mem _ hy))
    have e := List.length_erase_of_mem hx
    have hp := List.length_pos_of_mem hx
    rw [List.length_cons]
    omega
theorem dup_less {α : Type} [DecidableEq α] : ∀ ks : List α, ¬ ks.Nodup → ∃ r : List α, r.length < ks.length ∧ ∀ k ∈ ks, k ∈ r
  | [], h => absurd List.nodup_nil h
  | x :: ks, h => by
    by_cases m : x ∈ ks
    · exact ⟨ks, Nat.lt_succ_self _, fun k hk => by
        rcases List.mem_cons.mp hk with z | z
        · rw [z]; exact m
        · exact z⟩
    · obtain ⟨r, h1, h2⟩ := dup_less ks fun z => h (List.nodup_cons.mpr ⟨m, z⟩)
      refine ⟨x :: r, Nat.succ_lt_succ h1, fun k hk => ?_⟩
      rcases List.mem_cons.mp hk with z | z
      · rw [z]; exact List.mem_cons_self
      · exact List.mem_cons_of_mem _ (h2 k z)
theorem nodup_len {α : Type} [DecidableEq α] {L ks : List α} (h : L.Nodup) (hm : ∀ k, k ∈ L ↔ k ∈ ks) : L.length = ks.length ↔ ks.Nodup := by
  constructor
  · intro e
    by_cases c : ks.Nodup
    · exact c
    · obtain ⟨r, h1, h2⟩ := dup_less ks c
      have := nodup_le L r h fun k hk => h2 k ((hm k).mp hk)
      omega
  · intro hk
    have a := nodup_le L ks h fun k hk => (hm k).mp hk
    have b := nodup_le ks L hk fun k hk => (hm k).mpr hk
    omega
def LenSetT (d : D) (m : AH) (Q : DQ) : Prop := ∃ xs : List Str, asQ m d = some (xs.map D.str) ∧ xs.length + 1 < scanBound ∧ Q (.int (met xs).length) m
def LenSetN (d : D) (m : AH) (Q : DQ) : Prop := ∃ xs ks, asQ m d = some xs ∧ keysD xs = some ks ∧ xs.all isTupD = true ∧ xs.length < 64 ∧ (∀ k ∈ ks, k.depth ≤ 180) ∧ (∀ w, Tame w ks) ∧ ∀ L : List NestedKey, L.Nodup → (∀ k, k ∈ L ↔ k ∈ ks) → Q (.int L.length) m
section
variable {X : Cx} {a : Expr} {ta : DTE} {p p2 q pos : Pos}
def dLenSet (ta : DTE) : DTE := fun W δ m Q => ta W δ m fun d m1 => LenSetT d m1 Q ∨ LenSetN d m1 Q
theorem de_lenSet (hc : X.calm = true) (hu : X.A.units + 190 < cLine) (hg : Gl X "len") (hm : X.mg "len" = none) (hg2 : Gl X "set") (hm2 : X.mg "set" = none) (ha : DE X a ta) (na : starEach [a] X.env = (false, eval a X.env) :: starEach [] X.env) :
    DE X (.Call (.Name "len" p) [.Call (.Name "set" p2) [a] [] q] [] pos) (dLenSet ta) :=
  ⟨fun W H0 tk => ⟨fun pins s σ H Q I ⟨x0, δ, m, P, e, h, t, qq⟩ => by
    refine Call_ (ld_blt I hg hm boot_len ?_)
    refine PyProof.Rows.callWith_builtin1 (PyProof.Rows.args_cons ?_ rfl) rfl rfl
    refine Call_ (ld_blt I hg2 hm2 boot_set ?_)
    have hh := (ha.run W H0 tk).run pins s σ H (fun v H1 => ∃ d m1, Rep X.K X.mg H1 d v ∧ HRep X.K X.mg H1 m1 ∧ Ext H H1 ∧ (LenSetT d m1 P ∨ LenSetN d m1 P)) I
      ⟨x0, δ, m, _, e, h, t, fun d m1 t1 v H1 x1 r1 h1 => ⟨d, m1, r1, h1, x1, t1⟩⟩
    refine PyProof.Rows.callWith_type1 (PyProof.Rows.args_cons (thn hh fun v s1 ⟨x, H1, I1, r1, d, m1, rd, h1, x1, t1⟩ => PyProof.Rows.args_nil ?_) na) na rfl
    rcases t1 with ⟨xs, e1, hz, p1⟩ | ⟨xs, ks, e1, e2, hx, hz, hd, tm, p1⟩
    · obtain ⟨l, vs, rfl, hq, rr⟩ := asQ_rep h1 rd e1
      obtain rfl := rr.map_str
      cases r1
      obtain ⟨its, r, hl⟩ : ∃ its : List Value, Vals (xs.map V.str) its ∧ (s1.heap.IsList l its.toArray ∨ s1.heap.IsTuple l its.toArray) := by
        rcases hq with hq | hq
        · obtain ⟨its, r, pl, _⟩ := I1.list hq
          exact ⟨its, r, .inl pl.isList⟩
        · obtain ⟨its, r, pt, _⟩ := I1.tuple hq
          exact ⟨its, r, .inr pt⟩
      refine set_texts (I1.ok.hd hc) hl (by simpa using strsAre_of r) hz fun h' tk' hS hk => PyProof.Rows.args_nil ?_
      obtain ⟨o, es, ep, tt, ho, hex, hd, _, _, _, hf, hn⟩ := hS
      have I2 : Inv X pins σ H1 { s1 with heap := h', toks := tk' } := I1.kept fun b o e => hk b o (Heap.lt_size e) e
      have := @met_len xs
      unfold scanBound at hz
      refine call_len_set ho hex hd hf (by rw [hn] <;> omega) ⟨.int (met xs).length, H1, I2.tok _, ⟨_, by rw [hn]⟩, ?_⟩
      exact qq _ _ p1 _ H1 x1 rfl h1
    · obtain ⟨l, vs, rfl, hq, rr⟩ := asQ_rep h1 rd e1
      cases r1
      obtain ⟨its, rv, hl⟩ : ∃ its : List Value, Vals vs its ∧ (s1.heap.IsList l its.toArray ∨ s1.heap.IsTuple l its.toArray) := by
        rcases hq with hq | hq
        · obtain ⟨its, r, pl, _⟩ := I1.list hq
          exact ⟨its, r, .inl pl.isList⟩
        · obtain ⟨its, r, pt, _⟩ := I1.tuple hq
          exact ⟨its, r, .inr pt⟩
      obtain ⟨L, f1, f2, f3⟩ := nl_of (keysD_rep I1 rr rv e2) e2 hx
      have hlen : L.length = xs.length := by
        have a1 := rr.len
        have a2 := rv.length
        rw [f1, List.length_map] at a2
        omega
      refine set_nested (ks := L) (I1.ok.hd hc) hl (by simpa using f1) f3 (by omega) (by rw [f2]; exact tm _) (fun p hp => by have := hd p.2 (by rw [← f2]; exact List.mem_map.mpr ⟨p, hp, rfl⟩); omega) fun h' tk' L' es ep tt hS g hk => PyProof.Rows.args_nil ?_
      obtain ⟨o, ho, hex, hdd⟩ := hS.ob
      have I2 : Inv X pins σ H1 { s1 with heap := h', toks := tk' } := I1.kept fun b o e => hk b o e
      have hn := size_rows hS.rows
      have few := hS.few
      refine call_len_set ho hex hdd (hS.fits (s := { s1 with heap := h', toks := tk' })) (by rw [hn]; omega) ⟨.int L'.length, H1, I2.tok _, ⟨_, by rw [hn]⟩, ?_⟩
      have := p1 (L'.map (·.2)) hS.nd fun k => ⟨fun hk => ?_, fun hk => ?_⟩
      · rw [List.length_map] at this
        exact qq _ _ this _ H1 x1 rfl h1
      · obtain ⟨p, hp, rfl⟩ := List.mem_map.mp hk
        rw [← f2]
        exact List.mem_map.mpr ⟨p, List.mem_of_mem_take (g.sub p hp), rfl⟩
      · rw [← f2] at hk
        obtain ⟨p, hp, rfl⟩ := List.mem_map.mp hk
        exact g.all p (by rw [List.take_length]; exact hp)⟩⟩
end
end L2.AP
set_option Elab.async false
set_option linter.all false
set_option maxRecDepth 100000
set_option maxHeartbeats 8000000
/-! AP5s: the order of keys, sorted lists of nested tuples. -/
namespace L2.AP
open PySem PySem.Spec PyProof.Rows
/-! ### the order -/
mutual
def ltK : NestedKey → NestedKey → Bool
  | .none, y => match y with | .none => false | _ => true
  | .num a, y => match y with | .none => false | .num b => decide (a < b) | _ => true
  | .text x, y => match y with | .text z => decide (x.cps.toList < z.cps.toList) | .tup _ => true | _ => false
  | .tup xs, y => match y with | .tup ys => ltKs xs ys | _ => false
def ltKs : List NestedKey → List NestedKey → Bool
  | [], ys => match ys with | [] => false | _ => true
  | x :: xs, ys => match ys with | [] => false | y :: r => if x = y then ltKs xs r else ltK x y
end
mutual
theorem ltK_irr : ∀ x : NestedKey, ltK x x = false
  | .none => rfl
  | .num _ => by simp [ltK]
  | .text x => by simp [ltK, List.lt_irrefl]
  | .tup xs => by rw [ltK]; exact ltKs_irr xs
theorem ltKs_irr : ∀ xs : List NestedKey, ltKs xs xs = false
  | [] => rfl
  | x :: xs => by rw [ltKs]; simp [ltKs_irr xs]
end
theorem cps_inj {x y : Str} (h : x.cps.toList = y.cps.toList) : x = y := by
  cases x; cases y
  simp only at h
  rw [Array.toList_inj.mp h]
mutual
theorem ltK_tri : ∀ x y : NestedKey, ltK x y = false → ltK y x = false → x = y
  | .none, y, h1, h2 => by cases y <;> simp [ltK] at h1 h2 ⊢
  | .num a, y, h1, h2 => by
    cases y <;> simp [ltK] at h1 h2 ⊢
    omega
  | .text x, y, h1, h2 => by
    cases y <;> simp [ltK] at h1 h2 ⊢
    exact cps_inj (List.le_antisymm h2 h1)
  | .tup xs, y, h1, h2 => by
    cases y <;> simp [ltK] at h1 h2 ⊢
    exact ltKs_tri xs _ h1 h2
theorem ltKs_tri : ∀ xs ys : List NestedKey, ltKs xs ys = false → ltKs ys xs = false → xs = ys
  | [], ys, h1, h2 => by cases ys <;> simp [ltKs] at h1 ⊢
  | x :: xs, ys, h1, h2 => by
    cases ys with
    | nil => simp [ltKs] at h2
    | cons y ys =>
      simp only [ltKs] at h1 h2
      by_cases e : x = y
      · subst e
        simp only [if_true] at h1 h2
        rw [ltKs_tri xs ys h1 h2]
      · rw [if_neg e] at h1
        rw [if_neg (fun z => e z.symm)] at h2
        exact absurd (ltK_tri x y h1 h2) e
end
mutual
theorem ltK_tr : ∀ x y z : NestedKey, ltK x y = true → ltK y z = true → ltK x z = true
  | .none, y, z, h1, h2 => by cases y <;> cases z <;> simp [ltK] at h1 h2 ⊢
  | .num a, y, z, h1, h2 => by
    cases y <;> cases z <;> simp [ltK] at h1 h2 ⊢
    omega
  | .text x, y, z, h1, h2 => by
    cases y <;> cases z <;> simp [ltK] at h1 h2 ⊢
    exact List.lt_trans h1 h2
  | .tup xs, y, z, h1, h2 => by
    cases y <;> cases z <;> simp [ltK] at h1 h2 ⊢
    exact ltKs_tr xs _ _ h1 h2
theorem ltKs_tr : ∀ xs ys zs : List NestedKey, ltKs xs ys = true → ltKs ys zs = true → ltKs xs zs = true
  | [], ys, zs, h1, h2 => by cases ys <;> cases zs <;> simp [ltKs] at h1 h2 ⊢
  | x :: xs, ys, zs, h1, h2 => by
    cases ys with
    | nil => simp [ltKs] at h1
    | cons y ys =>
      cases zs with
      | nil => simp [ltKs] at h2
      | cons z zs =>
        simp only [ltKs] at h1 h2 ⊢
        by_cases e1 : x = y
        · subst e1
          rw [if_pos rfl] at h1
          by_cases e2 : x = z
          · subst e2
            rw [if_pos rfl] at h2 ⊢
            exact ltKs_tr xs ys zs h1 h2
          · rw [if_neg e2] at h2 ⊢
            exact h2
        · rw [if_neg e1] at h1
          by_cases e2 : y = z
          · subst e2
            rw [if_neg e1]
            exact h1
          · rw [if_neg e2] at h2
            have t := ltK_tr x y z h1 h2
            by_cases e3 : x = z
            · subst e3
              rw [ltK_irr] at t
              cases t
            · rw [if_neg e3]
              exact t
end
theorem swoK {α : Type} (k : α → NestedKey) : SrtO.Swo fun v u => ltK (k v) (k u) := by
  refine ⟨fun x y h => ?_, fun x y z h1 h2 => ?_⟩
  · cases c : ltK (k y) (k x) with
    | false => rfl
    | true =>
      have := ltK_tr _ _ _ h c
      rw [ltK_irr] at this
      cases this
  · cases c : ltK (k z) (k x) with
    | false => rfl
    | true =>
      cases d : ltK (k x) (k y) with
      | true =>
        have := ltK_tr _ _ _ c d
        rw [h2] at this
        cases this
      | false =>
        have e := ltK_tri _ _ h1 d
        rw [← e] at c
        rw [h2] at c
        cases c
/-! ### what can be compared -/
mutual
def cmpOk : NestedKey → NestedKey → Bool
  | .num _, y => match y with | .num _ => true | _ => false
  | .text _, y => match y with | .text _ => true | _ => false
  | .tup xs, y => match y with | .tup ys => cmpOks xs ys | _ => false
  | .none, _ => false
def cmpOks : List NestedKey → List NestedKey → Bool
  | [], _ => true
  | x :: xs, ys => match ys with | [] => true | y :: r => (decide (x = y) || cmpOk x y) && cmpOks xs r
end
theorem lexAt_shift {e r : Nat → Bool} {z : Bool} : ∀ (k i : Nat), Ob.lexAt e r z (i + 1) k = Ob.lexAt (fun j => e (j + 1)) (fun j => r (j + 1)) z i k
  | 0, _ => rfl
  | k + 1, i => by rw [Ob.lexAt_succ, Ob.lexAt_succ, lexAt_shift k (i + 1)]
theorem lexK : ∀ (xs ys : List NestedKey), Ob.lexAt (keyEqAt xs ys) (fun j => ltK (xs.getD j .none) (ys.getD j .none)) (decide (xs.length < ys.length)) 0 (min xs.length ys.length) = ltKs xs ys
  | [], ys => by
    cases ys <;> simp [Ob.lexAt, ltKs]
  | x :: xs, [] => by simp [Ob.lexAt, ltKs]
  | x :: xs, y :: ys => by
    have ih := lexK xs ys
    have e1 : min (x :: xs).length (y :: ys).length = min xs.length ys.length + 1 := by simp only [List.length_cons]; omega
    have e2 : decide ((x :: xs).length < (y :: ys).length) = decide (xs.length < ys.length) := by simp only [List.length_cons]; exact decide_eq_decide.mpr (by omega)
    rw [e1, e2, Ob.lexAt_succ, lexAt_shift]
    have e3 : keyEqAt (x :: xs) (y :: ys) 0 = decide (x = y) := by rw [NestedKey.decide_eq]; rfl
    rw [e3, ltKs]
    by_cases c : x = y
    · rw [if_pos (by simpa using c), if_pos c]
      exact ih
    · rw [if_neg (by simpa using c), if_neg c]
      rfl
/-! ### keys without truths -/
mutual
inductive PlIs (h : Heap) : NestedKey → Value → Prop
  | n : PlIs h .none .none
  | i (j : Int) (t : Tok) : PlIs h (.num j) (.int j t)
  | s (x : Str) (t : Tok) : PlIs h (.text x) (.str x t)
  | t {ks : List NestedKey} {p : Addr} {its : List Value} (q : h.IsTuple p its.toArray) (r : PlAll h ks its) : PlIs h (.tup ks) (.ref p)
inductive PlAll (h : Heap) : List NestedKey → List Value → Prop
  | nil : PlAll h [] []
  | cons {k : NestedKey} {v : Value} {ks : List NestedKey} {vs : List Value} (a : PlIs h k v) (b : PlAll h ks vs) : PlAll h (k :: ks) (v :: vs)
end
mutual
theorem PlIs.nested {h : Heap} : ∀ (k : NestedKey) (v : Value), PlIs h k v → NestedIs h k v
  | .none, _, x => by cases x; exact .none
  | .num _, _, x => by cases x; exact .int _ _
  | .text _, _, x => by cases x; exact .text _ _
  | .tup ks, _, x => by
    cases x with
    | t q r =>
      obtain ⟨o, ho, hc, n, hd⟩ := q
      exact .tup ho hc hd (PlAll.nested ks _ r)
theorem PlAll.nested {h : Heap} : ∀ (ks : List NestedKey) (vs : List Value), PlAll h ks vs → NestedAll h ks vs
  | [], _, x => by cases x; exact .nil
  | k :: ks, _, x => by
    cases x with
    | cons a b => exact .cons (PlIs.nested k _ a) (PlAll.nested ks _ b)
end
mutual
theorem PlIs.keep {h h' : Heap} (hk : ∀ b o, h.get? b = some o → o.cls = .type "tuple" → h'.get? b = some o) : ∀ (k : NestedKey) (v : Value), PlIs h k v → PlIs h' k v
  | .none, _, x => by cases x; exact .n
  | .num _, _, x => by cases x; exact .i _ _
  | .text _, _, x => by cases x; exact .s _ _
  | .tup ks, _, x => by
    cases x with
    | t q r =>
      obtain ⟨o, ho, hc, n, hd⟩ := q
      exact .t ⟨o, hk _ _ ho hc, hc, n, hd⟩ (PlAll.keep hk ks _ r)
theorem PlAll.keep {h h' : Heap} (hk : ∀ b o, h.get? b = some o → o.cls = .type "tuple" → h'.get? b = some o) : ∀ (ks : List NestedKey) (vs : List Value), PlAll h ks vs → PlAll h' ks vs
  | [], _, x => by cases x; exact .nil
  | k :: ks, _, x => by
    cases x with
    | cons a b => exact .cons (PlIs.keep hk k _ a) (PlAll.keep hk ks _ b)
end
theorem PlAll.len {h : Heap} : ∀ {ks : List NestedKey} {vs : List Value}, PlAll h ks vs → vs.length = ks.length
  | [], _, x => by cases x; rfl
  | k :: ks, _, x => by
    cases x with
    | cons a b => rw [List.length_cons, List.length_cons, PlAll.len b]
mutual
theorem rc_key : ∀ (x y : NestedKey) (A : Around) (s : Shared) (a b : Value), cmpOk x y = true → PlIs s.heap x a → PlIs s.heap y b → A.units + x.depth < cLine → Ob.RcOp .Lt A s a b (ltK x y)
  | .num i, y, A, s, a, b, h, ra, rb, hu => by
    cases y with
    | num j =>
      cases ra
      cases rb
      exact Ob.RcOp.lt_int i j _ _
    | _ => simp [cmpOk] at h
  | .text x, y, A, s, a, b, h, ra, rb, hu => by
    cases y with
    | text z =>
      cases ra
      cases rb
      exact fun _ _ _ _ q => PyProof.Rows.lt_str q
    | _ => simp [cmpOk] at h
  | .none, y, A, s, a, b, h, ra, rb, hu => by simp [cmpOk] at h
  | .tup xs, y, A, s, a, b, h, ra, rb, hu => by
    cases y with
    | tup ys =>
      cases ra with
      | t q r =>
        cases rb with
        | t q' r' =>
          simp only [NestedKey.depth] at hu
          have l1 := r.len
          have l2 := r'.len
          have hu1 : A.in1.units + NestedKey.depthAll xs < cLine := by simp only [Around.in1_units]; omega
          have R := Ob.RcOp.tuples_lt (A := A) (s := s) (e := keyEqAt xs ys) (r := fun j => ltK (xs.getD j .none) (ys.getD j .none)) q q' (by omega)
            (fun j h1 h2 => by simpa using eqAt_keys xs ys A.in1 s _ _ (PlAll.nested _ _ r) (PlAll.nested _ _ r') (by omega) j (by simpa using h1) (by simpa using h2))
            (fun j h1 h2 e => by simpa using rc_keys xs ys A.in1 s _ _ (by simpa [cmpOk] using h) r r' hu1 j (by simpa using h1) (by simpa using h2) e)
          simp only [List.size_toArray, l1, l2] at R
          rw [lexK] at R
          rw [ltK]
          exact R
    | _ => simp [cmpOk] at h
theorem rc_keys : ∀ (xs ys : List NestedKey) (A : Around) (s : Shared) (vs ws : List Value), cmpOks xs ys = true → PlAll s.heap xs vs → PlAll s.heap ys ws → A.units + NestedKey.depthAll xs < cLine →
    ∀ j (h1 : j < vs.length) (h2 : j < ws.length), keyEqAt xs ys j = false → Ob.RcOp .Lt A s vs[j] ws[j] (ltK (xs.getD j .none) (ys.getD j .none))
  | [], _, _, _, _, _, _, ra, _, _, j, h1, _, _ => by cases ra; exact absurd h1 (Nat.not_lt_zero _)
  | _ :: _, [], _, _, _, _, _, _, rb, _, j, _, h2, _ => by cases rb; exact absurd h2 (Nat.not_lt_zero _)
  | x :: xs, y :: ys, A, s, _, _, hc, ra, rb, hu, j, h1, h2, e => by
    simp only [cmpOks, Bool.and_eq_true, Bool.or_eq_true] at hc
    simp only [NestedKey.depthAll] at hu
    cases ra with
    | cons a r =>
      cases rb with
      | cons b r' =>
        cases j with
        | zero =>
          have e' : NestedKey.beq x y = false := e
          have ne : cmpOk x y = true := by
            rcases hc.1 with z | z
            · rw [NestedKey.decide_eq, e'] at z
              cases z
            · exact z
          exact rc_key x y A s _ _ ne a b (by omega)
        | succ j => exact rc_keys xs ys A s _ _ hc.2 r r' (by omega) j (Nat.lt_of_succ_lt_succ h1) (Nat.lt_of_succ_lt_succ h2) e
end
/-! ### the sort's own look at tuples -/
def lexF (fin : Bool) : List NestedKey → List NestedKey → Bool
  | [], _ => fin
  | x :: xs, ys => match ys with | [] => fin | y :: r => if x = y then lexF fin xs r else ltK x y
theorem lexF_eq : ∀ (xs ys : List NestedKey) (n : Nat), lexF (decide (n + xs.length < n + ys.length)) xs ys = ltKs xs ys
  | [], ys, n => by cases ys <;> simp [lexF, ltKs]
  | x :: xs, [], n => by simp [lexF, ltKs]
  | x :: xs, y :: ys, n => by
    have ih := lexF_eq xs ys (n + 1)
    have e : decide (n + (x :: xs).length < n + (y :: ys).length) = decide (n + 1 + xs.length < n + 1 + ys.length) := by simp only [List.length_cons]; exact decide_eq_decide.mpr (by omega)
    rw [lexF, ltKs, e]
    by_cases c : x = y
    · rw [if_pos c, if_pos c]; exact ih
    · rw [if_neg c, if_neg c]
section
variable {prog : Program} {w : World} {A : Around} {E : Value → Shared → Prop} {s : Shared} {b fin : Bool}
theorem kat_keys {R : Bool} : ∀ (ks ls : List NestedKey) (us ws : List Value) (i : Nat), PlAll s.heap ks us → PlAll s.heap ls ws → A.units + NestedKey.depthAll ks < cLine → cmpOks ks ls = true →
    (b = true → i = 0 → ∀ k ∈ ks.head?, ∃ j, k = .num j) → lexF fin ks ls = R → PySem.W.KatLex prog w A b fin (fun r s' => s' = s ∧ r = R) (us.zip ws) i s
  | [], ls, us, ws, i, ra, rb, hu, hc, hb, e => by
    cases ra
    rw [List.zip_nil_left]
    exact PySem.W.kat_nil ⟨rfl, by rw [← e]; rfl⟩
  | k :: ks, [], us, ws, i, ra, rb, hu, hc, hb, e => by
    cases rb
    rw [List.zip_nil_right]
    exact PySem.W.kat_nil ⟨rfl, by rw [← e]; rfl⟩
  | k :: ks, l :: ls, us, ws, i, ra, rb, hu, hc, hb, e => by
    simp only [cmpOks, Bool.and_eq_true, Bool.or_eq_true] at hc
    simp only [NestedKey.depthAll] at hu
    cases ra with
    | @cons _ u _ us a r =>
      cases rb with
      | @cons _ v _ ws a' r' =>
        rw [List.zip_cons_cons]
        refine PySem.W.kat_cons (eqAt_key k l A s u v (PlIs.nested _ _ a) (PlIs.nested _ _ a') (by omega) prog w _ _ ?_)
        rw [← NestedKey.decide_eq]
        refine PySem.W.kat_go (fun e1 => ?_) (fun e1 => ?_)
        · have ek : k = l := by simpa using e1
          rw [lexF, if_pos ek] at e
          exact PySem.W.kat_yes (kat_keys ks ls us ws (i + 1) r r' (by omega) hc.2 (fun _ z => absurd z (by omega)) e)
        · have ek : ¬ k = l := by simpa using e1
          rw [lexF, if_neg ek] at e
          have ne : cmpOk k l = true := by
            rcases hc.1 with z | z
            · exact absurd (of_decide_eq_true z) ek
            · exact z
          by_cases hbi : (b && i == 0) = true
          · simp only [Bool.and_eq_true, beq_iff_eq] at hbi
            obtain ⟨j, rfl⟩ := hb hbi.1 hbi.2 k rfl
            cases l with
            | num j' =>
              cases a
              cases a'
              refine PySem.W.kat_no ?_
              rw [hbi.1, hbi.2]
              exact oneLt_int ⟨rfl, e⟩
            | _ => simp [cmpOk] at ne
          · have hbi' : (b && i == 0) = false := by simpa using hbi
            refine PySem.W.kat_no ?_
            rw [hbi']
            exact PySem.W.kat_one _ _ (rc_key k l A s u v ne a a' (by omega) prog w _ _ (show s = s ∧ ltK k l = R from ⟨rfl, e⟩))
/-- what stands first in each -/
def First (b : Bool) (k : NestedKey) : Prop := ∃ f r, k = .tup (f :: r) ∧ (b = true → ∃ j, f = .num j) ∧ (b = false → ∃ l, f = .tup l)
theorem firstsK {h : Heap} {b : Bool} {kf : Value → NestedKey} : ∀ {vs : List Value}, (∀ v ∈ vs, First b (kf v) ∧ PlIs h (kf v) v) → ∃ fs : List Value, PySem.W.KatTups h vs fs ∧ fs.length = vs.length ∧ ∀ f ∈ fs, ∃ k, PlIs h k f ∧ (b = true → ∃ j, k = .num j) ∧ (b = false → ∃ l, k = .tup l)
  | [], _ => ⟨[], PySem.W.KatTups.nil, rfl, fun _ hm => by cases hm⟩
  | v :: vs, hp => by
    obtain ⟨fs, h1, h2, h3⟩ := firstsK (vs := vs) fun v' hm => hp v' (List.mem_cons_of_mem _ hm)
    obtain ⟨⟨f, r, ek, c1, c2⟩, pl⟩ := hp v List.mem_cons_self
    rw [ek] at pl
    cases pl with
    | @t _ p its q al =>
      obtain ⟨o, ho, hc, n, hd⟩ := q
      cases al with
      | @cons _ u _ us a bb =>
        refine ⟨u :: fs, PySem.W.KatTups.cons ho hc hd (by simp) h1, by rw [List.length_cons, List.length_cons, h2], fun g hm => ?_⟩
        rcases List.mem_cons.mp hm with e | hm
        · rw [e]; exact ⟨f, a, c1, c2⟩
        · exact h3 g hm
theorem keys_sortable {a : Addr} {vs : List Value} {kf : Value → NestedKey} (h0 : 0 < vs.length) (hp : ∀ v ∈ vs, First b (kf v) ∧ PlIs s.heap (kf v) v) (hc : ∀ v ∈ vs, ∀ u ∈ vs, cmpOk (kf v) (kf u) = true) (hu : ∀ v ∈ vs, A.units + (kf v).depth < cLine)
    (ha : ∀ o, s.heap.get? a = some o → o.cls ≠ .type "tuple") : SrtO.SortableO prog w A s a vs fun v u => ltK (kf v) (kf u) := by
  intro h' keep
  have hp' : ∀ v ∈ vs, First b (kf v) ∧ PlIs h' (kf v) v := fun v hm => ⟨(hp v hm).1, PlIs.keep (fun c o e t => keep c o (fun z => by subst z; exact ha o e t) e) _ _ (hp v hm).2⟩
  obtain ⟨fs, h1, h2, h3⟩ := firstsK hp'
  refine ⟨tuples' b, fun Q E hq => ?_, fun p q hm hm' => ?_⟩
  · cases b with
    | true =>
      refine PySem.W.kat_kind (T := .type "int") h1 (by omega) (fun f hm => ?_) (by rfl) ?_
      · obtain ⟨k, pl, c, _⟩ := h3 f hm
        obtain ⟨j, rfl⟩ := c rfl
        cases pl
        exact PySem.W.Looks.now
      · have e : (Value.type "int" != Value.type "tuple") = true := by decide
        rw [e]
        exact hq
    | false =>
      refine PySem.W.kat_kind (T := .type "tuple") h1 (by omega) (fun f hm => ?_) (by rfl) ?_
      · obtain ⟨k, pl, _, c⟩ := h3 f hm
        obtain ⟨l, rfl⟩ := c rfl
        cases pl with
        | t q r =>
          obtain ⟨o, ho, ht, _⟩ := q
          exact fun A Q E s k q => wpAny_typeOf (T := "tuple") ⟨o, k _ _ ho, ht⟩ q
      · have e : (Value.type "tuple" != Value.type "tuple") = false := by decide
        rw [e]
        exact hq
  · obtain ⟨⟨f, r, e1, c1, c2⟩, p1⟩ := hp' _ hm
    obtain ⟨⟨f', r', e2, _, _⟩, p2⟩ := hp' _ hm'
    have cc := hc _ hm _ hm'
    have uu := hu _ hm
    show wpAny (model prog w) A (keyLt' (tuples' b) p.1 q.1) (fun r s' => s' = _ ∧ r = ltK (kf p.1) (kf q.1)) (fun _ _ => False) _
    generalize p.1 = v at *
    generalize q.1 = u at *
    generalize kf v = kv at *
    generalize kf u = ku at *
    subst e1 e2
    cases p1 with
    | @t _ _ i1 q1 r1 =>
      cases p2 with
      | @t _ _ i2 q2 r2 =>
        obtain ⟨o, ho, _, n, hd⟩ := q1
        obtain ⟨o', ho', _, n', hd'⟩ := q2
        refine PySem.W.kat_lt ho hd ho' hd' ?_
        simp only [NestedKey.depth] at uu
        refine kat_keys (f :: r) (f' :: r') _ _ 0 r1 r2 (by omega) (by simpa [cmpOk] using cc) (fun hb _ k hk => ?_) ?_
        · simp only [List.head?_cons, Option.mem_some_iff] at hk
          subst hk
          exact c1 hb
        · have e := lexF_eq (f :: r) (f' :: r') 0
          simp only [Nat.zero_add] at e
          rw [ltK, ← e]
          have l1 := r1.len
          have l2 := r2.len
          simp only [List.size_toArray, l1, l2]
end
/-- a rearrangement is carried back over a function -/
theorem perm_back {α β : Type} {f : α → β} : ∀ {out l : List β}, out.Perm l → ∀ {Z : List α}, l = Z.map f → ∃ Z' : List α, Z'.Perm Z ∧ out = Z'.map f := by
  intro out l h
  induction h with
  | nil =>
    intro Z e
    have : Z = [] := by cases Z <;> simp at e ⊢
    subst this
    exact ⟨[], .nil, rfl⟩
  | @cons x l1 l2 p ih =>
    intro Z e
    cases Z with
    | nil => simp at e
    | cons z Z =>
      rw [List.map_cons, List.cons.injEq] at e
      obtain ⟨Z', p', e'⟩ := ih e.2
      exact ⟨z :: Z', p'.cons z, by rw [List.map_cons, ← e', e.1]⟩
  | swap x y l =>
    intro Z e
    match Z, e with
    | a :: b :: Z, e =>
      simp only [List.map_cons, List.cons.injEq] at e
      exact ⟨b :: a :: Z, .swap a b Z, by rw [List.map_cons, List.map_cons, ← e.1, ← e.2.1, ← e.2.2]⟩
    | [], e => simp at e
    | [_], e => simp at e
  | trans p1 p2 ih1 ih2 =>
    intro Z e
    obtain ⟨Z2, q2, e2⟩ := ih2 e
    obtain ⟨Z1, q1, e1⟩ := ih1 e2
    exact ⟨Z1, q1.trans q2, e1⟩
/-! ### sorted(xs) -/
mutual
/-- no truth in it -/
def noBl : D → Bool
  | .bl _ => false
  | .tup xs => noBls xs
  | _ => true
def noBls : List D → Bool
  | [] => true
  | d :: ds => noBl d && noBls ds
end
section
variable {X : Cx}
mutual
theorem pl_rep : ∀ {d : D} {v : V} {u : Value} {k : NestedKey} {pins : List (Addr × Obj)} {σ : St} {H : Hp} {s : Shared}, Inv X pins σ H s → Rep X.K X.mg H d v → RelV v u → noBl d = true → keyD d = some k → PlIs s.heap k u
  | .non, _, _, _, _, _, _, _, _, r, ru, _, e => by cases r; cases e; obtain rfl : _ = Value.none := ru; exact .n
  | .bl b, _, _, _, _, _, _, _, _, r, ru, nb, e => by simp [noBl] at nb
  | .int i, _, _, _, _, _, _, _, _, r, ru, _, e => by cases r; cases e; obtain ⟨t, rfl⟩ := ru; exact .i _ _
  | .str x, _, _, _, _, _, _, _, _, r, ru, _, e => by cases r; cases e; obtain ⟨t, rfl⟩ := ru; exact .s _ _
  | .ref _, _, _, _, _, _, _, _, _, _, _, _, e => by cases e
  | .ty _, _, _, _, _, _, _, _, _, _, _, _, e => by cases e
  | .fn _, _, _, _, _, _, _, _, _, _, _, _, e => by cases e
  | .rdl _, _, _, _, _, _, _, _, _, _, _, _, e => by cases e
  | .lst _, _, _, _, _, _, _, _, _, _, _, _, e => by cases e
  | .tup ds, _, _, _, _, _, _, _, I, r, ru, nb, e => by
    obtain ⟨a, vs, rfl, s1, q1⟩ := r
    obtain rfl : _ = Value.ref a := ru
    simp only [keyD] at e
    obtain ⟨ks, e1, rfl⟩ := Option.map_eq_some_iff.mp e
    obtain ⟨its, rv, pt, _⟩ := I.tuple s1
    exact .t pt (pls_rep I q1 rv (by simpa [noBl] using nb) e1)
theorem pls_rep : ∀ {ds : List D} {vs : List V} {us : List Value} {ks : List NestedKey} {pins : List (Addr × Obj)} {σ : St} {H : Hp} {s : Shared}, Inv X pins σ H s → Reps X.K X.mg H ds vs → Vals vs us → noBls ds = true → keysD ds = some ks → PlAll s.heap ks us
  | [], _, _, _, _, _, _, _, I, r, ru, _, e => by
    rw [show _ = [] from r] at ru
    cases ru
    cases e
    exact .nil
  | d :: ds, _, _, _, _, _, _, _, I, ⟨v, r, h1, h2, h3⟩, ru, nb, e => by
    rw [h1] at ru
    simp only [noBls, Bool.and_eq_true] at nb
    obtain ⟨k, ks, rfl, e1, e2⟩ := keysD_cons e
    cases ru with
    | cons r1 r2 => exact .cons (pl_rep I h2 r1 nb.1 e1) (pls_rep I h3 r2 nb.2 e2)
end
end
def keyL (d : D) : NestedKey := (keyD d).getD .none
def ltD (x y : D) : Bool := ltK (keyL x) (keyL y)
/-- what may be sorted: tuples that can be compared -/
def SortOk (b : Bool) (xs : List D) : Prop := noBls xs = true ∧ (∀ x ∈ xs, ∃ k, keyD x = some k ∧ First b k ∧ k.depth ≤ 180) ∧ ∀ x ∈ xs, ∀ y ∈ xs, cmpOk (keyL x) (keyL y) = true
def rSortedK (X : Cx) : List V → Hp → VK → Prop := fun vs H Q => ∃ (a : Addr) (us : List V) (xs : List D) (b : Bool), vs = [.ref a] ∧ SqL X.K H a us ∧ Reps X.K X.mg H xs us ∧ SortOk b xs ∧
  ∀ (p : Addr) (ys : List D) (ws : List V), ys.Perm xs → (ys.Pairwise fun x y => ltD y x = false) → Reps X.K X.mg H ys ws → H p = none → Q (.ref p) (upd H p (.lst ws))
theorem zip3 {K : PySem.W.Frag} {mg : Str → Option Value} {H : Hp} : ∀ {xs : List D} {us : List V} {its : List Value}, Reps K mg H xs us → Vals us its → ∃ Z : List (Value × V × D), its = Z.map (·.1) ∧ us = Z.map (fun z => z.2.1) ∧ xs = Z.map (fun z => z.2.2) ∧ ∀ z ∈ Z, RelV z.2.1 z.1 ∧ Rep K mg H z.2.2 z.2.1
  | [], us, its, r, rv => by
    rw [show us = [] from r] at rv ⊢
    cases rv
    exact ⟨[], rfl, rfl, rfl, fun z hz => by cases hz⟩
  | x :: xs, _, its, ⟨v, r, h1, h2, h3⟩, rv => by
    rw [h1] at rv ⊢
    cases rv with
    | cons r1 r2 =>
      obtain ⟨Z, e1, e2, e3, al⟩ := zip3 h3 r2
      refine ⟨(_, v, x) :: Z, by rw [e1]; rfl, by rw [e2]; rfl, by rw [e3]; rfl, fun z hz => ?_⟩
      rcases List.mem_cons.mp hz with e | hz
      · rw [e]; exact ⟨r1, h2⟩
      · exact al z hz
theorem unzip3 {K : PySem.W.Frag} {mg : Str → Option Value} {H : Hp} : ∀ {Z : List (Value × V × D)}, (∀ z ∈ Z, RelV z.2.1 z.1 ∧ Rep K mg H z.2.2 z.2.1) → Reps K mg H (Z.map fun z => z.2.2) (Z.map fun z => z.2.1) ∧ Vals (Z.map fun z => z.2.1) (Z.map (·.1))
  | [], _ => ⟨rfl, .nil⟩
  | z :: Z, h => by
    obtain ⟨a, b⟩ := unzip3 fun y hy => h y (List.mem_cons_of_mem _ hy)
    obtain ⟨c, d⟩ := h z List.mem_cons_self
    exact ⟨⟨_, _, rfl, d, a⟩, .cons c b⟩
section
variable {X : Cx}
theorem noBls_mem {xs : List D} (h : noBls xs = true) : ∀ x ∈ xs, noBl x = true := by
  induction xs with
  | nil => intro x hx; cases hx
  | cons y ys ih =>
    simp only [noBls, Bool.and_eq_true] at h
    intro x hx
    rcases List.mem_cons.mp hx with e | hx
    · rw [e]; exact h.1
    · exact ih h.2 x hx
theorem cr_sortedK (hu : X.A.units + 190 < cLine) : CallR X (.builtin "sorted") (rSortedK X) := by
  intro pins s σ H vs us0 Q I r h
  obtain ⟨a, us, xs, b, rfl, hs, hr, ⟨nb, hk, hc⟩, q⟩ := h
  obtain ⟨its, rv, hl, hz⟩ := I.list hs
  obtain ⟨u, rfl, ru⟩ := vals1 r
  obtain rfl : u = Value.ref a := ru
  obtain ⟨Z, e1, e2, e3, al⟩ := zip3 hr rv
  classical
  let kf : Value → NestedKey := fun v => if h : ∃ k, PlIs s.heap k v then h.choose else .none
  have kfs : ∀ {k v}, PlIs s.heap k v → kf v = k := fun {k v} p => by
    have hx : ∃ k, PlIs s.heap k v := ⟨k, p⟩
    show (if h : ∃ k, PlIs s.heap k v then h.choose else .none) = k
    rw [dif_pos hx]
    exact NestedIs.inj _ _ _ (PlIs.nested _ _ hx.choose_spec) (PlIs.nested _ _ p)
  have pz : ∀ z ∈ Z, ∃ k, keyD z.2.2 = some k ∧ PlIs s.heap k z.1 ∧ First b k ∧ k.depth ≤ 180 ∧ kf z.1 = k ∧ keyL z.2.2 = k := fun z hz => by
    have mx : z.2.2 ∈ xs := by rw [e3]; exact List.mem_map.mpr ⟨z, hz, rfl⟩
    obtain ⟨k, ek, f, d⟩ := hk _ mx
    have p := pl_rep I (al z hz).2 (al z hz).1 (noBls_mem nb _ mx) ek
    exact ⟨k, ek, p, f, d, kfs p, by unfold keyL; rw [ek]; rfl⟩
  have vz : ∀ v ∈ its, ∃ z ∈ Z, v = z.1 := fun v hv => by
    rw [e1] at hv
    obtain ⟨z, hz, e⟩ := List.mem_map.mp hv
    exact ⟨z, hz, e.symm⟩
  refine SrtO.sorted_ord (swoK kf) hl.isList (by rw [← rv.length]; exact hz) (fun h2 h₁ c ho kk => ?_) fun out hs hb => ?_
  · refine keys_sortable (s := { s with heap := h₁ }) (b := b) (by omega) (fun v hv => ?_) (fun v hv u hu' => ?_) (fun v hv => ?_) fun o e => ?_
    · obtain ⟨z, hz, rfl⟩ := vz v hv
      obtain ⟨k, _, p, f, _, ekf, _⟩ := pz z hz
      rw [ekf]
      exact ⟨f, PlIs.keep (fun b o e _ => (kk b o e).2) _ _ p⟩
    · obtain ⟨z, hz, rfl⟩ := vz v hv
      obtain ⟨y, hy, rfl⟩ := vz u hu'
      obtain ⟨k, _, _, _, _, ekf, ekl⟩ := pz z hz
      obtain ⟨k', _, _, _, _, ekf', ekl'⟩ := pz y hy
      rw [ekf, ekf', ← ekl, ← ekl']
      exact hc _ (by rw [e3]; exact List.mem_map.mpr ⟨z, hz, rfl⟩) _ (by rw [e3]; exact List.mem_map.mpr ⟨y, hy, rfl⟩)
    · obtain ⟨z, hz, rfl⟩ := vz v hv
      obtain ⟨k, _, _, _, d, ekf, _⟩ := pz z hz
      rw [ekf]
      simp only [Around.in1_units]
      omega
    · have e' : some o = some (seqObj "list" its.toArray 0) := e.symm.trans ho
      cases e'
      intro c
      exact absurd (Value.type.inj c) (by decide)
  · obtain ⟨Z', pZ, eo⟩ := perm_back hb.perm e1
    have al' : ∀ z ∈ Z', RelV z.2.1 z.1 ∧ Rep X.K X.mg H z.2.2 z.2.1 := fun z hz => al z (pZ.mem_iff.mp hz)
    obtain ⟨rr, vv⟩ := unzip3 al'
    rw [← eo] at vv
    obtain ⟨n, hn⟩ := sortedAll_at s.heap its out.toArray
    refine ⟨.ref (s.heap.objs.size + 1), upd H _ (.lst (Z'.map fun z => z.2.1)), I.laid (t' := s.toks) (fun b o e => sortedAll_old e) (Nat.le_succ _) ⟨?_, out, n, vv, hn⟩, rfl, ?_⟩
    · rw [List.length_map, pZ.length_eq]
      have := congrArg List.length e2
      rw [List.length_map] at this
      rw [← this]
      exact hz
    · refine q _ (Z'.map fun z => z.2.2) _ (by rw [e3]; exact pZ.map _) ?_ rr (I.hok.fresh (Nat.le_succ _))
      rw [List.pairwise_map]
      have hs' : out.Pairwise fun x y => ltK (kf y) (kf x) = false := hs
      rw [eo, List.pairwise_map] at hs'
      refine List.Pairwise.imp_of_mem (fun {x y} hx hy h => ?_) hs'
      obtain ⟨k, _, _, _, _, ekf, ekl⟩ := pz x (pZ.mem_iff.mp hx)
      obtain ⟨k', _, _, _, _, ekf', ekl'⟩ := pz y (pZ.mem_iff.mp hy)
      rw [ltD, ekl, ekl', ← ekf, ← ekf']
      exact h
/-- sorted(xs): ints, comparable tuples -/
def sortedR (mu : Bool) (ds : List D) (m : AH) (Q : DQ) : Prop := match ds with
  | [d] => ∃ xs, asL m d = some xs ∧ ((∃ ns : List Int, xs = ns.map D.int ∧ ∀ ms : List Int, ms.Perm ns → ms.Pairwise (· ≤ ·) → if mu = true then ∀ p, m p = none → Q (.ref p) (put m p (.lst (ms.map D.int))) else Q (.lst (ms.map D.int)) m) ∨
    ((∃ b, SortOk b xs) ∧ ∀ ys : List D, ys.Perm xs → (ys.Pairwise fun x y => ltD y x = false) → if mu = true then ∀ p, m p = none → Q (.ref p) (put m p (.lst ys)) else Q (.lst ys) m))
  | _ => False
theorem sortedR_ok (mu : Bool) (hu : X.A.units + 190 < cLine) : DCallR X (.builtin "sorted") (sortedR mu) := by
  refine CallR.imp (CallR.or (CallR.or cr_sortedI (CallR.frz cr_sortedI)) (CallR.or (cr_sortedK hu) (CallR.frz (cr_sortedK hu)))) fun xs H Q ⟨ds, m, P, r, h, t, q⟩ => ?_
  unfold sortedR at t
  split at t
  · obtain ⟨v, r', rfl, r1, rfl⟩ := r
    obtain ⟨xs, e1, t⟩ := t
    obtain ⟨a, vs, rfl, s1, q1⟩ := asL_rep h r1 e1
    rcases t with ⟨ns, rfl, t⟩ | ⟨⟨b, ok⟩, t⟩
    · have e2 := q1.map_int
      subst e2
      cases mu with
      | true =>
        simp only [if_true] at t
        exact .inl (.inl ⟨a, ns, rfl, .inl s1, fun ms p pm sr hp => q.lst h (t ms pm sr) Reps.ints p hp⟩)
      | false =>
        simp only [Bool.false_eq_true, if_false] at t
        exact .inl (.inr ⟨a, ns, rfl, .inl s1, fun ms p pm sr hp => q.frz h (t ms pm sr) Reps.ints p hp⟩)
    · cases mu with
      | true =>
        simp only [if_true] at t
        exact .inr (.inl ⟨a, vs, xs, b, rfl, .inl s1, q1, ok, fun p ys ws pm sr rs hp => q.lst h (t ys pm sr) rs p hp⟩)
      | false =>
        simp only [Bool.false_eq_true, if_false] at t
        exact .inr (.inr ⟨a, vs, xs, b, rfl, .inl s1, q1, ok, fun p ys ws pm sr rs hp => q.frz h (t ys pm sr) rs p hp⟩)
  · exact t.elim
/-! ### d < e -/
def rLtK (X : Cx) : R2 := fun x y H Q => ∃ d e k l, Rep X.K X.mg H d x ∧ Rep X.K X.mg H e y ∧ noBl d = true ∧ noBl e = true ∧ keyD d = some k ∧ keyD e = some l ∧ cmpOk k l = true ∧ k.depth ≤ 130 ∧ Q (.bl (ltK k l)) H
theorem op_ltK (hu : X.A.units + 140 < cLine) : OpR X (compareOp .Lt) (rLtK X) := by
  intro pins s σ H x y v u Q I rx ry ⟨d, e, k, l, r1, r2, n1, n2, e1, e2, c, dp, q⟩
  have p1 := pl_rep I r1 rx n1 e1
  have p2 := pl_rep I r2 ry n2 e2
  exact rc_key k l X.A s v u c p1 p2 (by omega) X.prog X.w X.xe _ ⟨.bl (ltK k l), H, I, rfl, q⟩
/-- ints; tuples that can be compared -/
def ltR (d e : D) (m : AH) (Q : DQ) : Prop := match d, e with
  | .int i, .int j => Q (.bl (decide (i < j))) m
  | d, e => ∃ k l, noBl d = true ∧ noBl e = true ∧ keyD d = some k ∧ keyD e = some l ∧ cmpOk k l = true ∧ k.depth ≤ 130 ∧ Q (.bl (ltK k l)) m
theorem ltR_ok (hu : X.A.units + 140 < cLine) : DOp X (compareOp .Lt) ltR := by
  refine OpR.imp (OpR.or ltI_ok (op_ltK hu)) fun x y H Q ⟨d, e, m, P, r1, r2, h, t, q⟩ => ?_
  unfold ltR at t
  split at t
  · exact .inl ⟨_, _, m, P, r1, r2, h, t, q⟩
  · obtain ⟨k, l, n1, n2, e1, e2, c, dp, p⟩ := t
    exact .inr ⟨d, e, k, l, r1, r2, n1, n2, e1, e2, c, dp, q.here h p rfl⟩
end
end L2.AP
set_option Elab.async false
set_option linter.all false
set_option maxRecDepth 100000
set_option maxHeartbeats 2000000
/-! AP6: targets, statements, while, raise, try. -/
namespace L2.AP
open PySem PySem.Spec PyProof.Rows

structure DEnds where
  nx : Dl → AH → Prop
  rt : DQ
  bk : Dl → AH → Prop := fun _ _ => False
  ct : Dl → AH → Prop := fun _ _ => False
abbrev DTS := DW → DEnds → Dl → AH → Prop
section
variable (K : PySem.W.Frag) (mg : Str → Option Value)
def LN (H : Hp) (P : Dl → AH → Prop) (Q : St → Hp → Prop) : Prop := ∀ δ m, P δ m → ∀ σ H', Ext H H' → ERep K mg H' σ δ → HRep K mg H' m → Q σ H'
structure LEnds (H : Hp) (E : DEnds) (D : Ends) : Prop where
  nx : LN K mg H E.nx D.nx
  rt : LQ K mg H E.rt D.rt
  bk : LN K mg H E.bk D.bk
  ct : LN K mg H E.ct D.ct
def liftS (t : DTS) (W : DW) (H0 : Hp) : TS := fun D σ H => Ext H0 H ∧ ∃ δ m E, ERep K mg H σ δ ∧ HRep K mg H m ∧ t W E δ m ∧ LEnds K mg H E D
end
theorem LN.ext {K : PySem.W.Frag} {mg : Str → Option Value} {H H1 : Hp} {P : Dl → AH → Prop} {Q : St → Hp → Prop} (e : Ext H H1) (q : LN K mg H P Q) : LN K mg H1 P Q := fun δ m p σ H' x r h => q δ m p σ H' (e.trans x) r h
theorem LEnds.ext {K : PySem.W.Frag} {mg : Str → Option Value} {H H1 : Hp} {E : DEnds} {D : Ends} (e : Ext H H1) (q : LEnds K mg H E D) : LEnds K mg H1 E D := ⟨q.nx.ext e, q.rt.ext e, q.bk.ext e, q.ct.ext e⟩
structure DS (X : Cx) (st : Stmt) (t : DTS) : Prop where
  run : ∀ W H0, Takes X (liftW X.K X.mg W H0) → PassesOwn (model X.prog X.w) X.A X.env X.xe → PS X st (liftS X.K X.mg t W H0)
structure DSs (X : Cx) (st : List Stmt) (t : DTS) : Prop where
  run : ∀ W H0, Takes X (liftW X.K X.mg W H0) → PassesOwn (model X.prog X.w) X.A X.env X.xe → PSs X st (liftS X.K X.mg t W H0)
theorem PS.imp {X : Cx} {e : Stmt} {t t' : TS} (h : PS X e t) (i : ∀ D σ H, t' D σ H → t D σ H) : PS X e t' := ⟨fun pins s σ H D I q => h.run pins s σ H D I (i _ _ _ q)⟩
theorem PSs.imp {X : Cx} {e : List Stmt} {t t' : TS} (h : PSs X e t) (i : ∀ D σ H, t' D σ H → t D σ H) : PSs X e t' := ⟨fun pins s σ H D I q => h.run pins s σ H D I (i _ _ _ q)⟩

section
variable {X : Cx} {st : Stmt} {rest : List Stmt} {t u : DTS} {e : Expr} {te : DTE} {pos : Pos}
def dNext : DTS := fun _ E δ m => E.nx δ m
def dSeq (t u : DTS) : DTS := fun W E δ m => t W { E with nx := u W E } δ m
theorem ds_nil : DSs X [] dNext := ⟨fun W H0 tk hp => PSs.imp pss_nil fun D σ H ⟨x0, δ, m, E, e, h, t, q⟩ => q.nx _ _ t σ H (Ext.refl H) e h⟩
theorem ds_cons (h1 : DS X st t) (h2 : DSs X rest u) : DSs X (st :: rest) (dSeq t u) :=
  ⟨fun W H0 tk hp => PSs.imp (pss_cons (h1.run W H0 tk hp) (h2.run W H0 tk hp)) fun D σ H ⟨x0, δ, m, E, e, h, t, q⟩ =>
    ⟨x0, δ, m, _, e, h, t, ⟨fun δ' m' t' σ' H' x e' h' => ⟨x0.trans x, δ', m', E, e', h', t', q.ext x⟩, q.rt, q.bk, q.ct⟩⟩⟩
theorem ds_one (h1 : DS X st t) : DSs X [st] t := ⟨fun W H0 tk hp => pss_one (h1.run W H0 tk hp)⟩
def dBreak : DTS := fun _ E δ m => E.bk δ m
def dCont : DTS := fun _ E δ m => E.ct δ m
theorem ds_pass : DS X (.Pass pos) dNext := ⟨fun W H0 tk hp => PS.imp ps_pass fun D σ H ⟨x0, δ, m, E, e, h, t, q⟩ => q.nx _ _ t σ H (Ext.refl H) e h⟩
theorem ds_break : DS X (.Break pos) dBreak := ⟨fun W H0 tk hp => PS.imp ps_break fun D σ H ⟨x0, δ, m, E, e, h, t, q⟩ => q.bk _ _ t σ H (Ext.refl H) e h⟩
theorem ds_continue : DS X (.Continue pos) dCont := ⟨fun W H0 tk hp => PS.imp ps_continue fun D σ H ⟨x0, δ, m, E, e, h, t, q⟩ => q.ct _ _ t σ H (Ext.refl H) e h⟩
def dDrop (te : DTE) : DTS := fun W E δ m => te W δ m fun _ m1 => E.nx δ m1
theorem ds_expr (he : DE X e te) (hs : swapsWith e none pos.line X.env = pure false) : DS X (.Expr e pos) (dDrop te) :=
  ⟨fun W H0 tk hp => PS.imp (ps_expr (he.run W H0 tk) hs) fun D σ H ⟨x0, δ, m, E, e, h, t, q⟩ => ⟨x0, δ, m, _, e, h, t, fun d m1 t1 v H1 x1 r1 h1 => q.nx _ _ t1 σ H1 x1 (e.ext x1) h1⟩⟩
def dRet (te : DTE) : DTS := fun W E δ m => te W δ m E.rt
theorem ds_ret (he : DE X e te) : DS X (.Return (some e) pos) (dRet te) :=
  ⟨fun W H0 tk hp => PS.imp (ps_ret (he.run W H0 tk)) fun D σ H ⟨x0, δ, m, E, e, h, t, q⟩ => ⟨x0, δ, m, _, e, h, t, q.rt⟩⟩
def dRetN : DTS := fun _ E _ m => E.rt .non m
theorem ds_retN : DS X (.Return none pos) dRetN := ⟨fun W H0 tk hp => PS.imp ps_retN fun D σ H ⟨x0, δ, m, E, e, h, t, q⟩ => q.rt.here h t rfl⟩
def dIfS (c : DTT) (t u : DTS) : DTS := fun W E δ m => c W δ m fun k m1 => if k = true then t W E δ m1 else u W E δ m1
theorem ds_if {c : Expr} {a b : List Stmt} {tc : DTT} (hc : DT X c tc) (ha : DSs X a t) (hb : DSs X b u) : DS X (.If c a b pos) (dIfS tc t u) :=
  ⟨fun W H0 tk hp => PS.imp (ps_if (hc.run W H0 tk) (ha.run W H0 tk hp) (hb.run W H0 tk hp)) fun D σ H ⟨x0, δ, m, E, e, h, t, q⟩ => ⟨x0, δ, m, _, e, h, t, fun k m1 t1 H1 x1 h1 => by
    cases k with
    | true => rw [if_pos rfl] at t1 ⊢; exact ⟨x0.trans x1, δ, m1, E, e.ext x1, h1, t1, q.ext x1⟩
    | false => rw [if_neg Bool.false_ne_true] at t1 ⊢; exact ⟨x0.trans x1, δ, m1, E, e.ext x1, h1, t1, q.ext x1⟩⟩⟩
end

/-! ### targets -/
abbrev DTG := DW → D → Dl → AH → (Dl → AH → Prop) → Prop
abbrev DTGs := DW → List D → Dl → AH → (Dl → AH → Prop) → Prop
section
variable (K : PySem.W.Frag) (mg : Str → Option Value)
def liftG (g : DTG) (W : DW) (H0 : Hp) : TG := fun v σ H Q => Ext H0 H ∧ ∃ d δ m P, Rep K mg H d v ∧ ERep K mg H σ δ ∧ HRep K mg H m ∧ g W d δ m P ∧ LN K mg H P Q
def liftGs (g : DTGs) (W : DW) (H0 : Hp) : TGs := fun vs σ H Q => Ext H0 H ∧ ∃ ds δ m P, Reps K mg H ds vs ∧ ERep K mg H σ δ ∧ HRep K mg H m ∧ g W ds δ m P ∧ LN K mg H P Q
end
structure DG (X : Cx) (tg : Expr) (g : DTG) : Prop where
  run : ∀ W H0, Takes X (liftW X.K X.mg W H0) → PG X tg (liftG X.K X.mg g W H0)
structure DGs (X : Cx) (tg : List Expr) (g : DTGs) : Prop where
  run : ∀ W H0, Takes X (liftW X.K X.mg W H0) → PGs X tg (liftGs X.K X.mg g W H0)
theorem PG.imp {X : Cx} {e : Expr} {t t' : TG} (h : PG X e t) (i : ∀ v σ H Q, t' v σ H Q → t v σ H Q) : PG X e t' := ⟨fun pins s σ H v u Q I r q => h.run pins s σ H v u Q I r (i _ _ _ _ q)⟩
theorem PGs.imp {X : Cx} {e : List Expr} {t t' : TGs} (h : PGs X e t) (i : ∀ v σ H Q, t' v σ H Q → t v σ H Q) : PGs X e t' := ⟨fun pins s σ H v u Q I r q => h.run pins s σ H v u Q I r (i _ _ _ _ q)⟩
section
variable {X : Cx} {pos : Pos} {e : Expr} {es : List Expr} {te : DTE} {g : DTG} {gs : DTGs}
def dgName (i : Nat) : DTG := fun _ d δ m Q => Q (δ.set i (some d)) m
theorem dg_name {i : Nat} {x : Str} (hN : X.N.Nodup) (hi : X.N[i]? = some x) (hx : Loc X.env.scope x) (hf : X.fn x = true ∨ X.env.scope.names.lookup x = some .local) : DG X (.Name x pos) (dgName i) :=
  ⟨fun W H0 tk => PG.imp (pg_name hN hi hx hf) fun v σ H Q ⟨x0, d, δ, m, P, r, e, h, t, q⟩ => q _ _ t _ H (Ext.refl H) (e.set r i) h⟩
def dgNil : DTGs := fun _ ds δ m Q => ds = [] ∧ Q δ m
def dgCons (t : DTG) (u : DTGs) : DTGs := fun W ds δ m Q => match ds with
  | d :: r => t W d δ m fun δ' m' => u W r δ' m' Q
  | [] => False
theorem dgs_nil : DGs X [] dgNil := ⟨fun W H0 tk => PGs.imp pgs_nil fun vs σ H Q ⟨x0, ds, δ, m, P, r, e, h, t, q⟩ => by
    obtain ⟨rfl, t⟩ := t
    exact ⟨r, q _ _ t σ H (Ext.refl H) e h⟩⟩
theorem dgs_cons (h1 : DG X e g) (h2 : DGs X es gs) (hs : (assignEach (e :: es) X.env).map (·.2) = assign e X.env :: (assignEach es X.env).map (·.2)) : DGs X (e :: es) (dgCons g gs) :=
  ⟨fun W H0 tk => PGs.imp (pgs_cons (h1.run W H0 tk) (h2.run W H0 tk) hs) fun vs σ H Q ⟨x0, ds, δ, m, P, r, e, h, t, q⟩ => by
    unfold dgCons at t
    split at t
    · obtain ⟨v, us, rfl, r1, r2⟩ := r
      exact ⟨v, us, rfl, x0, _, δ, m, _, r1, e, h, t, fun δ' m' t' σ' H' x e' h' => ⟨x0.trans x, _, δ', m', P, r2.ext x, e', h', t', q.ext x⟩⟩
    · exact t.elim⟩
theorem PG.or {X : Cx} {e : Expr} {t t' : TG} (h : PG X e t) (h' : PG X e t') : PG X e (fun v σ H Q => t v σ H Q ∨ t' v σ H Q) := ⟨fun pins s σ H v u Q I r q => q.elim (h.run pins s σ H v u Q I r) (h'.run pins s σ H v u Q I r)⟩
def dgTup (n : Nat) (t : DTGs) : DTG := fun W d δ m Q => match d with
  | .tup ds => ds.length = n ∧ t W ds δ m Q
  | d => ∃ ds, asL m d = some ds ∧ ds.length = n ∧ t W ds δ m Q
theorem dg_tup {k n : Nat} (hc : X.calm = true) (h : DGs X es gs) (hn : (assignEach es X.env).length = n) (hst : (assignEach es X.env).findIdx? (·.1) = none) : DG X (.Tuple es k pos) (dgTup n gs) :=
  ⟨fun W H0 tk => PG.imp (PG.or (pg_tup hc (h.run W H0 tk) hn hst) (pg_unl hc (h.run W H0 tk) hn hst)) fun v σ H Q ⟨x0, d, δ, m, P, r, e, h, t, q⟩ => by
    unfold dgTup at t
    split at t
    · obtain ⟨a, vs, rfl, s1, q1⟩ := r
      exact .inl ⟨a, vs, rfl, s1, by rw [q1.len]; exact t.1, x0, _, δ, m, P, q1, e, h, t.2, q⟩
    · obtain ⟨ds, e1, hl, t⟩ := t
      obtain ⟨a, vs, rfl, s1, q1⟩ := asL_rep h r e1
      exact .inr ⟨a, vs, rfl, .inl s1, by rw [q1.len]; exact hl, x0, _, δ, m, P, q1, e, h, t, q⟩⟩
/-- xs[i] = v -/
def setR (d i v : D) (m : AH) (Q : AH → Prop) : Prop := match d, i with
  | .ref a, .int k => ∃ xs j, m a = some (.lst xs) ∧ ixN xs.length k = some j ∧ Q (put m a (.lst (xs.set j v)))
  | _, _ => False
def dgSub (to ti : DTE) : DTG := fun W d δ m Q => to W δ m fun o m1 => ti W δ m1 fun i m2 => setR o i d m2 fun m3 => Q δ m3
theorem dg_sub {o i : Expr} {to ti : DTE} (ho : DE X o to) (hi : DE X i ti)
    (ha : ∀ v, assign (.Subscript o i pos) X.env v = (do
      let ov ← holding [v] (eval o X.env)
      let iv ← holding [v, ov] (eval i X.env)
      standAt pos
      holding [v, ov, iv] (setItem ov iv v)
      release [v, ov, iv] [])) : DG X (.Subscript o i pos) (dgSub to ti) :=
  ⟨fun W H0 tk => PG.imp (pg_sub (ho.run W H0 tk) (hi.run W H0 tk) set_list ha) fun v σ H Q ⟨x0, d, δ, m, P, r, e, h, t, q⟩ => ⟨x0, δ, m, _, e, h, t, fun o m1 t1 v1 H1 x1 r1 h1 => ⟨x0.trans x1, δ, m1, _, e.ext x1, h1, t1, fun i m2 t2 v2 H2 x2 r2 h2 => by
    unfold setR at t2
    split at t2
    · obtain ⟨xs, j, e1, e2, p⟩ := t2
      cases r1; cases r2
      obtain ⟨vs, e3, e4⟩ := h2 _ _ e1
      obtain ⟨x3, h3⟩ := HRep.putL h2 e3 (e4.set j (r.ext (x1.trans x2)))
      exact ⟨_, vs, _, j, rfl, rfl, e3, by rw [e4.len]; exact e2, q _ _ p _ _ ((x1.trans x2).trans x3) (e.ext ((x1.trans x2).trans x3)) h3⟩
    · exact t2.elim⟩⟩⟩

/-! ### assignments -/
def dAsg (te : DTE) (g : DTG) : DTS := fun W E δ m => te W δ m fun d m1 => g W d δ m1 E.nx
theorem asg_lift {K : PySem.W.Frag} {mg : Str → Option Value} {W : DW} {H0 : Hp} {D : Ends} {σ : St} {H : Hp} (h : liftS K mg (dAsg te g) W H0 D σ H) : tAsg (liftE K mg te W H0) (liftG K mg g W H0) D σ H := by
  obtain ⟨x0, δ, m, E, e, h, t, q⟩ := h
  exact ⟨x0, δ, m, _, e, h, t, fun d m1 t1 v H1 x1 r1 h1 => ⟨x0.trans x1, d, δ, m1, _, r1, e.ext x1, h1, t1, q.nx.ext x1⟩⟩
theorem ds_asg {tg : Expr} (he : DE X e te) (hg : DG X tg g) (hs : swapsWithSole [tg] e pos.line X.env = pure false) (hw : swappedStores [tg] e X.env = pure none) (h1 : (assignEach [tg] X.env).map (·.2) = [assign tg X.env]) :
    DS X (.Assign [tg] e pos) (dAsg te g) := ⟨fun W H0 tk hp => PS.imp (ps_asg (he.run W H0 tk) (hg.run W H0 tk) hs hw h1) fun _ _ _ h => asg_lift h⟩
theorem ds_set {i : Nat} {x : Str} {p' : Pos} (hN : X.N.Nodup) (hi : X.N[i]? = some x) (hx : Loc X.env.scope x) (he : DE X e te) (hs : swapsWith e (some (.Name x p')) pos.line X.env = pure false) (hf : X.fn x = true ∨ X.env.scope.names.lookup x = some .local) :
    DS X (.Assign [.Name x p'] e pos) (dAsg te (dgName i)) :=
  ⟨fun W H0 tk hp => PS.imp (ps_set hN hi hx (he.run W H0 tk) hs hf) fun D σ H ⟨x0, δ, m, E, e, h, t, q⟩ => ⟨x0, δ, m, _, e, h, t, fun d m1 t1 v H1 x1 r1 h1 => q.nx _ _ t1 _ H1 x1 ((e.ext x1).set r1 i) h1⟩⟩
def dPar (i j : Nat) (t : DTA) : DTS := fun W E δ m => t W δ m fun ds m1 => match ds with
  | [x, y] => E.nx ((δ.set i (some x)).set j (some y)) m1
  | _ => False
theorem ds_par {i j : Nat} {x y : Str} {a b : Expr} {ta : DTA} {px py pt : Pos} {kt k2 pt2} (hc : X.calm = true) (hN : X.N.Nodup) (hi : X.N[i]? = some x) (hj : X.N[j]? = some y) (hij : i ≠ j)
    (hx : X.env.scope.names.lookup x = some .local) (hy : X.env.scope.names.lookup y = some .local) (ha : DA X [a, b] ta)
    (hw : swappedStores [.Tuple [.Name x px, .Name y py] kt pt] (.Tuple [a, b] k2 pt2) X.env = pure (some [x, y]))
    (hs : swapsWithSole [.Tuple [.Name x px, .Name y py] kt pt] (.Tuple [a, b] k2 pt2) pos.line X.env = pure false) : DS X (.Assign [.Tuple [.Name x px, .Name y py] kt pt] (.Tuple [a, b] k2 pt2) pos) (dPar i j ta) :=
  ⟨fun W H0 tk hp => PS.imp (ps_par hc hN hi hj hij hx hy (ha.run W H0 tk) hw hs) fun D σ H ⟨x0, δ, m, E, e, h, t, q⟩ => ⟨x0, δ, m, _, e, h, t, fun ds m1 t1 vs H1 x1 r1 h1 => by
    split at t1
    · obtain ⟨v, _, rfl, r2, w, _, rfl, r3, rfl⟩ := r1
      exact ⟨v, w, rfl, q.nx _ _ t1 _ H1 x1 (((e.ext x1).set r2 i).set r3 j) h1⟩
    · exact t1.elim⟩⟩
def dPar3 (i j l : Nat) (t : DTA) : DTS := fun W E δ m => t W δ m fun ds m1 => match ds with
  | [x, y, z] => E.nx (((δ.set i (some x)).set j (some y)).set l (some z)) m1
  | _ => False
theorem ds_par3 {i j l : Nat} {x y z : Str} {a b c : Expr} {ta : DTA} {px py pz pt : Pos} {kt k2 pt2} (hc : X.calm = true) (hN : X.N.Nodup) (hi : X.N[i]? = some x) (hj : X.N[j]? = some y) (hl : X.N[l]? = some z) (hij : i ≠ j) (hil : i ≠ l) (hjl : j ≠ l)
    (hx : X.env.scope.names.lookup x = some .local) (hy : X.env.scope.names.lookup y = some .local) (hz : X.env.scope.names.lookup z = some .local) (ha : DA X [a, b, c] ta)
    (hw : swappedStores [.Tuple [.Name x px, .Name y py, .Name z pz] kt pt] (.Tuple [a, b, c] k2 pt2) X.env = pure (some [x, y, z]))
    (hs : swapsWithSole [.Tuple [.Name x px, .Name y py, .Name z pz] kt pt] (.Tuple [a, b, c] k2 pt2) pos.line X.env = pure false) : DS X (.Assign [.Tuple [.Name x px, .Name y py, .Name z pz] kt pt] (.Tuple [a, b, c] k2 pt2) pos) (dPar3 i j l ta) :=
  ⟨fun W H0 tk hp => PS.imp (ps_par3 hc hN hi hj hl hij hil hjl hx hy hz (ha.run W H0 tk) hw hs) fun D σ H ⟨x0, δ, m, E, e, h, t, q⟩ => ⟨x0, δ, m, _, e, h, t, fun ds m1 t1 vs H1 x1 r1 h1 => by
    split at t1
    · obtain ⟨v, _, rfl, r2, w, _, rfl, r3, u, _, rfl, r4, rfl⟩ := r1
      exact ⟨v, w, u, rfl, q.nx _ _ t1 _ H1 x1 ((((e.ext x1).set r2 i).set r3 j).set r4 l) h1⟩
    · exact t1.elim⟩⟩
/-- x += e, of ints -/
def dAug (i : Nat) (te : DTE) (f : Int → Int → Int) : DTS := fun W E δ m => ∃ x, δ[i]? = some (some (.int x)) ∧ te W δ m fun d m1 => ∃ y, d = .int y ∧ E.nx (δ.set i (some (.int (f x y)))) m1
theorem ds_aug {i : Nat} {x : Str} {op : Operator} {f : Int → Int → Int} {p' : Pos} (ho : PIp X op (ipI f)) (hN : X.N.Nodup) (hi : X.N[i]? = some x) (hx : Loc X.env.scope x) (he : DE X e te) (hf : X.fn x = true ∨ X.env.scope.names.lookup x = some .local) :
    DS X (.AugAssign (.Name x p') op e pos) (dAug i te f) :=
  ⟨fun W H0 tk hp => PS.imp (ps_aug hN hi hx (he.run W H0 tk) ho hf) fun D σ H ⟨x0, δ, m, E, e, h, ⟨k, hk, t⟩, q⟩ => by
    obtain ⟨v, hv, rv⟩ := e.2 i _ hk
    cases rv
    exact ⟨_, hv, x0, δ, m, _, e, h, t, fun d m1 ⟨y, ed, t1⟩ v H1 x1 r1 h1 => by
      subst ed
      cases r1
      exact ⟨_, _, rfl, rfl, q.nx _ _ t1 _ H1 x1 ((e.ext x1).set (d := .int (f k y)) (v := .int (f k y)) rfl i) h1⟩⟩⟩
end

/-! ### while -/
/-- W0: the invariant with its measure; a turn may forget -/
def dWhile (c : DTT) (tb : DTS) : DTS := fun W E δ m => ∃ I : Nat → Dl → AH → Prop, (∃ k, I k δ m) ∧ ∀ k δ m, I k δ m →
  c W δ m fun b m1 => if b = true then tb W { E with nx := fun δ' m' => ∃ k' δ2 m2, k' < k ∧ LeL δ2 δ' ∧ Le m2 m' ∧ I k' δ2 m2, ct := fun δ' m' => ∃ k' δ2 m2, k' < k ∧ LeL δ2 δ' ∧ Le m2 m' ∧ I k' δ2 m2, bk := E.nx } δ m1 else E.nx δ m1
theorem ds_while {X : Cx} {c : Expr} {body : List Stmt} {tc : DTT} {tb : DTS} {pos : Pos} (hc : DT X c tc) (hb : DSs X body tb) : DS X (.While c body [] pos) (dWhile tc tb) :=
  ⟨fun W H0 tk hp => PS.imp (ps_while hp (hc.run W H0 tk) (hb.run W H0 tk hp)) fun D σ H ⟨x0, δ, m, E, e, h, ⟨I, ⟨k, i0⟩, turn⟩, q⟩ => by
    refine ⟨fun k σ' H' => Ext H H' ∧ ∃ δ' m', ERep X.K X.mg H' σ' δ' ∧ HRep X.K X.mg H' m' ∧ I k δ' m', ⟨k, Ext.refl H, δ, m, e, h, i0⟩, fun k σ1 H1 ⟨x1, δ1, m1, e1, h1, i1⟩ => ?_⟩
    refine ⟨x0.trans x1, δ1, m1, _, e1, h1, turn k δ1 m1 i1, fun b m2 t2 H2 x2 h2 => ?_⟩
    cases b with
    | false => rw [if_neg Bool.false_ne_true] at t2 ⊢; exact q.nx _ _ t2 _ H2 (x1.trans x2) (e1.ext x2) h2
    | true =>
      rw [if_pos rfl] at t2 ⊢
      have again : LN X.K X.mg H2 (fun δ' m' => ∃ k' δ2 m2, k' < k ∧ LeL δ2 δ' ∧ Le m2 m' ∧ I k' δ2 m2) (fun σ' H' => ∃ m', m' < k ∧ Ext H H' ∧ ∃ δ' m₁, ERep X.K X.mg H' σ' δ' ∧ HRep X.K X.mg H' m₁ ∧ I m' δ' m₁) :=
        fun δ3 m3 ⟨k', δ4, m4, hk, l1, l2, i4⟩ σ3 H3 x3 e3 h3 => ⟨k', hk, (x1.trans x2).trans x3, δ4, m4, e3.le l1, h3.le l2, i4⟩
      exact ⟨_, fun σ' H' z => z, x0.trans (x1.trans x2), δ1, m2, _, e1.ext x2, h2, t2, ⟨again, q.rt.ext (x1.trans x2), q.nx.ext (x1.trans x2), again⟩⟩⟩
end L2.AP
set_option Elab.async false
set_option linter.all false
set_option maxRecDepth 100000
set_option maxHeartbeats 2000000
/-! AP7: what loops and comprehensions walk. -/
namespace L2.AP
open PySem PySem.Spec PyProof.Rows

/-- the items that are walked, as they stand at a heap -/
abbrev DIt := AH → Option (List D)
abbrev DTI := DW → Dl → AH → (DIt → AH → Prop) → Prop
section
variable (K : PySem.W.Frag) (mg : Str → Option Value)
/-- J walks what it tells -/
def JRep (H : Hp) (J : It) (it : DIt) : Prop := ∀ H1 m xs i, Ext H H1 → HRep K mg H1 m → it m = some xs →
  (∀ d, xs[i]? = some d → J.go i H1 ∧ ∀ x H2, J.yld i H1 x H2 → Ext H1 H2 ∧ HRep K mg H2 m ∧ Rep K mg H2 d x) ∧ (xs.length ≤ i → J.stop i H1)
def liftI (t : DTI) (W : DW) (H0 : Hp) : TI := fun σ H R => Ext H0 H ∧ ∃ δ m P, ERep K mg H σ δ ∧ HRep K mg H m ∧ t W δ m P ∧ ∀ it m', P it m' → ∀ J H', Ext H H' → HRep K mg H' m' → JRep K mg H' J it → R J H'
end
structure DI (X : Cx) (tg e : Expr) (t : DTI) : Prop where
  run : ∀ W H0, Takes X (liftW X.K X.mg W H0) → PI X tg e (liftI X.K X.mg t W H0)
theorem PI.imp {X : Cx} {tg e : Expr} {t t' : TI} (h : PI X tg e t) (i : ∀ σ H Q, t' σ H Q → t σ H Q) : PI X tg e t' := ⟨fun pins s σ H Q I q => h.run pins s σ H Q I (i σ H Q q)⟩
section
variable {X : Cx} {tg : Expr}
/-- a list, a tuple, a text -/
def iAny (K : PySem.W.Frag) (te : TE) : TI := fun σ H R => te σ H fun v H1 => (∃ a xs, v = .ref a ∧ SqL K H1 a xs ∧ R (Itl K a) H1) ∨ (∃ a xs, v = .ref a ∧ SqT K H1 a xs ∧ R (Itt K a) H1) ∨ ∃ x, v = .str x ∧ R (Its x) H1
theorem pi_any {e : Expr} {te : TE} (he : PE X e te) : PI X tg e (iAny X.K te) := by
  refine ⟨fun pins s σ H R I h => thn (he.run pins s σ H _ I h) fun v s1 ⟨x, H1, I1, r1, q⟩ => ?_⟩
  rcases q with ⟨a, xs, rfl, hq, q⟩ | ⟨a, xs, rfl, hq, q⟩ | ⟨z, rfl, q⟩
  · cases r1
    obtain ⟨its, _, p, _⟩ := I1.list hq
    exact wpAny_pyIter_list p.isList (pi_one (tk := s1.toks) I1 _ (turn_list a _) ⟨_, Heap.get?_push_size _ rfl, rfl, rfl⟩ q)
  · cases r1
    obtain ⟨its, _, p, _⟩ := I1.tuple hq
    exact wpAny_pyIter_tuple p (pi_one (tk := s1.toks) I1 _ (turn_tuple a _) ⟨_, Heap.get?_push_size _ rfl, rfl, rfl⟩ q)
  · obtain ⟨t, rfl⟩ := r1
    cases ha : z.cps.all (· < 128)
    · exact wpAny_pyIter_wide ha (pi_one (tk := s1.toks) I1 _ (turn_str _ z t "str_iterator" (.inr rfl)) ⟨_, Heap.get?_push_size _ rfl, rfl, rfl⟩ q)
    · exact wpAny_pyIter_ascii ha (pi_one (tk := s1.toks) I1 _ (turn_str _ z t "str_ascii_iterator" (.inl rfl)) ⟨_, Heap.get?_push_size _ rfl, rfl, rfl⟩ q)
/-- the signs of a text -/
def signs (z : Str) : List D := z.cps.toList.map fun c => .str ⟨#[c]⟩
/-- what d's walk tells -/
def itOf (d : D) : DIt := match d with
  | .str z => fun _ => some (signs z)
  | d => fun m => asQ m d
def diAny (te : DTE) : DTI := fun W δ m P => te W δ m fun d m1 => (∃ xs, itOf d m1 = some xs) ∧ P (itOf d) m1
theorem signs_get (z : Str) (i : Nat) : (signs z)[i]? = (z.cps[i]?).map fun c => D.str ⟨#[c]⟩ := by
  unfold signs
  rw [List.getElem?_map, Array.getElem?_toList]
theorem itOf_rep {K : PySem.W.Frag} {mg : Str → Option Value} {H : Hp} {m : AH} {d : D} {v : V} {xs : List D} (h : HRep K mg H m) (r : Rep K mg H d v) (e : itOf d m = some xs) :
    (∃ a vs, v = .ref a ∧ SqL K H a vs ∧ JRep K mg H (Itl K a) (itOf d)) ∨ (∃ a vs, v = .ref a ∧ SqT K H a vs ∧ JRep K mg H (Itt K a) (itOf d)) ∨ ∃ z, v = .str z ∧ JRep K mg H (Its z) (itOf d) := by
  have lst : ∀ {a : Addr}, (∀ H1 m1 ys, Ext H H1 → HRep K mg H1 m1 → itOf d m1 = some ys → ∃ vs, SqL K H1 a vs ∧ Reps K mg H1 ys vs) → JRep K mg H (Itl K a) (itOf d) := fun {a} f H1 m1 ys i x1 h1 e1 => by
    obtain ⟨vs, s1, q1⟩ := f H1 m1 ys x1 h1 e1
    refine ⟨fun d' hd => ?_, fun hl => ⟨vs, s1, by rw [q1.len]; exact hl⟩⟩
    obtain ⟨u, hu, ru⟩ := q1.get hd
    refine ⟨⟨vs, u, s1, hu⟩, fun y H2 z => ?_⟩
    obtain ⟨rfl, hy⟩ := z
    have := hy vs s1
    rw [hu] at this
    cases this
    exact ⟨Ext.refl _, h1, ru⟩
  have tup : ∀ {a : Addr}, (∀ H1 m1 ys, Ext H H1 → HRep K mg H1 m1 → itOf d m1 = some ys → ∃ vs, SqT K H1 a vs ∧ Reps K mg H1 ys vs) → JRep K mg H (Itt K a) (itOf d) := fun {a} f H1 m1 ys i x1 h1 e1 => by
    obtain ⟨vs, s1, q1⟩ := f H1 m1 ys x1 h1 e1
    refine ⟨fun d' hd => ?_, fun hl => ⟨vs, s1, by rw [q1.len]; exact hl⟩⟩
    obtain ⟨u, hu, ru⟩ := q1.get hd
    refine ⟨⟨vs, u, s1, hu⟩, fun y H2 z => ?_⟩
    obtain ⟨rfl, hy⟩ := z
    have := hy vs s1
    rw [hu] at this
    cases this
    exact ⟨Ext.refl _, h1, ru⟩
  cases d with
  | str z =>
    cases r
    refine .inr (.inr ⟨z, rfl, fun H1 m1 ys i x1 h1 e1 => ?_⟩)
    cases e1
    refine ⟨fun d' hd => ?_, fun hl => ?_⟩
    · rw [signs_get] at hd
      cases q : z.cps[i]? with
      | none => rw [q] at hd; cases hd
      | some c =>
        rw [q] at hd
        cases hd
        refine ⟨(Array.getElem?_eq_some_iff.mp q).1, fun y H2 w => ?_⟩
        obtain ⟨rfl, c', e2, rfl⟩ := w
        rw [q] at e2
        cases e2
        exact ⟨Ext.refl _, h1, rfl⟩
    · have : (signs z).length = z.cps.size := by unfold signs; rw [List.length_map, Array.length_toList]
      show z.cps.size ≤ i
      omega
  | tup ys =>
    obtain ⟨a, vs, rfl, s1, q1⟩ := r
    refine .inr (.inl ⟨a, vs, rfl, s1, tup fun H1 m1 zs x1 h1 e1 => ?_⟩)
    cases e1
    exact ⟨vs, x1.sqt s1, q1.ext x1⟩
  | lst ys =>
    obtain ⟨a, vs, rfl, s1, q1⟩ := r
    refine .inl ⟨a, vs, rfl, s1.sql, lst fun H1 m1 zs x1 h1 e1 => ?_⟩
    cases e1
    exact ⟨vs, (x1.fzl s1).sql, q1.ext x1⟩
  | rdl ys =>
    obtain ⟨a, vs, rfl, s1, q1⟩ := r
    refine .inl ⟨a, vs, rfl, s1.sql, lst fun H1 m1 zs x1 h1 e1 => ?_⟩
    cases e1
    exact ⟨vs, (x1.rdl s1).sql, q1.ext x1⟩
  | ref a =>
    cases r
    obtain ⟨vs, s1, q1⟩ := h a _ (asL_of_ref (show asL m (.ref a) = some xs from e))
    refine .inl ⟨a, vs, rfl, SqL.of s1, lst fun H1 m1 zs x1 h1 e1 => ?_⟩
    obtain ⟨us, s2, q2⟩ := h1 a _ (asL_of_ref (show asL m1 (.ref a) = some zs from e1))
    exact ⟨us, SqL.of s2, q2⟩
  | _ => cases e
theorem di_any {e : Expr} {te : DTE} (he : DE X e te) : DI X tg e (diAny te) :=
  ⟨fun W H0 tk => PI.imp (pi_any (he.run W H0 tk)) fun σ H R ⟨x0, δ, m, P, e, h, t, q⟩ => ⟨x0, δ, m, _, e, h, t, fun d m1 ⟨⟨xs, e1⟩, p⟩ v H1 x1 r1 h1 => by
    rcases itOf_rep h1 r1 e1 with ⟨a, vs, rfl, s1, j⟩ | ⟨a, vs, rfl, s1, j⟩ | ⟨z, rfl, j⟩
    · exact .inl ⟨a, vs, rfl, s1, q _ _ p _ H1 x1 h1 j⟩
    · exact .inr (.inl ⟨a, vs, rfl, s1, q _ _ p _ H1 x1 h1 j⟩)
    · exact .inr (.inr ⟨z, rfl, q _ _ p _ H1 x1 h1 j⟩)⟩⟩

/-! ### ranges -/
def rng (lo c : Int) (n : Nat) : List D := (List.range n).map fun k => .int (lo + (k : Nat) * c)
theorem rng_get {lo c : Int} {n i : Nat} {d : D} (e : (rng lo c n)[i]? = some d) : i < n ∧ d = .int (lo + (i : Nat) * c) := by
  unfold rng at e
  rw [List.getElem?_map] at e
  by_cases hi : i < n
  · rw [List.getElem?_range hi] at e; cases e; exact ⟨hi, rfl⟩
  · rw [List.getElem?_eq_none (by rw [List.length_range]; omega)] at e; cases e
theorem rng_len (lo c : Int) (n : Nat) : (rng lo c n).length = n := by unfold rng; rw [List.length_map, List.length_range]
theorem rng_rep {K : PySem.W.Frag} {mg : Str → Option Value} {H : Hp} {lo : Int} {n : Nat} : JRep K mg H (Itr lo n) (fun _ => some (rng lo 1 n)) := fun H1 m1 ys i x1 h1 e1 => by
  cases e1
  refine ⟨fun d hd => ?_, fun hl => by rw [rng_len] at hl; exact hl⟩
  obtain ⟨hi, rfl⟩ := rng_get hd
  refine ⟨hi, fun y H2 z => ?_⟩
  obtain ⟨rfl, rfl⟩ := z
  exact ⟨Ext.refl _, h1, by rw [Int.mul_one]; rfl⟩
theorem rngC_rep {K : PySem.W.Frag} {mg : Str → Option Value} {H : Hp} {lo c : Int} {n : Nat} : JRep K mg H (Itc lo c n) (fun _ => some (rng lo c n)) := fun H1 m1 ys i x1 h1 e1 => by
  cases e1
  refine ⟨fun d hd => ?_, fun hl => by rw [rng_len] at hl; exact hl⟩
  obtain ⟨hi, rfl⟩ := rng_get hd
  refine ⟨hi, fun y H2 z => ?_⟩
  obtain ⟨rfl, rfl⟩ := z
  exact ⟨Ext.refl _, h1, rfl⟩
def Small62 (i : Int) : Prop := -(2 ^ 62) ≤ i ∧ i < 2 ^ 62
def diRange1 (t : DTA) : DTI := fun W δ m P => t W δ m fun ds m1 => ∃ j, ds = [.int j] ∧ Small62 j ∧ P (fun _ => some (rng 0 1 j.toNat)) m1
def diRange2 (t : DTA) : DTI := fun W δ m P => t W δ m fun ds m1 => ∃ i j, ds = [.int i, .int j] ∧ Small62 i ∧ Small62 j ∧ P (fun _ => some (rng i 1 (j - i).toNat)) m1
def diRange3 (t : DTA) : DTI := fun W δ m P => t W δ m fun ds m1 => ∃ i j c n, ds = [.int i, .int j, .int c] ∧ RgC i j c n ∧ P (fun _ => some (rng i c n)) m1
section
variable {a b c : Expr} {t : DTA} {p pos : Pos}
theorem di_range1 (hg : Gl X "range") (hm : X.mg "range" = none) (ha : DA X [a] t) (hs : starEach [a] X.env = [(false, eval a X.env)]) : DI X tg (.Call (.Name "range" p) [a] [] pos) (diRange1 t) :=
  ⟨fun W H0 tk => PI.imp (pi_range1 hg hm (ha.run W H0 tk) hs) fun σ H R ⟨x0, δ, m, P, e, h, t, q⟩ => ⟨x0, δ, m, _, e, h, t, fun ds m1 t1 vs H1 x1 r1 h1 => by
    obtain ⟨j, rfl, ⟨j1, j2⟩, t1⟩ := t1
    obtain ⟨v, _, rfl, r2, rfl⟩ := r1
    cases r2
    exact ⟨_, rfl, j1, j2, q _ _ t1 _ H1 x1 h1 rng_rep⟩⟩⟩
theorem di_range2 (hg : Gl X "range") (hm : X.mg "range" = none) (ha : DA X [a, b] t) (hs : starEach [a, b] X.env = [(false, eval a X.env), (false, eval b X.env)]) (hs2 : starEach [b] X.env = [(false, eval b X.env)]) : DI X tg (.Call (.Name "range" p) [a, b] [] pos) (diRange2 t) :=
  ⟨fun W H0 tk => PI.imp (pi_range2 hg hm (ha.run W H0 tk) hs hs2) fun σ H R ⟨x0, δ, m, P, e, h, t, q⟩ => ⟨x0, δ, m, _, e, h, t, fun ds m1 t1 vs H1 x1 r1 h1 => by
    obtain ⟨i, j, rfl, ⟨i1, i2⟩, ⟨j1, j2⟩, t1⟩ := t1
    obtain ⟨v, _, rfl, r2, w, _, rfl, r3, rfl⟩ := r1
    cases r2; cases r3
    exact ⟨_, _, rfl, ⟨i1, i2, j1, j2⟩, q _ _ t1 _ H1 x1 h1 rng_rep⟩⟩⟩
theorem di_range3 (hg : Gl X "range") (hm : X.mg "range" = none) (ha : DA X [a, b, c] t) (hs : starEach [a, b, c] X.env = (false, eval a X.env) :: starEach [b, c] X.env) (hpl : (backTo pos (starEach [b, c] X.env)).any (·.1) = false) : DI X tg (.Call (.Name "range" p) [a, b, c] [] pos) (diRange3 t) :=
  ⟨fun W H0 tk => PI.imp (pi_range3 hg hm (ha.run W H0 tk) hs hpl) fun σ H R ⟨x0, δ, m, P, e, h, t, q⟩ => ⟨x0, δ, m, _, e, h, t, fun ds m1 t1 vs H1 x1 r1 h1 => by
    obtain ⟨i, j, k, n, rfl, hr, t1⟩ := t1
    obtain ⟨v, _, rfl, r2, w, _, rfl, r3, u, _, rfl, r4, rfl⟩ := r1
    cases r2; cases r3; cases r4
    exact ⟨_, _, _, n, rfl, hr, q _ _ t1 _ H1 x1 h1 rngC_rep⟩⟩⟩
end

/-! ### enumerate, zip of lists that stand still -/
def enumD (i : Nat) : List D → List D
  | [] => []
  | d :: r => .tup [.int (i : Nat), d] :: enumD (i + 1) r
theorem enumD_get : ∀ {xs : List D} {k i : Nat} {d : D}, (enumD k xs)[i]? = some d → ∃ x, xs[i]? = some x ∧ d = .tup [.int ((k + i : Nat) : Int), x]
  | [], _, _, _, e => by simp [enumD] at e
  | x :: xs, k, 0, d, e => by simp [enumD] at e; exact ⟨x, by simp, by simpa using e.symm⟩
  | x :: xs, k, i + 1, d, e => by
    obtain ⟨y, e1, e2⟩ := enumD_get (xs := xs) (k := k + 1) (i := i) (d := d) (by simpa [enumD] using e)
    exact ⟨y, by simpa using e1, by rw [e2]; congr 3 <;> omega⟩
theorem enumD_len : ∀ (xs : List D) (k : Nat), (enumD k xs).length = xs.length
  | [], _ => rfl
  | _ :: xs, k => by simp [enumD, enumD_len xs (k + 1)]
def zipD : List D → List D → List D
  | x :: xs, y :: ys => .tup [x, y] :: zipD xs ys
  | _, _ => []
theorem zipD_get : ∀ {xs ys : List D} {i : Nat} {d : D}, (zipD xs ys)[i]? = some d → ∃ x y, xs[i]? = some x ∧ ys[i]? = some y ∧ d = .tup [x, y]
  | [], _, _, _, e => by simp [zipD] at e
  | _ :: _, [], _, _, e => by simp [zipD] at e
  | x :: xs, y :: ys, 0, d, e => by simp [zipD] at e; exact ⟨x, y, by simp, by simp, e.symm⟩
  | x :: xs, y :: ys, i + 1, d, e => by
    obtain ⟨a, b, e1, e2, e3⟩ := zipD_get (xs := xs) (ys := ys) (i := i) (d := d) (by simpa [zipD] using e)
    exact ⟨a, b, by simpa using e1, by simpa using e2, e3⟩
theorem zipD_len : ∀ (xs ys : List D), (zipD xs ys).length = min xs.length ys.length
  | [], _ => by simp [zipD]
  | _ :: _, [] => by simp [zipD]
  | _ :: xs, _ :: ys => by simp [zipD, zipD_len xs ys]
/-- the items of a list that stands still -/
def stillL : D → Option (List D)
  | .lst xs => some xs
  | .rdl xs => some xs
  | _ => none
theorem stillL_rep {K : PySem.W.Frag} {mg : Str → Option Value} {H : Hp} {d : D} {v : V} {xs : List D} (r : Rep K mg H d v) (e : stillL d = some xs) : ∃ a vs, v = .ref a ∧ Reps K mg H xs vs ∧ ∀ H1, Ext H H1 → SqL K H1 a vs := by
  cases d with
  | lst ys => cases e; obtain ⟨a, vs, rfl, s1, q1⟩ := r; exact ⟨a, vs, rfl, q1, fun H1 x => (x.fzl s1).sql⟩
  | rdl ys => cases e; obtain ⟨a, vs, rfl, s1, q1⟩ := r; exact ⟨a, vs, rfl, q1, fun H1 x => (x.rdl s1).sql⟩
  | _ => cases e
/-! ### for -/
/-- I: the invariant by the turn and a measure; a turn may forget -/
def dFor (ti : DTI) (g : DTG) (tb : DTS) : DTS := fun W E δ m => ti W δ m fun it m1 => ∃ I : Nat → Nat → Dl → AH → Prop, (∃ k, I 0 k δ m1) ∧ ∀ i k δ m, I i k δ m → ∃ xs, it m = some xs ∧
  match xs[i]? with
  | none => E.nx δ m
  | some x => g W x δ m fun δ2 m2 => tb W { E with nx := fun δ' m' => ∃ k' δ3 m3, k' < k ∧ LeL δ3 δ' ∧ Le m3 m' ∧ I (i + 1) k' δ3 m3, ct := fun δ' m' => ∃ k' δ3 m3, k' < k ∧ LeL δ3 δ' ∧ Le m3 m' ∧ I (i + 1) k' δ3 m3, bk := E.nx } δ2 m2
theorem ds_for {iter : Expr} {body : List Stmt} {ti : DTI} {g : DTG} {tb : DTS} {pos : Pos} (hc : X.calm = true) (hi : DI X tg iter ti) (hg : DG X tg g) (hb : DSs X body tb) (hs : ∀ x, foldedSetIterable iter X.env x = pure x) :
    DS X (.For tg iter body [] pos) (dFor ti g tb) :=
  ⟨fun W H0 tk hp => PS.imp (ps_for hp hc (hi.run W H0 tk) (hg.run W H0 tk) (hb.run W H0 tk hp) hs) fun D σ H ⟨x0, δ, m, E, e, h, t, q⟩ => ⟨x0, δ, m, _, e, h, t, fun it m1 ⟨I, ⟨k, i0⟩, turn⟩ J H1 x1 h1 j => by
    refine ⟨fun i k σ' H' => Ext H1 H' ∧ ∃ δ' m', ERep X.K X.mg H' σ' δ' ∧ HRep X.K X.mg H' m' ∧ I i k δ' m', ⟨k, Ext.refl H1, δ, m1, e.ext x1, h1, i0⟩, fun i k σ2 H2 ⟨x2, δ2, m2, e2, h2, i2⟩ => ?_⟩
    obtain ⟨xs, ex, tn⟩ := turn i k δ2 m2 i2
    obtain ⟨j1, j2⟩ := j H2 m2 xs i x2 h2 ex
    cases hx : xs[i]? with
    | none =>
      rw [hx] at tn
      exact .inl ⟨j2 (List.getElem?_eq_none_iff.mp hx), q.nx _ _ tn _ H2 (x1.trans x2) e2 h2⟩
    | some x =>
      rw [hx] at tn
      obtain ⟨go, yl⟩ := j1 x hx
      refine .inr ⟨go, fun σ' H' => ∃ k', k' < k ∧ Ext H1 H' ∧ ∃ δ' m', ERep X.K X.mg H' σ' δ' ∧ HRep X.K X.mg H' m' ∧ I (i + 1) k' δ' m', fun σ' H' z => z, fun v H3 y => ?_⟩
      obtain ⟨x3, h3, r3⟩ := yl v H3 y
      have again : ∀ {H4}, Ext H1 H4 → LN X.K X.mg H4 (fun δ' m' => ∃ k' δ3 m3, k' < k ∧ LeL δ3 δ' ∧ Le m3 m' ∧ I (i + 1) k' δ3 m3) (fun σ' H' => ∃ k', k' < k ∧ Ext H1 H' ∧ ∃ δ' m', ERep X.K X.mg H' σ' δ' ∧ HRep X.K X.mg H' m' ∧ I (i + 1) k' δ' m') :=
        fun {H4} x4 δ5 m5 ⟨k', δ6, m6, hk, l1, l2, i6⟩ σ5 H5 x5 e5 h5 => ⟨k', hk, x4.trans x5, δ6, m6, e5.le l1, h5.le l2, i6⟩
      refine ⟨x0.trans ((x1.trans x2).trans x3), x, δ2, m2, _, r3, e2.ext x3, h3, tn, fun δ4 m4 t4 σ4 H4 x4 e4 h4 => ?_⟩
      have x14 := (x1.trans x2).trans (x3.trans x4)
      exact ⟨x0.trans x14, δ4, m4, _, e4, h4, t4, ⟨again (x2.trans (x3.trans x4)), q.rt.ext x14, q.nx.ext x14, again (x2.trans (x3.trans x4))⟩⟩⟩⟩
end
end L2.AP
set_option Elab.async false
set_option linter.all false
set_option maxRecDepth 100000
set_option maxHeartbeats 4000000
/-! AP7e: enumerate of a tuple, zip of two tuples. -/
namespace L2.AP
open PySem PySem.Spec PyProof.Rows
theorem iter_tup {prog : Program} {w : World} {A : Around} {E : Value → Shared → Prop} {s : Shared} {a : Addr} {its : Array Value} {n : Nat} {dd : Option Addr} {sl : Array (Option Value)} {Q : Value → Shared → Prop} (ho : s.heap.get? a = some { cls := .type "tuple", dict := dd, data := .seq its n, slots := sl })
    (h : Q (.ref s.heap.objs.size) { s with heap := s.heap.push { cls := .type "tuple_iterator", data := .fields #[.ref a, .int 0 0] } }) : wpAny (model prog w) A (pyIter (.ref a)) Q E s :=
  wpAny_pyIter_tuple ⟨_, ho, rfl, n, rfl⟩ h
theorem new_enumT (a : Addr) (its : Array Value) (n : Nat) (dd : Option Addr) (sl : Array (Option Value)) :
    Meets (Builtin.«enumerate.__new__» ⟨[.type "enumerate", .ref a], []⟩) (fun _ R s => s.heap.get? a = some { cls := .type "tuple", dict := dd, data := .seq its n, slots := sl } ∧
      R (.ok (.ret (.ref (s.heap.push { cls := .type "tuple_iterator", data := .fields #[.ref a, .int 0 0] }).objs.size)))
        { s with heap := (s.heap.push { cls := .type "tuple_iterator", data := .fields #[.ref a, .int 0 0] }).push { cls := .type "enumerate", data := .fields #[.none, .bool false, .ref s.heap.objs.size, rawInt 0, .none, .none] } }) :=
  .of_wp fun prog w A R s ⟨ho, h⟩ => by
    obtain ⟨hp, g, d, tk, os⟩ := s
    have hsub := sub_enumerate
    wp_walk
    refine wpAny_stack_any fun st => wpAny_pure ?_
    split
    · rename_i c _ _ _ _ _
      cases (c == Value.type "enumerate")
      · wp_walk using iter_tup ho
        exact ⟨_, rfl, h⟩
      · wp_walk using iter_tup ho
        exact ⟨_, rfl, h⟩
    · wp_walk using iter_tup ho
      exact ⟨_, rfl, h⟩
theorem call_enumT {prog : Program} {w : World} {A : Around} {E : Value → Shared → Prop} {s : Shared} {a : Addr} {its : Array Value} {Q : Value → Shared → Prop} (hL : s.heap.IsTuple a its)
    (h : ∀ h', IsEnum h' (s.heap.objs.size + 1) s.heap.objs.size 0 .none → h'.IsTupleIter s.heap.objs.size a 0 → (∀ b o, s.heap.get? b = some o → h'.get? b = some o) → Q (.ref (s.heap.objs.size + 1)) { s with heap := h' }) :
    wpAny (model prog w) A (call (.type "enumerate") [.ref a]) Q E s := by
  obtain ⟨⟨c, dct, dt, sl⟩, hl, hc, n, hd⟩ := hL
  replace hc : c = .type "tuple" := hc
  replace hd : dt = .seq its n := hd
  subst hc hd
  refine callType_new F.called_enumerate (by decide) (F.typeCall_enumerate_1 _) (F.newCall_enumerate_1 _) (fun obj => F.args_object_init_2 obj _) F.entry_enumerate_new (new_enumT a its n dct sl) ⟨hl, ?_⟩
  have hz : (s.heap.push { cls := .type "tuple_iterator", data := .fields #[.ref a, .int 0 0] }).objs.size = s.heap.objs.size + 1 := Heap.size_push ..
  show _ ∧ _
  rw [hz]
  have he : IsEnum ((s.heap.push { cls := .type "tuple_iterator", data := .fields #[.ref a, .int 0 0] }).push { cls := .type "enumerate", data := .fields #[.none, .bool false, .ref s.heap.objs.size, rawInt 0, .none, .none] }) (s.heap.objs.size + 1) s.heap.objs.size 0 .none := by
    have q := Heap.get?_push_size (s.heap.push { cls := .type "tuple_iterator", data := .fields #[.ref a, .int 0 0] }) (o := { cls := .type "enumerate", data := .fields #[.none, .bool false, .ref s.heap.objs.size, rawInt 0, .none, .none] }) rfl
    rw [hz] at q
    exact q
  exact ⟨⟨_, he, rfl⟩, h _ he ⟨_, Heap.get?_push_of_some _ (Heap.get?_push_size _ rfl), rfl, rfl⟩ fun b o x => Heap.get?_push_of_some _ (Heap.get?_push_of_some _ x)⟩
theorem next_enumT_end {prog : Program} {w : World} {A : Around} {E : Value → Shared → Prop} {s : Shared} {e it a : Addr} {i : Nat} {c : Int} {its : Array Value} {old : Value} {Q : Option Value → Shared → Prop} (hh : A.handled = none)
    (he : IsEnum s.heap e it c old) (hit : s.heap.IsTupleIter it a i) (hl : s.heap.IsTuple a its) (hx : its[i]? = none) (q : ∀ h', Heap.ExtBut it s.heap h' → Q none { s with heap := h' }) : wpAny (model prog w) A (pyNext (.ref e)) Q E s := by
  have ty : s.TypeIs (.ref e) "enumerate" := ⟨_, he, rfl⟩
  unfold pyNext
  refine wpAny_bind (wpAny_attempt (wpAny_callSpecial?_slot (name := Str.ofString "__next__") ty F.slot_enumerate_next (wpAny_call_entry F.slot_enumerate_next ty F.entry_enumerate_next ?_ (F.args_enumerate_next_1 _))))
  show wpAny _ _ (field (.ref e) 2 >>= _) _ _ _
  refine wpAny_bind (wpAny_field he rfl (x := .ref it) rfl (wpAny_bind (wpAny_nextOf_tuple_end (by simpa using hh) hit hl hx fun h' x eb ⟨o, ho, hc⟩ => ?_)))
  exact wpAny_bind (wpAny_isInstance (T := "StopIteration") (b := true) ⟨o, ho, hc⟩ isSubtype_stop (wpAny_pure (q _ eb)))
/-- the tuple at a, each item in a new pair -/
def IteT (K : PySem.W.Frag) (a : Addr) : It :=
  ⟨fun i H => ∃ (xs : List V) (x : V), SqT K H a xs ∧ xs[i]? = some x, fun i H v H' => ∃ T x, v = .ref T ∧ H T = none ∧ H' = upd H T (.tup [.int (i : Nat), x]) ∧ ∀ xs, SqT K H a xs → xs[i]? = some x, fun i H => ∃ xs : List V, SqT K H a xs ∧ xs.length ≤ i⟩
theorem turn_enumT {P : Program} {w : World} {K : PySem.W.Frag} {elts : List Expr} {kk : Nat} {tpos : Pos} (a e it : Addr) (na : a ≠ e) (nb : a ≠ it) :
    Turn P w K (.Tuple elts kk tpos) (IteT K a) [e, it] e (fun i h => (∃ old, IsEnum h e it ((i : Nat) : Int) old) ∧ h.IsTupleIter it a i ∧ e ≠ it) where
  mem := by simp
  obj := fun i h st b hb => by
    obtain ⟨⟨old, he⟩, ⟨o, ho, hc, hd⟩, _⟩ := st
    have e' : b = e ∨ b = it := by simpa using hb
    rcases e' with z | z
    · rw [z]; exact ⟨_, he, fun v q => nomatch q⟩
    · rw [z]; exact ⟨o, ho, fun v q => by rw [hd] at q; cases q⟩
  keep := fun i h h' st k => let ⟨⟨old, he⟩, hi, hne⟩ := st; ⟨⟨old, k e (by simp) _ he⟩, hi.at fun o q => k it (by simp) o q, hne⟩
  item := by
    intro X hP hw hK hc i pins s σ H E I hf st hg
    subst hP hw hK
    obtain ⟨⟨old, he⟩, hit, hne⟩ := st
    obtain ⟨xs, x, hq, hx⟩ := hg
    obtain ⟨its, rv, p, hz⟩ := I.tuple hq
    obtain ⟨u, hu, ru⟩ := rv.get hx
    have hel : e < s.heap.objs.size := Heap.lt_size he
    have hil : it < s.heap.objs.size := by obtain ⟨_, q, _⟩ := hit; exact Heap.lt_size q
    have hd := I.ok.hd hc
    have D := Draws.tuple (prog := X.prog) (w := X.w) (A := X.A.in1) (by simpa using hd) it a nb its.toArray
    have lt : i < its.toArray.size := by
      have := (List.getElem?_eq_some_iff.mp hu).1
      simpa using this
    refine wpAny_pyNext_enum_itemD D he ⟨hit, p⟩ lt hne (by simp; exact ⟨hne, Ne.symm na⟩) fun x' h' tk hx' ho hst hT hsz hk => ?_
    have ex : x' = u := by
      rw [show its.toArray[i]? = some u by simpa using hu] at hx'
      exact (Option.some.inj hx').symm
    subst ex
    refine ⟨_, rfl, wpAny_letOwnedTupleGo_enum (s := { s with heap := h', toks := tk + 1 }) ho fun h'' he' sb => ?_⟩
    have hT2 : h''.get? s.heap.objs.size = some { cls := .type "tuple", data := .seq #[.int i tk, x'] } := (sb.2 _ (Nat.ne_of_gt hel)).trans hT
    have new : ObjOk X.prog X.w (upd H s.heap.objs.size (.tup [.int (i : Nat), x])) h'' s.heap.objs.size (.tup [.int (i : Nat), x]) :=
      ⟨by show 2 ≤ sizeLine; decide, [.int i tk, x'], .cons ⟨_, rfl⟩ (.cons ru .nil), ⟨_, hT2, rfl, _, rfl⟩⟩
    have I1 : Inv X pins σ (upd H s.heap.objs.size (.tup [.int (i : Nat), x])) { s with heap := h'', toks := tk + 1 } :=
      I.turnedNew (ch := [e, it]) (fun b ob hb q => (sb.2 b (fun z => hb (by simp [z]))).trans (hk b ob (fun z => hb (by simp [z])) (fun z => hb (by simp [z])) q)) hf (Nat.le_refl _) new
    have inj : ∀ ys, SqT X.K H a ys → ys[i]? = some x := fun ys hy => by rw [I.tuple_inj hy hq]; exact hx
    refine ⟨.ref s.heap.objs.size, _, I1, rfl, ⟨_, x, rfl, I.hok.fresh (Nat.le_refl _), rfl, inj⟩, ⟨⟨x', ?_⟩, hst.1.at fun o q => (sb.2 it (Ne.symm hne)).trans q, hne⟩, fun b hb => ?_⟩
    · have e1 : ((i + 1 : Nat) : Int) = (i : Int) + 1 := by omega
      rw [e1]; exact he'
    · have hb' : b < s.heap.objs.size := by
        have e' : b = e ∨ b = it := by simpa using hb
        rcases e' with z | z
        · rw [z]; exact hel
        · rw [z]; exact hil
      rw [upd_ne (Nat.ne_of_lt hb')]
      exact (hf b hb).1
  done := by
    intro X hP hw hK hc i pins s σ H E I hf st hg
    subst hP hw hK
    obtain ⟨⟨old, he⟩, hit, hne⟩ := st
    obtain ⟨xs, hq, hx⟩ := hg
    obtain ⟨its, rv, p, hz⟩ := I.tuple hq
    obtain ⟨f0, f1, f2, f3, f4, f5⟩ := hf it (by simp)
    have hl := rv.length
    exact next_enumT_end (I.ok.hd hc) he hit p (by simp; omega) fun h' eb => ⟨rfl, I.turned (t' := s.toks) (fun b o hb q => eb b o hb q) f0 f1 f3 f4 f5⟩
  self := fun A i s Q E st h => let ⟨⟨_, he⟩, _⟩ := st; wpAny_pyIter_enum he h
def iEnumA (K : PySem.W.Frag) (ta : TA) : TI := fun σ H R => ta σ H fun vs H1 => ∃ a xs, vs = [.ref a] ∧ ((SqL K H1 a xs ∧ R (Ite K a) H1) ∨ (SqT K H1 a xs ∧ R (IteT K a) H1))
theorem pi_enumA {X : Cx} {e : Expr} {ta : TA} {p pos tpos : Pos} {elts : List Expr} {kk : Nat} (hg : Gl X "enumerate") (hm : X.mg "enumerate" = none) (ha : PA X [e] ta) (hs : starEach [e] X.env = [(false, eval e X.env)]) :
    PI X (.Tuple elts kk tpos) (.Call (.Name "enumerate" p) [e] [] pos) (iEnumA X.K ta) := by
  refine ⟨fun pins s σ H R I h => ?_⟩
  refine Call_ (ld_blt I hg hm boot_enumerate (PyProof.Rows.callWith_type1 (thn (ha.run pos pins s σ H _ I h) fun us s1 ⟨vs, H1, I1, r1, q1⟩ => ?_) hs rfl))
  obtain ⟨a, xs, rfl, q1⟩ := q1
  obtain ⟨u, rfl, r⟩ := r1.one
  cases r
  have fresh2 : ∀ b ∈ [s1.heap.objs.size + 1, s1.heap.objs.size], FpOk X pins H1 b := fun b hb => by
    have hle : s1.heap.objs.size ≤ b := by
      have e' : b = s1.heap.objs.size + 1 ∨ b = s1.heap.objs.size := by simpa using hb
      rcases e' with z | z
      · rw [z]; exact Nat.le_add_right _ _
      · rw [z]; exact Nat.le_refl _
    exact I1.fpOk hle (I1.hok.fresh hle)
  rcases q1 with ⟨hq, q⟩ | ⟨hq, q⟩
  · obtain ⟨its, rv, p', hz⟩ := I1.list hq
    refine call_enumerate_list p'.isList fun h' he hit hsz hk => wpAny_pyIter_enum he ?_
    have I2 : Inv X pins σ H1 { s1 with heap := h' } := I1.kept (t' := s1.toks) hk
    exact ⟨s1.heap.objs.size + 1, [s1.heap.objs.size + 1, s1.heap.objs.size], _, _, H1, rfl, I2, turn_enum a (s1.heap.objs.size + 1) s1.heap.objs.size, ⟨⟨.none, he⟩, hit, Nat.succ_ne_self _⟩, fresh2, q⟩
  · obtain ⟨its, rv, p', hz⟩ := I1.tuple hq
    have lt : a < s1.heap.objs.size := by obtain ⟨o, ho, _⟩ := p'; exact Heap.lt_size ho
    refine call_enumT p' fun h' he hit hk => wpAny_pyIter_enum he ?_
    have I2 : Inv X pins σ H1 { s1 with heap := h' } := I1.kept (t' := s1.toks) hk
    exact ⟨s1.heap.objs.size + 1, [s1.heap.objs.size + 1, s1.heap.objs.size], _, _, H1, rfl, I2, turn_enumT a (s1.heap.objs.size + 1) s1.heap.objs.size (Nat.ne_of_lt (Nat.lt_succ_of_lt lt)) (Nat.ne_of_lt lt), ⟨⟨.none, he⟩, hit, Nat.succ_ne_self _⟩, fresh2, q⟩
end L2.AP
set_option Elab.async false
set_option linter.all false
set_option maxRecDepth 100000
set_option maxHeartbeats 4000000
/-! AP7z: zip of lists and tuples in any mixture. -/
namespace L2.AP
open PySem PySem.Spec PyProof.Rows
/-- tuples (true), lists (false) -/
def SqO (b : Bool) (h : Heap) (a : Addr) (its : Array Value) : Prop := if b = true then h.IsTuple a its else h.IsList a its
def SqI (b : Bool) (h : Heap) (it a : Addr) (i : Nat) : Prop := if b = true then h.IsTupleIter it a i else h.IsListIter it a i
def SqG (b : Bool) (K : PySem.W.Frag) (H : Hp) (a : Addr) (xs : List V) : Prop := if b = true then SqT K H a xs else SqL K H a xs
def itN (b : Bool) : String := if b = true then "tuple_iterator" else "list_iterator"
abbrev itO (b : Bool) (a : Addr) : Obj := { cls := .type (itN b), data := .fields #[.ref a, .int 0 0] }
section
variable {prog : Program} {w : World} {A : Around} {E : Value → Shared → Prop} {s : Shared}
theorem SqO.push {b : Bool} {h : Heap} {a : Addr} {its : Array Value} (x : SqO b h a its) (o : Obj) : SqO b (h.push o) a its := by
  cases b
  · exact Heap.IsList.push (show h.IsList a its from x) o
  · exact Heap.IsTuple.push (show h.IsTuple a its from x) o
theorem SqI.at {b : Bool} {h h' : Heap} {it a : Addr} {i : Nat} (x : SqI b h it a i) (k : ∀ o, h.get? it = some o → h'.get? it = some o) : SqI b h' it a i := by
  cases b
  · exact Heap.IsListIter.at (show h.IsListIter it a i from x) k
  · exact Heap.IsTupleIter.at (show h.IsTupleIter it a i from x) k
theorem SqI.ob {b : Bool} {h : Heap} {it a : Addr} {i : Nat} (x : SqI b h it a i) : ∃ o fs, h.get? it = some o ∧ o.data = .fields fs := by
  cases b
  · obtain ⟨o, ho, _, hd⟩ := (show h.IsListIter it a i from x); exact ⟨o, _, ho, hd⟩
  · obtain ⟨o, ho, _, hd⟩ := (show h.IsTupleIter it a i from x); exact ⟨o, _, ho, hd⟩
theorem SqI.fresh {b : Bool} {h : Heap} {it a : Addr} (e : h.get? it = some (itO b a)) : SqI b h it a 0 := by
  cases b
  · exact ⟨_, e, rfl, rfl⟩
  · exact ⟨_, e, rfl, rfl⟩
theorem SqO.lt {b : Bool} {h : Heap} {a : Addr} {its : Array Value} (x : SqO b h a its) : a < h.objs.size := by
  cases b
  · obtain ⟨o, ho, _⟩ := (show h.IsList a its from x); exact Heap.lt_size ho
  · obtain ⟨o, ho, _⟩ := (show h.IsTuple a its from x); exact Heap.lt_size ho
theorem iterSq {b : Bool} {a : Addr} {its : Array Value} {Q : Value → Shared → Prop} (x : SqO b s.heap a its) (h : Q (.ref s.heap.objs.size) { s with heap := s.heap.push (itO b a) }) : wpAny (model prog w) A (pyIter (.ref a)) Q E s := by
  cases b
  · exact wpAny_pyIter_list (show s.heap.IsList a its from x) h
  · exact wpAny_pyIter_tuple (show s.heap.IsTuple a its from x) h
theorem drawSq (b : Bool) (hh : A.handled = none) (it a : Addr) (hne : a ≠ it) (its : Array Value) : Draws prog w A it [it, a] its.size (fun i v => its[i]? = some v) (fun i h => SqI b h it a i ∧ SqO b h a its) := by
  cases b
  · exact Draws.list hh it a hne its
  · exact Draws.tuple hh it a hne its
end
abbrev zH1 (b : Bool) (h : Heap) (a : Addr) : Heap := h.push (itO b a)
abbrev zH2 (b c : Bool) (h : Heap) (a d : Addr) : Heap := (zH1 b h a).push (itO c d)
abbrev zH3 (b c : Bool) (h : Heap) (a d : Addr) : Heap := (zH2 b c h a d).push { cls := .type "tuple", data := .seq #[.ref h.objs.size, .ref (zH1 b h a).objs.size] }
abbrev zH4 (b c : Bool) (h : Heap) (a d : Addr) : Heap := (zH3 b c h a d).push { cls := .type "tuple", data := .seq #[.none, .none] }
abbrev zH5 (b c : Bool) (h : Heap) (a d : Addr) : Heap := (zH4 b c h a d).push { cls := .type "zip", data := .fields #[.none, .bool false, .bool false, .ref (zH2 b c h a d).objs.size, .ref (zH3 b c h a d).objs.size] }
theorem new_zipG (b c : Bool) (a d : Addr) (xs ys : Array Value) :
    Meets (Builtin.«zip.__new__» ⟨[.type "zip", .ref a, .ref d], []⟩) (fun _ R s => SqO b s.heap a xs ∧ SqO c s.heap d ys ∧ R (.ok (.ret (.ref (zH4 b c s.heap a d).objs.size))) { s with heap := zH5 b c s.heap a d }) :=
  .of_wp fun prog w A R s ⟨h1, h2, h⟩ => by
    obtain ⟨hp, g, dd, tk, os⟩ := s
    have hsub := sub_zip
    have q1 : SqO b (Shared.heap ⟨hp, g, dd, tk, os⟩) a xs := h1
    have q2 : SqO c (Shared.heap ⟨hp.push (itO b a), g, dd, tk, os⟩) d ys := SqO.push h2 _
    wp_walk using iterSq q1, iterSq q2
    exact ⟨_, rfl, h⟩
theorem call_zipG {prog : Program} {w : World} {A : Around} {E : Value → Shared → Prop} {s : Shared} {b c : Bool} {a d : Addr} {xs ys : Array Value} {Q : Value → Shared → Prop} (h1 : SqO b s.heap a xs) (h2 : SqO c s.heap d ys)
    (q : ∀ h', IsZip h' (s.heap.objs.size + 4) (s.heap.objs.size + 2) (s.heap.objs.size + 3) .none → IsPair h' (s.heap.objs.size + 2) (.ref s.heap.objs.size) (.ref (s.heap.objs.size + 1)) →
      IsPair h' (s.heap.objs.size + 3) .none .none → SqI b h' s.heap.objs.size a 0 → SqI c h' (s.heap.objs.size + 1) d 0 → (∀ e o, s.heap.get? e = some o → h'.get? e = some o) → Q (.ref (s.heap.objs.size + 4)) { s with heap := h' }) :
    wpAny (model prog w) A (call (.type "zip") [.ref a, .ref d]) Q E s := by
  refine callType_new F.called_zip (by decide) (F.typeCall_zip_2 _ _) (F.newCall_zip_2 _ _) (fun obj => F.args_object_init_3 obj _ _) F.entry_zip_new (new_zipG b c a d xs ys) ⟨h1, h2, ?_⟩
  have z1 : (zH1 b s.heap a).objs.size = s.heap.objs.size + 1 := Heap.size_push ..
  have z2 : (zH2 b c s.heap a d).objs.size = s.heap.objs.size + 2 := by rw [Heap.size_push, z1]
  have z3 : (zH3 b c s.heap a d).objs.size = s.heap.objs.size + 3 := by rw [Heap.size_push, z2]
  have z4 : (zH4 b c s.heap a d).objs.size = s.heap.objs.size + 4 := by rw [Heap.size_push, z3]
  have g5 : (zH5 b c s.heap a d).get? (zH4 b c s.heap a d).objs.size = some _ := Heap.get?_push_size _ rfl
  have g4 : (zH5 b c s.heap a d).get? (zH3 b c s.heap a d).objs.size = some _ := Heap.get?_push_of_some _ (Heap.get?_push_size _ rfl)
  have g3 : (zH5 b c s.heap a d).get? (zH2 b c s.heap a d).objs.size = some _ := Heap.get?_push_of_some _ (Heap.get?_push_of_some _ (Heap.get?_push_size _ rfl))
  have g2 : (zH5 b c s.heap a d).get? (zH1 b s.heap a).objs.size = some (itO c d) := Heap.get?_push_of_some _ (Heap.get?_push_of_some _ (Heap.get?_push_of_some _ (Heap.get?_push_size _ rfl)))
  have g1 : (zH5 b c s.heap a d).get? s.heap.objs.size = some (itO b a) := Heap.get?_push_of_some _ (Heap.get?_push_of_some _ (Heap.get?_push_of_some _ (Heap.get?_push_of_some _ (Heap.get?_push_size _ rfl))))
  show _ ∧ _
  rw [z2, z3, z4] at g5
  rw [z1, z2] at g3
  rw [z3] at g4
  rw [z1] at g2
  rw [z4]
  exact ⟨⟨_, g5, rfl⟩, q _ g5 g3 g4 (SqI.fresh g1) (SqI.fresh g2) fun e o x => Heap.get?_push_of_some _ (Heap.get?_push_of_some _ (Heap.get?_push_of_some _ (Heap.get?_push_of_some _ (Heap.get?_push_of_some _ x))))⟩
theorem sqG {X : Cx} {pins : List (Addr × Obj)} {σ : St} {H : Hp} {s : Shared} {b : Bool} {a : Addr} {xs : List V} (I : Inv X pins σ H s) (h : SqG b X.K H a xs) : ∃ its : List Value, Vals xs its ∧ SqO b s.heap a its.toArray := by
  cases b
  · obtain ⟨its, r, p, _⟩ := I.list (show SqL X.K H a xs from h)
    exact ⟨its, r, p.isList⟩
  · obtain ⟨its, r, p, _⟩ := I.tuple (show SqT X.K H a xs from h)
    exact ⟨its, r, p⟩
theorem sqG_inj {X : Cx} {pins : List (Addr × Obj)} {σ : St} {H : Hp} {s : Shared} {b : Bool} {a : Addr} {xs ys : List V} (I : Inv X pins σ H s) (h : SqG b X.K H a xs) (h' : SqG b X.K H a ys) : xs = ys := by
  cases b
  · exact I.list_inj h h'
  · exact I.tuple_inj h h'
def ItzG (K : PySem.W.Frag) (b c : Bool) (n1 n2 : Nat) (a d : Addr) : It :=
  ⟨fun i H => ∃ (xs ys : List V) (x y : V), SqG b K H a xs ∧ SqG c K H d ys ∧ xs.length = n1 ∧ ys.length = n2 ∧ xs[i]? = some x ∧ ys[i]? = some y,
    fun i H v H' => ∃ T x y, v = .ref T ∧ H T = none ∧ H' = upd H T (.tup [x, y]) ∧ (∀ xs, SqG b K H a xs → xs[i]? = some x) ∧ ∀ ys, SqG c K H d ys → ys[i]? = some y,
    fun i H => ∃ xs ys : List V, SqG b K H a xs ∧ SqG c K H d ys ∧ xs.length = n1 ∧ ys.length = n2 ∧ (n1 ≤ i ∨ n2 ≤ i)⟩
theorem turn_zipG {P : Program} {w : World} {K : PySem.W.Frag} {elts : List Expr} {kk : Nat} {tpos : Pos} {b c : Bool} {n1 n2 : Nat} {a d z TI TO i1 i2 : Addr} (D : ZipApart z TI TO i1 i2 a d) :
    Turn P w K (.Tuple elts kk tpos) (ItzG K b c n1 n2 a d) [z, TI, TO, i1, i2] z (fun i h => IsZip h z TI TO .none ∧ IsPair h TI (.ref i1) (.ref i2) ∧ (∃ x y, IsPair h TO x y) ∧ SqI b h i1 a i ∧ SqI c h i2 d i ∧ i ≤ n1 ∧ i ≤ n2) where
  mem := by simp
  obj := fun i h st e he => by
    obtain ⟨hz, hTI, ⟨x, y, hTO⟩, h1, h2, _⟩ := st
    obtain ⟨o1, f1, e1, d1⟩ := h1.ob
    obtain ⟨o2, f2, e2, d2⟩ := h2.ob
    have e' : e = z ∨ e = TI ∨ e = TO ∨ e = i1 ∨ e = i2 := by simpa using he
    rcases e' with q | q | q | q | q
    · rw [q]; exact ⟨_, hz, fun v q => nomatch q⟩
    · rw [q]; exact ⟨_, hTI, fun v q => nomatch q⟩
    · rw [q]; exact ⟨_, hTO, fun v q => nomatch q⟩
    · rw [q]; exact ⟨o1, e1, fun v q => by rw [d1] at q; cases q⟩
    · rw [q]; exact ⟨o2, e2, fun v q => by rw [d2] at q; cases q⟩
  keep := fun i h h' st k => by
    obtain ⟨hz, hTI, ⟨x, y, hTO⟩, h1, h2, l⟩ := st
    exact ⟨k z (by simp) _ hz, k TI (by simp) _ hTI, ⟨x, y, k TO (by simp) _ hTO⟩, h1.at fun o q => k i1 (by simp) o q, h2.at fun o q => k i2 (by simp) o q, l⟩
  item := by
    intro X hP hw hK hc i pins s σ H E I hf st hg
    subst hP hw hK
    obtain ⟨hz, hTI, ⟨x0, y0, hTO⟩, h1, h2, le1, le2⟩ := st
    obtain ⟨xs, ys, x, y, hqx, hqy, m1, m2, hx, hy⟩ := hg
    obtain ⟨its, rv, p⟩ := sqG I hqx
    obtain ⟨its2, rv2, p2⟩ := sqG I hqy
    obtain ⟨u, hu, ru⟩ := rv.get hx
    obtain ⟨u2, hu2, ru2⟩ := rv2.get hy
    have hzl : z < s.heap.objs.size := Heap.lt_size hz
    have hd : X.A.in1.handled = none := by simpa using I.ok.hd hc
    have S : ZipSep2 z TI TO i1 i2 [i1, a] [i2, d] := ⟨D.TIz, D.TOz, D.TITO, D.TIi1, by simp, by simp [D.i1z.symm, D.l1z.symm], by simp [D.TOi1, D.l1TO.symm], D.TIi2, by simp, by simp [D.i2z.symm, D.l2z.symm], by simp [D.TOi2, D.l2TO.symm], by simp [D.i12, D.l2i1.symm], by simp [D.i12.symm, D.l1i2.symm]⟩
    have lt1 : i < its.toArray.size := by
      have := (List.getElem?_eq_some_iff.mp hu).1
      simpa using this
    have lt2 : i < its2.toArray.size := by
      have := (List.getElem?_eq_some_iff.mp hu2).1
      simpa using this
    refine wpAny_pyNext_zipD2_item S (drawSq b hd i1 a D.l1i1 its.toArray) (drawSq c hd i2 d D.l2i2 its2.toArray) hz hTI hTO ⟨h1, p⟩ ⟨h2, p2⟩ lt1 lt2 fun x1 x2 h' tk e1 e2 z' TO' h1' h2' hT hsz hk => ?_
    have ex1 : x1 = u := by
      rw [show its.toArray[i]? = some u by simpa using hu] at e1
      exact (Option.some.inj e1).symm
    have ex2 : x2 = u2 := by
      rw [show its2.toArray[i]? = some u2 by simpa using hu2] at e2
      exact (Option.some.inj e2).symm
    subst ex1 ex2
    refine ⟨_, rfl, wpAny_letOwnedTupleGo_zip (s := { s with heap := h', toks := tk }) z' fun h'' z'' sb => ?_⟩
    have hT2 : h''.get? s.heap.objs.size = some { cls := .type "tuple", data := .seq #[x1, x2] } := (sb.2 _ (Nat.ne_of_gt hzl)).trans hT
    have new : ObjOk X.prog X.w (upd H s.heap.objs.size (.tup [x, y])) h'' s.heap.objs.size (.tup [x, y]) :=
      ⟨by show 2 ≤ sizeLine; decide, [x1, x2], .cons ru (.cons ru2 .nil), ⟨_, hT2, rfl, _, rfl⟩⟩
    have I1 : Inv X pins σ (upd H s.heap.objs.size (.tup [x, y])) { s with heap := h'', toks := tk } :=
      I.turnedNew (t' := tk) (ch := [z, TI, TO, i1, i2]) (fun e o hb q => (sb.2 e (fun q' => hb (by simp [q']))).trans (hk e o (fun q' => hb (by simp [q'])) (fun q' => hb (by simp [q'])) (fun q' => hb (by simp [q'])) (fun q' => hb (by simp [q'])) q)) hf (Nat.le_refl _) new
    have b1 := (List.getElem?_eq_some_iff.mp hx).1
    have b2 := (List.getElem?_eq_some_iff.mp hy).1
    refine ⟨.ref s.heap.objs.size, _, I1, rfl, ⟨_, x, y, rfl, I.hok.fresh (Nat.le_refl _), rfl, fun l hl => by rw [sqG_inj I hl hqx]; exact hx, fun l hl => by rw [sqG_inj I hl hqy]; exact hy⟩, ⟨z'', ?_, ⟨x1, x2, ?_⟩, ?_, ?_, by omega, by omega⟩, fun e hcm => ?_⟩
    · exact (sb.2 _ D.TIz).trans (hk _ _ D.TIz D.TITO D.TIi1 D.TIi2 hTI)
    · exact (sb.2 _ D.TOz).trans TO'
    · exact h1'.1.at fun o q => (sb.2 _ D.i1z).trans q
    · exact h2'.1.at fun o q => (sb.2 _ D.i2z).trans q
    · have hlt : e < s.heap.objs.size := by
        have e' : e = z ∨ e = TI ∨ e = TO ∨ e = i1 ∨ e = i2 := by simpa using hcm
        rcases e' with q | q | q | q | q
        · rw [q]; exact hzl
        · rw [q]; exact Heap.lt_size hTI
        · rw [q]; exact Heap.lt_size hTO
        · rw [q]; obtain ⟨_, _, e1, _⟩ := h1.ob; exact Heap.lt_size e1
        · rw [q]; obtain ⟨_, _, e2, _⟩ := h2.ob; exact Heap.lt_size e2
      rw [upd_ne (Nat.ne_of_lt hlt)]
      exact (hf e hcm).1
  done := by
    intro X hP hw hK hc i pins s σ H E I hf st hg
    subst hP hw hK
    obtain ⟨hz, hTI, ⟨x0, y0, hTO⟩, h1, h2, le1, le2⟩ := st
    obtain ⟨xs, ys, hqx, hqy, m1, m2, hend⟩ := hg
    obtain ⟨its, rv, p⟩ := sqG I hqx
    obtain ⟨its2, rv2, p2⟩ := sqG I hqy
    have l1 := rv.length
    have l2 := rv2.length
    have hd : X.A.in1.handled = none := by simpa using I.ok.hd hc
    have S : ZipSep2 z TI TO i1 i2 [i1, a] [i2, d] := ⟨D.TIz, D.TOz, D.TITO, D.TIi1, by simp, by simp [D.i1z.symm, D.l1z.symm], by simp [D.TOi1, D.l1TO.symm], D.TIi2, by simp, by simp [D.i2z.symm, D.l2z.symm], by simp [D.TOi2, D.l2TO.symm], by simp [D.i12, D.l2i1.symm], by simp [D.i12.symm, D.l1i2.symm]⟩
    refine wpAny_pyNext_zipD2_end S (drawSq b hd i1 a D.l1i1 its.toArray) (drawSq c hd i2 d D.l2i2 its2.toArray) hz hTI hTO ⟨h1, p⟩ ⟨h2, p2⟩ (by simp; omega) (by simp; omega) (by simp; omega) fun h' tk hk => ⟨rfl, ?_⟩
    exact I.turnedL (t' := tk) (ch := [z, TI, TO, i1, i2]) (fun e o hb q => hk e o (fun q' => hb (by simp [q'])) (fun q' => hb (by simp [q'])) (fun q' => hb (by simp [q'])) (fun q' => hb (by simp [q'])) q) hf
  self := fun A i s Q E st h => wpAny_pyIter_zip st.1 h
def iZipG (K : PySem.W.Frag) (ta : TA) : TI := fun σ H R => ta σ H fun vs H1 => ∃ b c a d xs ys, vs = [.ref a, .ref d] ∧ SqG b K H1 a xs ∧ SqG c K H1 d ys ∧ R (ItzG K b c xs.length ys.length a d) H1
theorem pi_zipG {X : Cx} {e e2 : Expr} {ta : TA} {p pos tpos : Pos} {elts : List Expr} {kk : Nat} (hg : Gl X "zip") (hm : X.mg "zip" = none) (ha : PA X [e, e2] ta)
    (hs : starEach [e, e2] X.env = (false, eval e X.env) :: starEach [e2] X.env) (hpl : (backTo pos (starEach [e2] X.env)).any (·.1) = false) : PI X (.Tuple elts kk tpos) (.Call (.Name "zip" p) [e, e2] [] pos) (iZipG X.K ta) := by
  refine ⟨fun pins s σ H R I h => ?_⟩
  refine Call_ (ld_blt I hg hm PyProof.Rows.boot_zip (PyProof.Rows.callWith_type1 (thn (ha.run pos pins s σ H _ I h) fun us s1 ⟨vs, H1, I1, r1, q1⟩ => ?_) hs hpl))
  obtain ⟨b, c, a, d, xs, ys, rfl, hqx, hqy, q⟩ := q1
  obtain ⟨u1, u2, rfl, r, r'⟩ := vals2 r1
  cases r
  cases r'
  obtain ⟨its, rv, p1⟩ := sqG I1 hqx
  obtain ⟨its2, rv2, p2⟩ := sqG I1 hqy
  refine call_zipG p1 p2 fun h' hz hTI hTO h1 h2 hk => wpAny_pyIter_zip hz ?_
  have I2 : Inv X pins σ H1 { s1 with heap := h' } := I1.kept (t' := s1.toks) hk
  refine ⟨s1.heap.objs.size + 4, [s1.heap.objs.size + 4, s1.heap.objs.size + 2, s1.heap.objs.size + 3, s1.heap.objs.size, s1.heap.objs.size + 1], _, _, H1, rfl, I2, turn_zipG (PySem.W.ktu_apart s1.heap.objs.size a d p1.lt p2.lt), ⟨hz, hTI, ⟨_, _, hTO⟩, h1, h2, Nat.zero_le _, Nat.zero_le _⟩, fun e hcm => ?_, q⟩
  have e' : e = s1.heap.objs.size + 4 ∨ e = s1.heap.objs.size + 2 ∨ e = s1.heap.objs.size + 3 ∨ e = s1.heap.objs.size ∨ e = s1.heap.objs.size + 1 := by simpa using hcm
  have hle : s1.heap.objs.size ≤ e := by
    rcases e' with z | z | z | z | z <;> rw [z]
    · exact Nat.le_add_right _ _
    · exact Nat.le_add_right _ _
    · exact Nat.le_add_right _ _
    · exact Nat.le_refl _
    · exact Nat.le_add_right _ _
  exact I1.fpOk hle (I1.hok.fresh hle)
/-! ### the readings -/
/-- pairs of places and items -/
def enumIt (d : D) : DIt := fun m => (asQ m d).map (enumD 0)
def diEnum (t : DTA) : DTI := fun W δ m P => t W δ m fun ds m1 => ∃ d xs, ds = [d] ∧ asQ m1 d = some xs ∧ P (enumIt d) m1
section
variable {K : PySem.W.Frag} {mg : Str → Option Value} {H : Hp} {m : AH} {d : D} {v : V} {xs : List D}
theorem enum_stepL {a : Addr} {H1 : Hp} {m1 : AH} {ys zs : List D} {vs : List V} {i : Nat} (s1 : SqL K H1 a vs) (q1 : Reps K mg H1 ys vs) (h1 : HRep K mg H1 m1) (e : zs = enumD 0 ys) :
    (∀ d, zs[i]? = some d → (Ite K a).go i H1 ∧ ∀ x H2, (Ite K a).yld i H1 x H2 → Ext H1 H2 ∧ HRep K mg H2 m1 ∧ Rep K mg H2 d x) ∧ (zs.length ≤ i → (Ite K a).stop i H1) := by
  subst e
  refine ⟨fun d' hd => ?_, fun hl => ⟨vs, s1, by rw [q1.len]; rw [enumD_len] at hl; exact hl⟩⟩
  obtain ⟨x, ex, rfl⟩ := enumD_get hd
  obtain ⟨u, hu, ru⟩ := q1.get ex
  refine ⟨⟨vs, u, s1, hu⟩, fun y H3 z => ?_⟩
  obtain ⟨T, w, rfl, hT, rfl, hw⟩ := z
  have := hw vs s1
  rw [hu] at this
  cases this
  refine ⟨Ext.new hT, h1.new hT, T, _, rfl, SqT.of upd_same, ?_⟩
  rw [Nat.zero_add]
  exact Reps.cons rfl (Reps.cons (ru.ext (Ext.new hT)) Reps.nil)
theorem enum_stepT {a : Addr} {H1 : Hp} {m1 : AH} {ys zs : List D} {vs : List V} {i : Nat} (s1 : SqT K H1 a vs) (q1 : Reps K mg H1 ys vs) (h1 : HRep K mg H1 m1) (e : zs = enumD 0 ys) :
    (∀ d, zs[i]? = some d → (IteT K a).go i H1 ∧ ∀ x H2, (IteT K a).yld i H1 x H2 → Ext H1 H2 ∧ HRep K mg H2 m1 ∧ Rep K mg H2 d x) ∧ (zs.length ≤ i → (IteT K a).stop i H1) := by
  subst e
  refine ⟨fun d' hd => ?_, fun hl => ⟨vs, s1, by rw [q1.len]; rw [enumD_len] at hl; exact hl⟩⟩
  obtain ⟨x, ex, rfl⟩ := enumD_get hd
  obtain ⟨u, hu, ru⟩ := q1.get ex
  refine ⟨⟨vs, u, s1, hu⟩, fun y H3 z => ?_⟩
  obtain ⟨T, w, rfl, hT, rfl, hw⟩ := z
  have := hw vs s1
  rw [hu] at this
  cases this
  refine ⟨Ext.new hT, h1.new hT, T, _, rfl, SqT.of upd_same, ?_⟩
  rw [Nat.zero_add]
  exact Reps.cons rfl (Reps.cons (ru.ext (Ext.new hT)) Reps.nil)
theorem enum_rep (h : HRep K mg H m) (r : Rep K mg H d v) (e : asQ m d = some xs) : ∃ a vs, v = .ref a ∧ ((SqL K H a vs ∧ JRep K mg H (Ite K a) (enumIt d)) ∨ (SqT K H a vs ∧ JRep K mg H (IteT K a) (enumIt d))) := by
  cases d with
  | tup ys =>
    obtain ⟨a, vs, rfl, s1, q1⟩ := r
    refine ⟨a, vs, rfl, .inr ⟨s1, fun H1 m1 zs i x1 h1 e1 => enum_stepT (x1.sqt s1) (q1.ext x1) h1 ?_⟩⟩
    cases e1
    rfl
  | lst ys =>
    obtain ⟨a, vs, rfl, s1, q1⟩ := r
    refine ⟨a, vs, rfl, .inl ⟨s1.sql, fun H1 m1 zs i x1 h1 e1 => enum_stepL (x1.fzl s1).sql (q1.ext x1) h1 ?_⟩⟩
    cases e1
    rfl
  | rdl ys =>
    obtain ⟨a, vs, rfl, s1, q1⟩ := r
    refine ⟨a, vs, rfl, .inl ⟨s1.sql, fun H1 m1 zs i x1 h1 e1 => enum_stepL (x1.rdl s1).sql (q1.ext x1) h1 ?_⟩⟩
    cases e1
    rfl
  | ref b =>
    cases r
    obtain ⟨vs, s1, q1⟩ := h b _ (asL_of_ref (show asL m (.ref b) = some xs from e))
    refine ⟨b, vs, rfl, .inl ⟨SqL.of s1, fun H1 m1 zs i x1 h1 e1 => ?_⟩⟩
    have e2 : ∃ ys, asL m1 (.ref b) = some ys ∧ zs = enumD 0 ys := by
      have e1 : (asL m1 (.ref b)).map (enumD 0) = some zs := e1
      obtain ⟨ys, a1, a2⟩ := Option.map_eq_some_iff.mp e1
      exact ⟨ys, a1, a2.symm⟩
    obtain ⟨ys, a1, a2⟩ := e2
    obtain ⟨us, s2, q2⟩ := h1 b _ (asL_of_ref a1)
    exact enum_stepL (SqL.of s2) q2 h1 a2
  | _ => cases e
/-- what stands still: a tuple (true), a list -/
def stillQ : D → Option (Bool × List D)
  | .lst xs => some (false, xs)
  | .rdl xs => some (false, xs)
  | .tup xs => some (true, xs)
  | _ => none
theorem stillQ_rep {b : Bool} (r : Rep K mg H d v) (e : stillQ d = some (b, xs)) : ∃ a vs, v = .ref a ∧ Reps K mg H xs vs ∧ ∀ H1, Ext H H1 → SqG b K H1 a vs := by
  cases d with
  | lst ys => cases e; obtain ⟨a, vs, rfl, s1, q1⟩ := r; exact ⟨a, vs, rfl, q1, fun H1 x => (x.fzl s1).sql⟩
  | rdl ys => cases e; obtain ⟨a, vs, rfl, s1, q1⟩ := r; exact ⟨a, vs, rfl, q1, fun H1 x => (x.rdl s1).sql⟩
  | tup ys => cases e; obtain ⟨a, vs, rfl, s1, q1⟩ := r; exact ⟨a, vs, rfl, q1, fun H1 x => x.sqt s1⟩
  | _ => cases e
end
def diZip (t : DTA) : DTI := fun W δ m P => t W δ m fun ds m1 => ∃ d e b c xs ys, ds = [d, e] ∧ stillQ d = some (b, xs) ∧ stillQ e = some (c, ys) ∧ P (fun _ => some (zipD xs ys)) m1
section
variable {X : Cx} {a b : Expr} {t : DTA} {p pos tpos : Pos} {elts : List Expr} {kk : Nat}
theorem di_enum (hg : Gl X "enumerate") (hm : X.mg "enumerate" = none) (ha : DA X [a] t) (hs : starEach [a] X.env = [(false, eval a X.env)]) : DI X (.Tuple elts kk tpos) (.Call (.Name "enumerate" p) [a] [] pos) (diEnum t) :=
  ⟨fun W H0 tk => PI.imp (pi_enumA hg hm (ha.run W H0 tk) hs) fun σ H R ⟨x0, δ, m, P, e, h, t, q⟩ => ⟨x0, δ, m, _, e, h, t, fun ds m1 t1 vs H1 x1 r1 h1 => by
    obtain ⟨d, xs, rfl, e1, t1⟩ := t1
    obtain ⟨v, _, rfl, r2, rfl⟩ := r1
    obtain ⟨a, vs, rfl, ⟨s1, j⟩ | ⟨s1, j⟩⟩ := enum_rep h1 r2 e1
    · exact ⟨a, vs, rfl, .inl ⟨s1, q _ _ t1 _ H1 x1 h1 j⟩⟩
    · exact ⟨a, vs, rfl, .inr ⟨s1, q _ _ t1 _ H1 x1 h1 j⟩⟩⟩⟩
theorem di_zip (hg : Gl X "zip") (hm : X.mg "zip" = none) (ha : DA X [a, b] t) (hs : starEach [a, b] X.env = (false, eval a X.env) :: starEach [b] X.env) (hpl : (backTo pos (starEach [b] X.env)).any (·.1) = false) : DI X (.Tuple elts kk tpos) (.Call (.Name "zip" p) [a, b] [] pos) (diZip t) :=
  ⟨fun W H0 tk => PI.imp (pi_zipG hg hm (ha.run W H0 tk) hs hpl) fun σ H R ⟨x0, δ, m, P, e, h, t, q⟩ => ⟨x0, δ, m, _, e, h, t, fun ds m1 t1 vs H1 x1 r1 h1 => by
    obtain ⟨d, e, b, c, xs, ys, rfl, e1, e2, t1⟩ := t1
    obtain ⟨v, _, rfl, r2, w, _, rfl, r3, rfl⟩ := r1
    obtain ⟨a, vs, rfl, q1, s1⟩ := stillQ_rep r2 e1
    obtain ⟨b', us, rfl, q2, s2⟩ := stillQ_rep r3 e2
    refine ⟨b, c, a, b', vs, us, rfl, s1 _ (Ext.refl _), s2 _ (Ext.refl _), q _ _ t1 _ H1 x1 h1 fun H2 m2 zs i x2 h2 e3 => ?_⟩
    cases e3
    refine ⟨fun d' hd => ?_, fun hl => ⟨vs, us, s1 _ x2, s2 _ x2, rfl, rfl, by rw [q1.len, q2.len]; rw [zipD_len] at hl; omega⟩⟩
    obtain ⟨x, y, ex, ey, rfl⟩ := zipD_get hd
    obtain ⟨u, hu, ru⟩ := q1.get ex
    obtain ⟨u2, hu2, ru2⟩ := q2.get ey
    refine ⟨⟨vs, us, u, u2, s1 _ x2, s2 _ x2, rfl, rfl, hu, hu2⟩, fun y H3 z => ?_⟩
    obtain ⟨T, w1, w2, rfl, hT, rfl, hw1, hw2⟩ := z
    have a1 := hw1 vs (s1 _ x2)
    have a2 := hw2 us (s2 _ x2)
    rw [hu] at a1
    rw [hu2] at a2
    cases a1
    cases a2
    have xn := x2.trans (Ext.new (o := .tup [u, u2]) hT)
    exact ⟨Ext.new hT, h2.new hT, T, _, rfl, SqT.of upd_same, Reps.cons (ru.ext xn) (Reps.cons (ru2.ext xn) Reps.nil)⟩⟩⟩
end
end L2.AP
set_option Elab.async false
set_option linter.all false
set_option maxRecDepth 100000
set_option maxHeartbeats 2000000
/-! AP8: list comprehensions. -/
namespace L2.AP
open PySem PySem.Spec PyProof.Rows

theorem wipe_get (σ : St) (j : Nat) : ∀ vs : List Nat, (wipe σ vs)[j]? = if j ∈ vs then (σ[j]?).map (fun _ => none) else σ[j]?
  | [] => by simp [wipe]
  | v :: vs => by
    unfold wipe
    have ih := wipe_get σ j vs
    by_cases c : v = j
    · subst c
      by_cases hv : v < σ.length
      · rw [List.getElem?_set_self (by rw [wipe_length]; exact hv), if_pos (by simp), List.getElem?_eq_getElem hv]
        rfl
      · rw [List.getElem?_eq_none (by rw [List.length_set, wipe_length]; omega), List.getElem?_eq_none (by omega)]
        simp
    · rw [List.getElem?_set_ne c, ih]
      by_cases d : j ∈ vs
      · rw [if_pos d, if_pos (List.mem_cons_of_mem _ d)]
      · rw [if_neg d, if_neg (by simp only [List.mem_cons, not_or]; exact ⟨fun e => c e.symm, d⟩)]
theorem wipe_set {σ : St} {i : Nat} {x : Option V} {vs : List Nat} (h : i ∈ vs) : wipe (σ.set i x) vs = wipe σ vs := by
  refine List.ext_getElem? fun j => ?_
  rw [wipe_get, wipe_get]
  by_cases c : i = j
  · subst c
    rw [if_pos h, if_pos h]
    by_cases hi : i < σ.length
    · rw [List.getElem?_set_self hi, List.getElem?_eq_getElem hi]; rfl
    · rw [List.getElem?_eq_none (by rw [List.length_set]; omega), List.getElem?_eq_none (by omega)]
  · rw [List.getElem?_set_ne c]
theorem wipe_idem {σ : St} {vs : List Nat} : wipe (wipe σ vs) vs = wipe σ vs := by
  refine List.ext_getElem? fun j => ?_
  rw [wipe_get, wipe_get]
  split
  · cases σ[j]? <;> rfl
  · rfl
/-- the slots at vs unknown -/
def wipeD (δ : Dl) : List Nat → Dl
  | [] => δ
  | v :: vs => (wipeD δ vs).set v none
theorem ERep.wipe {K : PySem.W.Frag} {mg : Str → Option Value} {H : Hp} {σ : St} {δ : Dl} (h : ERep K mg H σ δ) : ∀ vs : List Nat, ERep K mg H (L2.wipe σ vs) (wipeD δ vs)
  | [] => h
  | v :: vs => by
    have ih := ERep.wipe h vs
    refine ⟨by unfold L2.wipe wipeD; rw [List.length_set, List.length_set]; exact ih.1, fun i d e => ?_⟩
    unfold L2.wipe; unfold wipeD at e
    by_cases c : v = i
    · subst c
      by_cases hv : v < (wipeD δ vs).length
      · rw [List.getElem?_set_self hv] at e; cases e
      · rw [List.getElem?_eq_none (by rw [List.length_set]; omega)] at e; cases e
    · rw [List.getElem?_set_ne c] at e ⊢
      exact ih.2 i d e

/-! ### targets of a comprehension -/
section
variable (K : PySem.W.Frag) (mg : Str → Option Value)
def liftGc (g : DTG) (vs : List Nat) : TG := fun v σ H Q => ∃ d δ m P, Rep K mg H d v ∧ ERep K mg H σ δ ∧ HRep K mg H m ∧ g (fun _ _ _ _ => False) d δ m P ∧ ∀ δ' m', P δ' m' → ∀ σ' H', Ext H H' → ERep K mg H' σ' δ' → HRep K mg H' m' → L2.wipe σ' vs = L2.wipe σ vs → Q σ' H'
def liftGcs (g : DTGs) (vs : List Nat) : TGs := fun us σ H Q => ∃ ds δ m P, Reps K mg H ds us ∧ ERep K mg H σ δ ∧ HRep K mg H m ∧ g (fun _ _ _ _ => False) ds δ m P ∧ ∀ δ' m', P δ' m' → ∀ σ' H', Ext H H' → ERep K mg H' σ' δ' → HRep K mg H' m' → L2.wipe σ' vs = L2.wipe σ vs → Q σ' H'
end
abbrev DGc (X : Cx) (tg : Expr) (g : DTG) (vs : List Nat) : Prop := PG X tg (liftGc X.K X.mg g vs)
abbrev DGcs (X : Cx) (tg : List Expr) (g : DTGs) (vs : List Nat) : Prop := PGs X tg (liftGcs X.K X.mg g vs)
section
variable {X : Cx} {pos : Pos} {e : Expr} {es : List Expr} {g : DTG} {gs : DTGs} {vs : List Nat}
theorem dgc_name {i : Nat} {x : Str} (hN : X.N.Nodup) (hi : X.N[i]? = some x) (hx : Loc X.env.scope x) (hf : X.fn x = true ∨ X.env.scope.names.lookup x = some .local) (hv : i ∈ vs) : DGc X (.Name x pos) (dgName i) vs :=
  PG.imp (pg_name hN hi hx hf) fun v σ H Q ⟨d, δ, m, P, r, e, h, t, q⟩ => q _ _ t _ H (Ext.refl H) (e.set r i) h (wipe_set hv)
theorem dgcs_nil : DGcs X [] dgNil vs := PGs.imp pgs_nil fun us σ H Q ⟨ds, δ, m, P, r, e, h, t, q⟩ => by
  obtain ⟨rfl, t⟩ := t
  exact ⟨r, q _ _ t σ H (Ext.refl H) e h rfl⟩
theorem dgcs_cons (h1 : DGc X e g vs) (h2 : DGcs X es gs vs) (hs : (assignEach (e :: es) X.env).map (·.2) = assign e X.env :: (assignEach es X.env).map (·.2)) : DGcs X (e :: es) (dgCons g gs) vs :=
  PGs.imp (pgs_cons h1 h2 hs) fun us σ H Q ⟨ds, δ, m, P, r, e, h, t, q⟩ => by
    unfold dgCons at t
    split at t
    · obtain ⟨v, us, rfl, r1, r2⟩ := r
      exact ⟨v, us, rfl, _, δ, m, _, r1, e, h, t, fun δ' m' t' σ' H' x e' h' w => ⟨_, δ', m', P, r2.ext x, e', h', t', fun δ2 m2 t2 σ2 H2 x2 e2 h2 w2 => q _ _ t2 σ2 H2 (x.trans x2) e2 h2 (w2.trans w)⟩⟩
    · exact t.elim
theorem dgc_tup {k n : Nat} (hc : X.calm = true) (h : DGcs X es gs vs) (hn : (assignEach es X.env).length = n) (hst : (assignEach es X.env).findIdx? (·.1) = none) : DGc X (.Tuple es k pos) (dgTup n gs) vs :=
  PG.imp (PG.or (pg_tup hc h hn hst) (pg_unl hc h hn hst)) fun v σ H Q ⟨d, δ, m, P, r, e, h, t, q⟩ => by
    unfold dgTup at t
    split at t
    · obtain ⟨a, vs, rfl, s1, q1⟩ := r
      exact .inl ⟨a, vs, rfl, s1, by rw [q1.len]; exact t.1, _, δ, m, P, q1, e, h, t.2, q⟩
    · obtain ⟨ds, e1, hl, t⟩ := t
      obtain ⟨a, vs, rfl, s1, q1⟩ := asL_rep h r e1
      exact .inr ⟨a, vs, rfl, .inl s1, by rw [q1.len]; exact hl, _, δ, m, P, q1, e, h, t, q⟩
end
structure DTs (X : Cx) (es : List Expr) (t : DTT) : Prop where
  run : ∀ W H0, Takes X (liftW X.K X.mg W H0) → PTs X es (liftT X.K X.mg t W H0)
theorem PTs.imp {X : Cx} {e : List Expr} {t t' : TT} (h : PTs X e t) (i : ∀ σ H Q, t' σ H Q → t σ H Q) : PTs X e t' := ⟨fun pins s σ H Q I q => h.run pins s σ H Q I (i σ H Q q)⟩
def dYes : DTT := fun _ _ m Q => Q true m
theorem dts_nil {X : Cx} : DTs X [] dYes := ⟨fun W H0 tk => PTs.imp pts_nil fun σ H Q ⟨x0, δ, m, P, e, h, t, q⟩ => q _ _ t H (Ext.refl H) h⟩
theorem dts_one {X : Cx} {c : Expr} {t : DTT} (h : DT X c t) : DTs X [c] t := ⟨fun W H0 tk => pts_one (h.run W H0 tk)⟩

/-- no exception is wished for within a comprehension -/
abbrev WF : DW := fun _ _ _ _ => False
theorem takesF {X : Cx} {H0 : Hp} : Takes X (liftW X.K X.mg WF H0) := fun u s' z => by
  obtain ⟨a, B, sI, pins, σ, H, cls, d, e, I, nb, up, sky, na, os, ag, ⟨_, _, _, _, _, f⟩⟩ := z
  exact f.elim
/-- what stands behind the last item: the list is handed on -/
def lcEnd (mu : Bool) (p : Addr) (acc : List D) (m : AH) (Q : DQ) : Prop := if mu = true then Q (.ref p) m else ∃ m', Le m' m ∧ m' p = none ∧ Q (.lst acc) m'
def dLc (mu : Bool) (ti : DTI) (g : DTG) (tt : DTT) (te : DTE) (vs : List Nat) : DTE := fun W δ m Q => ti W δ m fun it m1 => ∀ p, m1 p = none → ∃ I : Nat → Nat → List D → AH → Prop, (∃ k, I 0 k [] (put m1 p (.lst []))) ∧
  ∀ i k acc m, I i k acc m → m p = some (.lst acc) ∧ ∃ xs, it m = some xs ∧ match xs[i]? with
    | none => lcEnd mu p acc m Q
    | some x => g WF x (wipeD δ vs) m fun δ2 m2 => tt WF δ2 m2 fun b m3 =>
      if b = true then te WF δ2 m3 fun d m4 => m4 p = some (.lst acc) ∧ acc.length < sizeLine ∧ ∃ k' m5, k' < k ∧ Le m5 (put m4 p (.lst (acc ++ [d]))) ∧ I (i + 1) k' (acc ++ [d]) m5
      else ∃ k' m5, k' < k ∧ Le m5 m3 ∧ I (i + 1) k' acc m5
/-- statements: the list at a slot or where the heap tells stands still -/
def FrzN (P : St → Hp → Prop) : St → Hp → Prop := fun σ H => ∃ p xs, H p = some (.lst xs) ∧ ∀ o, P σ (upd H p (.frz o (.lst xs)))
theorem PS.frz {X : Cx} {st : Stmt} {t : TS} (h : PS X st t) : PS X st (fun D σ H => t { D with nx := FrzN D.nx } σ H) := ⟨fun pins s σ H D I q => thn (h.run pins s σ H _ I q) fun f s' z => by
  cases f with
  | next =>
    obtain ⟨σ', H', I', p, xs, hp, q⟩ := z
    obtain ⟨o, I2⟩ := Inv.freeze I' hp
    exact ⟨σ', _, I2, q o⟩
  | brk => exact z
  | cont => exact z
  | ret v => exact z⟩

section
variable {K : PySem.W.Frag} {mg : Str → Option Value} {ti : DTI} {g : DTG} {tt : DTT} {te : DTE} {vs : List Nat} {mu : Bool} {W : DW}
/-- the reading of a comprehension from the deep one. Qd: what is wanted of the new list's address and its heap -/
theorem lc_lift {σ : St} {H0 H : Hp} {δ : Dl} {m : AH} {P : DQ} {Q : VK} (x0 : Ext H0 H) (e : ERep K mg H σ δ) (h : HRep K mg H m) (t : dLc mu ti g tt te vs W δ m P)
    (fin : ∀ p acc m' vs' H', Ext H H' → HRep K mg H' m' → H' p = some (.lst vs') → Reps K mg H' acc vs' → m' p = some (.lst acc) → lcEnd mu p acc m' P → Q (.ref p) H') :
    tLc (liftI K mg ti W H0) (liftGc K mg g vs) (liftT K mg tt WF H0) (liftE K mg te WF H0) vs σ H Q := by
  refine ⟨x0, δ, m, _, e, h, t, fun it m1 t1 J H1 x1 h1 j D hD => ?_⟩
  obtain ⟨I, ⟨k, i0⟩, turn⟩ := t1 D (h1.none hD)
  refine ⟨fun i k H' => Ext (upd H1 D (.lst [])) H' ∧ ∃ acc m', HRep K mg H' m' ∧ I i k acc m', ⟨k, Ext.refl _, [], _, h1.lay (u := .lst []) hD ⟨[], upd_same, Reps.nil⟩, i0⟩, fun i k H2 ⟨x2, acc, m2, h2, i2⟩ => ?_⟩
  obtain ⟨e1, xs, e2, tn⟩ := turn i k acc m2 i2
  have x12 : Ext H1 H2 := (Ext.new hD).trans x2
  obtain ⟨j1, j2⟩ := j H2 m2 xs i x12 h2 e2
  cases hx : xs[i]? with
  | none =>
    rw [hx] at tn
    obtain ⟨vs', e3, e4⟩ := h2 D _ e1
    exact .inl ⟨j2 (List.getElem?_eq_none_iff.mp hx), fin D acc m2 vs' H2 (x1.trans x12) h2 e3 e4 e1 tn⟩
  | some x =>
    rw [hx] at tn
    obtain ⟨go, yl⟩ := j1 x hx
    refine .inr ⟨go, fun H' => ∃ k', k' < k ∧ Ext (upd H1 D (.lst [])) H' ∧ ∃ acc m', HRep K mg H' m' ∧ I (i + 1) k' acc m', fun H' ⟨k', a, b⟩ => ⟨k', a, b⟩, fun v H3 y => ?_⟩
    obtain ⟨x3, h3, r3⟩ := yl v H3 y
    refine ⟨x, wipeD δ vs, m2, _, r3, (e.ext ((x1.trans x12).trans x3)).wipe vs, h3, tn, fun δ4 m4 t4 σ4 H4 x4 e4 h4 w4 => ⟨w4.trans wipe_idem, x0.trans ((x1.trans x12).trans (x3.trans x4)), δ4, m4, _, e4, h4, t4, fun b m5 t5 H5 x5 h5 => ?_⟩⟩
    have x25 : Ext (upd H1 D (.lst [])) H5 := x2.trans (x3.trans (x4.trans x5))
    cases b with
    | false =>
      rw [if_neg Bool.false_ne_true] at t5
      refine (if_neg Bool.false_ne_true).mpr ?_
      obtain ⟨k', m6, hk, l6, i6⟩ := t5
      exact ⟨k', hk, x25, acc, m6, h5.le l6, i6⟩
    | true =>
      rw [if_pos rfl] at t5
      refine (if_pos rfl).mpr ?_
      refine ⟨x0.trans ((x1.trans x12).trans ((x3.trans x4).trans x5)), δ4, m5, _, e4.ext x5, h5, t5, fun d m6 ⟨e6, hl, k', m7, hk, l7, i7⟩ v6 H6 x6 r6 h6 => ?_⟩
      obtain ⟨vs', e7, e8⟩ := h6 D _ e6
      obtain ⟨x7, h7⟩ := HRep.putL h6 e7 (e8.app (Reps.cons r6 Reps.nil))
      exact ⟨vs', e7, by rw [e8.len]; exact hl, k', hk, x25.trans (x6.trans x7), acc ++ [d], m7, h7.le l7, i7⟩
theorem del_frz {H' : Hp} {p : Addr} {vs' : List V} {m' m'' : AH} {acc : List D} {o : Obj} (h : HRep K mg H' m') (e : H' p = some (.lst vs')) (r : Reps K mg H' acc vs') (l : Le m'' m') (n : m'' p = none) :
    Ext H' (upd H' p (.frz o (.lst vs'))) ∧ HRep K mg (upd H' p (.frz o (.lst vs'))) m'' ∧ Rep K mg (upd H' p (.frz o (.lst vs'))) (.lst acc) (.ref p) := by
  have x : Ext H' (upd H' p (.frz o (.lst vs'))) := Ext.put e (fun _ z => nomatch z) (fun _ _ z => nomatch z)
  refine ⟨x, fun a u q => ?_, p, vs', rfl, ⟨o, upd_same⟩, r.ext x⟩
  have na : a ≠ p := fun z => by subst z; rw [n] at q; cases q
  exact (h a u (l a u q)).ext x (upd_ne na)
end
section
variable {X : Cx} {elt tg iter : Expr} {ifs : List Expr} {scope : Scope} {own : List (Str × Nat)} {pos spos : Pos} {ti : DTI} {g : DTG} {tt : DTT} {te : DTE} {mu : Bool}
theorem de_lc (mu : Bool) (hc : X.calm = true) (hN : X.N.Nodup) (hi : DI X tg iter ti) (ok : BlkOk X.N X.env.scope scope own)
    (hg : ∀ (s : Shared) (H : Hp) (C : Addr) (cl : List (Str × Addr)) (fp : List Addr), DGc (X.blk s H scope (compEnvC scope cl C X.env) fp) tg g (own.map (·.2)))
    (ht : ∀ (s : Shared) (H : Hp) (C : Addr) (cl : List (Str × Addr)) (fp : List Addr), DTs (X.blk s H scope (compEnvC scope cl C X.env) fp) ifs tt)
    (he : ∀ (s : Shared) (H : Hp) (C : Addr) (cl : List (Str × Addr)) (fp : List Addr), DE (X.blk s H scope (compEnvC scope cl C X.env) fp) elt te)
    (hs : ∀ x, foldedSetIterable iter X.env x = pure x) : DE X (.ListComp elt [⟨tg, iter, ifs, 0⟩] scope pos) (dLc mu ti g tt te (own.map (·.2))) :=
  ⟨fun W H0 tk => by
    have base := pe_lc (pos := pos) (g := liftGc X.K X.mg g (own.map (·.2))) (tt := liftT X.K X.mg tt WF H0) (te := liftE X.K X.mg te WF H0) hc hN (hi.run W H0 tk) ok hg (fun s H C cl fp => (ht s H C cl fp).run WF H0 takesF) (fun s H C cl fp => (he s H C cl fp).run WF H0 takesF) hs
    cases mu with
    | true =>
      refine PE.imp base fun σ H Q ⟨x0, δ, m, P, e, h, t, q⟩ => lc_lift x0 e h t fun p acc m' vs' H' x h' e1 e2 e3 en => ?_
      unfold lcEnd at en
      rw [if_pos rfl] at en
      exact q _ _ en _ H' x rfl h'
    | false =>
      refine PE.imp (PE.frz base) fun σ H Q ⟨x0, δ, m, P, e, h, t, q⟩ => lc_lift x0 e h t fun p acc m' vs' H' x h' e1 e2 e3 en => ?_
      unfold lcEnd at en
      rw [if_neg Bool.false_ne_true] at en
      obtain ⟨m2, l, n, en⟩ := en
      refine ⟨p, vs', rfl, e1, fun o => ?_⟩
      obtain ⟨y1, y2, y3⟩ := del_frz (o := o) h' e1 e2 l n
      exact q _ _ en _ _ (x.trans y1) y3 y2⟩
theorem ds_setLc (mu : Bool) {i : Nat} {y : Str} {py : Pos} (hc : X.calm = true) (hN : X.N.Nodup) (hy : X.N[i]? = some y) (hyl : X.env.scope.names.lookup y = some .local)
    (hsw : swapsWith (.ListComp elt [⟨tg, iter, ifs, 0⟩] scope pos) (some (.Name y py)) spos.line X.env = pure true) (hi : DI X tg iter ti) (ok : BlkOk X.N X.env.scope scope own)
    (hg : ∀ (s : Shared) (H : Hp) (C : Addr) (cl : List (Str × Addr)) (fp : List Addr), DGc (X.blk s H scope (compEnvC scope cl C X.env) fp) tg g (own.map (·.2)))
    (ht : ∀ (s : Shared) (H : Hp) (C : Addr) (cl : List (Str × Addr)) (fp : List Addr), DTs (X.blk s H scope (compEnvC scope cl C X.env) fp) ifs tt)
    (he : ∀ (s : Shared) (H : Hp) (C : Addr) (cl : List (Str × Addr)) (fp : List Addr), DE (X.blk s H scope (compEnvC scope cl C X.env) fp) elt te)
    (hs : ∀ x, foldedSetIterable iter X.env x = pure x) : DS X (.Assign [.Name y py] (.ListComp elt [⟨tg, iter, ifs, 0⟩] scope pos) spos) (dAsg (dLc mu ti g tt te (own.map (·.2))) (dgName i)) :=
  ⟨fun W H0 tk hp => by
    have base := ps_setLc (spos := spos) (g := liftGc X.K X.mg g (own.map (·.2))) (tt := liftT X.K X.mg tt WF H0) (te := liftE X.K X.mg te WF H0) hc hN hy hyl hsw (hi.run W H0 tk) ok hg (fun s H C cl fp => (ht s H C cl fp).run WF H0 takesF) (fun s H C cl fp => (he s H C cl fp).run WF H0 takesF) hs
    cases mu with
    | true =>
      refine PS.imp base fun D σ H ⟨x0, δ, m, E, e, h, t, q⟩ => lc_lift x0 e h t fun p acc m' vs' H' x h' e1 e2 e3 en => ?_
      unfold lcEnd at en
      rw [if_pos rfl] at en
      exact q.nx _ _ en _ H' x ((e.ext x).set (d := .ref p) (v := .ref p) rfl i) h'
    | false =>
      refine PS.imp (PS.frz base) fun D σ H ⟨x0, δ, m, E, e, h, t, q⟩ => lc_lift x0 e h t fun p acc m' vs' H' x h' e1 e2 e3 en => ?_
      unfold lcEnd at en
      rw [if_neg Bool.false_ne_true] at en
      obtain ⟨m2, l, n, en⟩ := en
      refine ⟨p, vs', e1, fun o => ?_⟩
      obtain ⟨y1, y2, y3⟩ := del_frz (o := o) h' e1 e2 l n
      exact q.nx _ _ en _ _ (x.trans y1) ((e.ext (x.trans y1)).set y3 i) y2⟩
end

/-! ### two sources -/
def dLc2 (mu : Bool) (ti : DTI) (g : DTG) (tt : DTT) (ui : DTI) (gu : DTG) (tu : DTT) (te : DTE) (vs us : List Nat) : DTE := fun W δ m Q => ti W δ m fun it m1 => ∀ p, m1 p = none → ∃ I : Nat → Nat → List D → AH → Prop, (∃ k, I 0 k [] (put m1 p (.lst []))) ∧
  ∀ i k acc m, I i k acc m → m p = some (.lst acc) ∧ ∃ xs, it m = some xs ∧ match xs[i]? with
    | none => lcEnd mu p acc m Q
    | some x => g WF x (wipeD δ vs) m fun δ2 m2 => tt WF δ2 m2 fun b m3 =>
      if b = true then ui WF δ2 m3 fun iu m4 => ∃ J : Nat → Nat → List D → AH → Prop, (∃ l, J 0 l acc m4) ∧ ∀ j l acc m, J j l acc m → m p = some (.lst acc) ∧ ∃ ys, iu m = some ys ∧ match ys[j]? with
        | none => ∃ k' m5, k' < k ∧ Le m5 m ∧ I (i + 1) k' acc m5
        | some y => gu WF y (wipeD δ2 us) m fun δ3 m5 => tu WF δ3 m5 fun b m6 =>
          if b = true then te WF δ3 m6 fun d m7 => m7 p = some (.lst acc) ∧ acc.length < sizeLine ∧ ∃ l' m8, l' < l ∧ Le m8 (put m7 p (.lst (acc ++ [d]))) ∧ J (j + 1) l' (acc ++ [d]) m8
          else ∃ l' m7, l' < l ∧ Le m7 m6 ∧ J (j + 1) l' acc m7
      else ∃ k' m5, k' < k ∧ Le m5 m3 ∧ I (i + 1) k' acc m5
section
variable {K : PySem.W.Frag} {mg : Str → Option Value} {ti ui : DTI} {g gu : DTG} {tt tu : DTT} {te : DTE} {vs us : List Nat} {mu : Bool} {W : DW}
theorem lc2_lift {σ : St} {H0 H : Hp} {δ : Dl} {m : AH} {P : DQ} {Q : VK} (x0 : Ext H0 H) (e : ERep K mg H σ δ) (h : HRep K mg H m) (t : dLc2 mu ti g tt ui gu tu te vs us W δ m P)
    (fin : ∀ p acc m' vs' H', Ext H H' → HRep K mg H' m' → H' p = some (.lst vs') → Reps K mg H' acc vs' → m' p = some (.lst acc) → lcEnd mu p acc m' P → Q (.ref p) H') :
    tLc2 (liftI K mg ti W H0) (liftGc K mg g vs) (liftT K mg tt WF H0) (liftI K mg ui WF H0) (liftGc K mg gu us) (liftT K mg tu WF H0) (liftE K mg te WF H0) vs us σ H Q := by
  refine ⟨x0, δ, m, _, e, h, t, fun it m1 t1 J H1 x1 h1 j D hD => ?_⟩
  obtain ⟨I, ⟨k, i0⟩, turn⟩ := t1 D (h1.none hD)
  refine ⟨fun i k H' => Ext (upd H1 D (.lst [])) H' ∧ ∃ acc m', HRep K mg H' m' ∧ I i k acc m', ⟨k, Ext.refl _, [], _, h1.lay (u := .lst []) hD ⟨[], upd_same, Reps.nil⟩, i0⟩, fun i k H2 ⟨x2, acc, m2, h2, i2⟩ => ?_⟩
  obtain ⟨e1, xs, e2, tn⟩ := turn i k acc m2 i2
  have x12 : Ext H1 H2 := (Ext.new hD).trans x2
  obtain ⟨j1, j2⟩ := j H2 m2 xs i x12 h2 e2
  cases hx : xs[i]? with
  | none =>
    rw [hx] at tn
    obtain ⟨vs', e3, e4⟩ := h2 D _ e1
    exact .inl ⟨j2 (List.getElem?_eq_none_iff.mp hx), fin D acc m2 vs' H2 (x1.trans x12) h2 e3 e4 e1 tn⟩
  | some x =>
    rw [hx] at tn
    obtain ⟨go, yl⟩ := j1 x hx
    refine .inr ⟨go, fun H' => ∃ k', k' < k ∧ Ext (upd H1 D (.lst [])) H' ∧ ∃ acc m', HRep K mg H' m' ∧ I (i + 1) k' acc m', fun H' ⟨k', a, b⟩ => ⟨k', a, b⟩, fun v H3 y => ?_⟩
    obtain ⟨x3, h3, r3⟩ := yl v H3 y
    refine ⟨x, wipeD δ vs, m2, _, r3, (e.ext ((x1.trans x12).trans x3)).wipe vs, h3, tn, fun δ4 m4 t4 σ4 H4 x4 e4 h4 w4 => ⟨w4.trans wipe_idem, x0.trans ((x1.trans x12).trans (x3.trans x4)), δ4, m4, _, e4, h4, t4, fun b m5 t5 H5 x5 h5 => ?_⟩⟩
    have x25 : Ext (upd H1 D (.lst [])) H5 := x2.trans (x3.trans (x4.trans x5))
    cases b with
    | false =>
      rw [if_neg Bool.false_ne_true] at t5
      refine (if_neg Bool.false_ne_true).mpr ?_
      obtain ⟨k', m6, hk, l6, i6⟩ := t5
      exact ⟨k', hk, x25, acc, m6, h5.le l6, i6⟩
    | true =>
      rw [if_pos rfl] at t5
      refine (if_pos rfl).mpr ?_
      refine ⟨x0.trans ((x1.trans x12).trans ((x3.trans x4).trans x5)), δ4, m5, _, e4.ext x5, h5, t5, fun iu m6 t6 J1 H6 x6 h6 ju => ?_⟩
      obtain ⟨I1, ⟨l, i1⟩, turn1⟩ := t6
      refine ⟨fun i k H' => Ext H6 H' ∧ ∃ acc m', HRep K mg H' m' ∧ I1 i k acc m', ⟨l, Ext.refl _, acc, m6, h6, i1⟩, fun n l H7 ⟨x7, acc7, m7, h7, i7⟩ => ?_⟩
      obtain ⟨f1, ys, f2, tm⟩ := turn1 n l acc7 m7 i7
      obtain ⟨y1, y2⟩ := ju H7 m7 ys n x7 h7 f2
      have x27 : Ext (upd H1 D (.lst [])) H7 := x25.trans (x6.trans x7)
      cases hy : ys[n]? with
      | none =>
        rw [hy] at tm
        obtain ⟨k', m8, hk, l8, i8⟩ := tm
        exact .inl ⟨y2 (List.getElem?_eq_none_iff.mp hy), k', hk, x27, acc7, m8, h7.le l8, i8⟩
      | some yd =>
        rw [hy] at tm
        obtain ⟨go1, yl1⟩ := y1 yd hy
        refine .inr ⟨go1, fun H' => ∃ k', k' < l ∧ Ext H6 H' ∧ ∃ acc m', HRep K mg H' m' ∧ I1 (n + 1) k' acc m', fun H' ⟨k', a, b⟩ => ⟨k', a, b⟩, fun u H8 yy => ?_⟩
        obtain ⟨x8, h8, r8⟩ := yl1 u H8 yy
        have x78 := (x5.trans (x6.trans (x7.trans x8)))
        have x08 : Ext H0 H7 := x0.trans ((x1.trans (Ext.new hD)).trans x27)
        refine ⟨yd, wipeD δ4 us, m7, _, r8, (e4.ext x78).wipe us, h8, tm, fun δ9 m9 t9 σ9 H9 x9 e9 h9 w9 => ⟨w9.trans wipe_idem, x08.trans (x8.trans x9), δ9, m9, _, e9, h9, t9, fun b m10 t10 H10 x10 h10 => ?_⟩⟩
        have x610 : Ext H6 H10 := x7.trans (x8.trans (x9.trans x10))
        cases b with
        | false =>
          rw [if_neg Bool.false_ne_true] at t10
          refine (if_neg Bool.false_ne_true).mpr ?_
          obtain ⟨k', m11, hk, l11, i11⟩ := t10
          exact ⟨k', hk, x610, acc7, m11, h10.le l11, i11⟩
        | true =>
          rw [if_pos rfl] at t10
          refine (if_pos rfl).mpr ?_
          refine ⟨x08.trans (x8.trans (x9.trans x10)), δ9, m10, _, e9.ext x10, h10, t10, fun d m11 ⟨z1, hl, k', m12, hk, l12, i12⟩ v11 H11 x11 r11 h11 => ?_⟩
          obtain ⟨vs', z2, z3⟩ := h11 D _ z1
          obtain ⟨x12', h12⟩ := HRep.putL h11 z2 (z3.app (Reps.cons r11 Reps.nil))
          exact ⟨vs', z2, by rw [z3.len]; exact hl, k', hk, x610.trans (x11.trans x12'), acc7 ++ [d], m12, h12.le l12, i12⟩
end
section
variable {X : Cx} {elt tg iter tg1 iter1 : Expr} {ifs ifs1 : List Expr} {scope : Scope} {own : List (Str × Nat)} {us : List Nat} {pos spos : Pos} {ti ui : DTI} {g gu : DTG} {tt tu : DTT} {te : DTE} {mu : Bool}
structure Lc2Ok (X : Cx) (elt tg iter tg1 iter1 : Expr) (ifs ifs1 : List Expr) (scope : Scope) (own : List (Str × Nat)) (us : List Nat) (ti ui : DTI) (g gu : DTG) (tt tu : DTT) (te : DTE) : Prop where
  hi : DI X tg iter ti
  ok : BlkOk X.N X.env.scope scope own
  hv : ∀ i ∈ us, i ∈ own.map (·.2)
  hg : ∀ (s : Shared) (H : Hp) (C : Addr) (cl : List (Str × Addr)) (fp : List Addr), DGc (X.blk s H scope (compEnvC scope cl C X.env) fp) tg g (own.map (·.2))
  ht : ∀ (s : Shared) (H : Hp) (C : Addr) (cl : List (Str × Addr)) (fp : List Addr), DTs (X.blk s H scope (compEnvC scope cl C X.env) fp) ifs tt
  hu : ∀ (s : Shared) (H : Hp) (C : Addr) (cl : List (Str × Addr)) (fp : List Addr), DI (X.blk s H scope (compEnvC scope cl C X.env) fp) tg1 iter1 ui
  hgu : ∀ (s : Shared) (H : Hp) (C : Addr) (cl : List (Str × Addr)) (fp : List Addr), DGc (X.blk s H scope (compEnvC scope cl C X.env) fp) tg1 gu us
  htu : ∀ (s : Shared) (H : Hp) (C : Addr) (cl : List (Str × Addr)) (fp : List Addr), DTs (X.blk s H scope (compEnvC scope cl C X.env) fp) ifs1 tu
  he : ∀ (s : Shared) (H : Hp) (C : Addr) (cl : List (Str × Addr)) (fp : List Addr), DE (X.blk s H scope (compEnvC scope cl C X.env) fp) elt te
  hs : ∀ x, foldedSetIterable iter X.env x = pure x
  hs1 : ∀ env x, foldedSetIterable iter1 env x = pure x
theorem de_lc2 (mu : Bool) (hc : X.calm = true) (hN : X.N.Nodup) (L : Lc2Ok X elt tg iter tg1 iter1 ifs ifs1 scope own us ti ui g gu tt tu te) :
    DE X (.ListComp elt [⟨tg, iter, ifs, 0⟩, ⟨tg1, iter1, ifs1, 0⟩] scope pos) (dLc2 mu ti g tt ui gu tu te (own.map (·.2)) us) :=
  ⟨fun W H0 tk => by
    have base := pe_lc2 (pos := pos) (g := liftGc X.K X.mg g (own.map (·.2))) (tt := liftT X.K X.mg tt WF H0) (wi1 := liftI X.K X.mg ui WF H0) (g1 := liftGc X.K X.mg gu us) (tt1 := liftT X.K X.mg tu WF H0) (te := liftE X.K X.mg te WF H0) hc hN (L.hi.run W H0 tk) L.ok L.hv L.hg (fun s H C cl fp => (L.ht s H C cl fp).run WF H0 takesF) (fun s H C cl fp => (L.hu s H C cl fp).run WF H0 takesF) L.hgu (fun s H C cl fp => (L.htu s H C cl fp).run WF H0 takesF)
      (fun s H C cl fp => (L.he s H C cl fp).run WF H0 takesF) L.hs L.hs1
    cases mu with
    | true =>
      refine PE.imp base fun σ H Q ⟨x0, δ, m, P, e, h, t, q⟩ => lc2_lift x0 e h t fun p acc m' vs' H' x h' e1 e2 e3 en => ?_
      unfold lcEnd at en
      rw [if_pos rfl] at en
      exact q _ _ en _ H' x rfl h'
    | false =>
      refine PE.imp (PE.frz base) fun σ H Q ⟨x0, δ, m, P, e, h, t, q⟩ => lc2_lift x0 e h t fun p acc m' vs' H' x h' e1 e2 e3 en => ?_
      unfold lcEnd at en
      rw [if_neg Bool.false_ne_true] at en
      obtain ⟨m2, l, n, en⟩ := en
      refine ⟨p, vs', rfl, e1, fun o => ?_⟩
      obtain ⟨y1, y2, y3⟩ := del_frz (o := o) h' e1 e2 l n
      exact q _ _ en _ _ (x.trans y1) y3 y2⟩
theorem ds_setLc2 (mu : Bool) {i : Nat} {y : Str} {py : Pos} (hc : X.calm = true) (hN : X.N.Nodup) (hy : X.N[i]? = some y) (hyl : X.env.scope.names.lookup y = some .local)
    (hsw : swapsWith (.ListComp elt [⟨tg, iter, ifs, 0⟩, ⟨tg1, iter1, ifs1, 0⟩] scope pos) (some (.Name y py)) spos.line X.env = pure true) (L : Lc2Ok X elt tg iter tg1 iter1 ifs ifs1 scope own us ti ui g gu tt tu te) :
    DS X (.Assign [.Name y py] (.ListComp elt [⟨tg, iter, ifs, 0⟩, ⟨tg1, iter1, ifs1, 0⟩] scope pos) spos) (dAsg (dLc2 mu ti g tt ui gu tu te (own.map (·.2)) us) (dgName i)) :=
  ⟨fun W H0 tk hp => by
    have base := ps_setLc2 (spos := spos) (g := liftGc X.K X.mg g (own.map (·.2))) (tt := liftT X.K X.mg tt WF H0) (wi1 := liftI X.K X.mg ui WF H0) (g1 := liftGc X.K X.mg gu us) (tt1 := liftT X.K X.mg tu WF H0) (te := liftE X.K X.mg te WF H0) hc hN hy hyl hsw (L.hi.run W H0 tk) L.ok L.hv L.hg (fun s H C cl fp => (L.ht s H C cl fp).run WF H0 takesF) (fun s H C cl fp => (L.hu s H C cl fp).run WF H0 takesF) L.hgu (fun s H C cl fp => (L.htu s H C cl fp).run WF H0 takesF)
      (fun s H C cl fp => (L.he s H C cl fp).run WF H0 takesF) L.hs L.hs1
    cases mu with
    | true =>
      refine PS.imp base fun D σ H ⟨x0, δ, m, E, e, h, t, q⟩ => lc2_lift x0 e h t fun p acc m' vs' H' x h' e1 e2 e3 en => ?_
      unfold lcEnd at en
      rw [if_pos rfl] at en
      exact q.nx _ _ en _ H' x ((e.ext x).set (d := .ref p) (v := .ref p) rfl i) h'
    | false =>
      refine PS.imp (PS.frz base) fun D σ H ⟨x0, δ, m, E, e, h, t, q⟩ => lc2_lift x0 e h t fun p acc m' vs' H' x h' e1 e2 e3 en => ?_
      unfold lcEnd at en
      rw [if_neg Bool.false_ne_true] at en
      obtain ⟨m2, l, n, en⟩ := en
      refine ⟨p, vs', e1, fun o => ?_⟩
      obtain ⟨y1, y2, y3⟩ := del_frz (o := o) h' e1 e2 l n
      exact q.nx _ _ en _ _ (x.trans y1) ((e.ext (x.trans y1)).set y3 i) y2⟩
end
end L2.AP
set_option Elab.async false
set_option linter.all false
set_option maxRecDepth 100000
set_option maxHeartbeats 2000000
/-! AP9: calls of the program's own defs, raise, try, what a def promises. -/
namespace L2.AP
open PySem PySem.Spec PyProof.Rows

abbrev DXK := Value → Option Addr → AH → Prop
/-- a def's promise over deep values: arguments, heap, wanted end, wanted exception -/
abbrev DSp := List D → AH → DQ → DXK → Prop
def liftSp (K : PySem.W.Frag) (mg : Str → Option Value) (n : Nat) (sp : DSp) : Sp := fun vs H Q E => ∃ ds m P PE, ds.length = n ∧ Reps K mg H ds vs ∧ HRep K mg H m ∧ sp ds m P PE ∧ LQ K mg H P Q ∧
  ∀ cls d m', PE cls d m' → ∀ H', Ext H H' → HRep K mg H' m' → E cls d H'
/-- what is known of a def of the program; kws: how calls with keywords bind: so many places, these names, the arguments' order -/
structure FI where
  ps : List Str
  sp : DSp
  kws : List ((Nat × List Str) × List Nat) := []
/-- the arguments in the parameters' order -/
def perm {α : Type} (p : List Nat) (xs : List α) : List α := p.filterMap fun i => xs[i]?
def KwOk (fd : FuncData) (ps : List Str) (np : Nat) (ks : List Str) (p : List Nat) : Prop := ∀ (s : Shared) (us ws : List Value), us.length = np → ws.length = ks.length → BindsTo s fd ⟨us, ks.zip ws⟩ (ps.zip (perm p (us ++ ws)))
structure FIx (P : Program) (w : World) (K : PySem.W.Frag) (mg : Str → Option Value) (base : Heap) (k : Nat) (x : Str) (i : FI) (f : Addr) (fd : FuncData) : Prop where
  gl : mg x = some (.ref f)
  kp : PySem.W.keepIn K (.ref f) = true
  bs : Binds K fd i.ps []
  ok : FnOk P w K mg base (L2.CX P w) k f fd i.ps (liftSp K mg i.ps.length i.sp)
  kw : ∀ np ks pm, i.kws.lookup (np, ks) = some pm → KwOk fd i.ps np ks pm
def FIOk (P : Program) (w : World) (K : PySem.W.Frag) (mg : Str → Option Value) (base : Heap) (k : Nat) (x : Str) (i : FI) : Prop := ∃ f fd, FIx P w K mg base k x i f fd
theorem FIOk.mono {P : Program} {w : World} {K : PySem.W.Frag} {mg : Str → Option Value} {base : Heap} {j k : Nat} {x : Str} {i : FI} (h : FIOk P w K mg base j x i) (l : j ≤ k) : FIOk P w K mg base k x i :=
  let ⟨f, fd, h⟩ := h
  ⟨f, fd, h.gl, h.kp, h.bs, h.ok.mono l, h.kw⟩
def dCallF (n : Nat) (sp : DSp) (t : DTA) : DTE := fun W δ m Q => t W δ m fun ds m1 => ds.length = n ∧ sp ds m1 Q fun cls d m' => W cls d δ m'
def dCallK (n np nk : Nat) (sp : DSp) (p : List Nat) (t tk : DTA) : DTE := fun W δ m Q => t W δ m fun ds m1 => tk W δ m1 fun es m2 => ds.length = np ∧ es.length = nk ∧ (perm p (ds ++ es)).length = n ∧ sp (perm p (ds ++ es)) m2 Q fun cls d m' => W cls d δ m'
theorem Reps.perm {K : PySem.W.Frag} {mg : Str → Option Value} {H : Hp} {ds : List D} {vs : List V} (r : Reps K mg H ds vs) : ∀ p : List Nat, Reps K mg H (AP.perm p ds) (AP.perm p vs)
  | [] => rfl
  | i :: p => by
    have ih := Reps.perm r p
    unfold AP.perm at ih ⊢
    rw [List.filterMap_cons, List.filterMap_cons]
    cases e : ds[i]? with
    | none =>
      have hl := r.len
      rw [List.getElem?_eq_none (by rw [hl]; exact List.getElem?_eq_none_iff.mp e)]
      exact ih
    | some d =>
      obtain ⟨v, e1, rv⟩ := r.get e
      rw [e1]
      exact ⟨v, _, rfl, rv, ih⟩
theorem vals_perm {xs : List V} {us : List Value} (r : Vals xs us) : ∀ p : List Nat, Vals (perm p xs) (perm p us)
  | [] => .nil
  | i :: p => by
    have ih := vals_perm r p
    unfold perm at ih ⊢
    rw [List.filterMap_cons, List.filterMap_cons]
    cases e : xs[i]? with
    | none => rw [r.none_of e]; exact ih
    | some v =>
      obtain ⟨u, e1, ru⟩ := r.get e
      rw [e1]
      exact .cons ru ih
theorem perm_map_len {α β : Type} {xs : List α} {ys : List β} (h : xs.length = ys.length) : ∀ p : List Nat, (perm p xs).length = (perm p ys).length
  | [] => rfl
  | i :: p => by
    have ih := perm_map_len h p
    unfold perm at ih ⊢
    rw [List.filterMap_cons, List.filterMap_cons]
    by_cases c : i < xs.length
    · rw [List.getElem?_eq_getElem c, List.getElem?_eq_getElem (by omega)]
      simp only [List.length_cons]
      rw [ih]
    · rw [List.getElem?_eq_none (by omega), List.getElem?_eq_none (by omega)]
      exact ih
structure DK (X : Cx) (kws : List Keyword) (t : DTA) : Prop where
  run : ∀ W H0, Takes X (liftW X.K X.mg W H0) → PK X kws (liftA X.K X.mg t W H0)
theorem PK.imp {X : Cx} {e : List Keyword} {t t' : TA} (h : PK X e t) (i : ∀ σ H Q, t' σ H Q → t σ H Q) : PK X e t' := ⟨fun p pins s σ H Q I q => h.run p pins s σ H Q I (i σ H Q q)⟩
section
variable {X : Cx} {k : Nat} {x : Str} {i : FI} {f : Addr} {fd : FuncData} {p pos kpos : Pos} {e : Expr} {es : List Expr} {kws : List Keyword} {t tk : DTA} {te : DTE} {nm : Option Str}
theorem dk_nil : DK X [] dNil := ⟨fun W H0 tk => PK.imp pk_nil fun σ H Q ⟨x0, δ, m, P, e, h, t, q⟩ => q _ _ t _ H (Ext.refl H) rfl h⟩
theorem dk_cons (ha : DE X e te) (hr : DK X kws t) : DK X (⟨nm, e, kpos⟩ :: kws) (dCons te t) :=
  ⟨fun W H0 tk => PK.imp (pk_cons (ha.run W H0 tk) (hr.run W H0 tk)) fun σ H Q ⟨x0, δ, m, P, e, h, t, q⟩ => ⟨x0, δ, m, _, e, h, t, fun d1 m1 t2 v1 H1 x1 r1 h1 => ⟨x0.trans x1, δ, m1, _, e.ext x1, h1, t2, fun ds m2 t3 vs H2 x2 r2 h2 =>
    q _ _ t3 _ H2 (x1.trans x2) ⟨v1, vs, rfl, r1.ext x2, r2⟩ h2⟩⟩⟩
/-- the callee's promise from the deep one, with the caller's wish -/
theorem sp_lift {K : PySem.W.Frag} {mg : Str → Option Value} {sp : DSp} {W : DW} {H0 H : Hp} {σ : St} {δ : Dl} {m : AH} {ds : List D} {vs : List V} {n : Nat} {P : DQ} {Q : VK} (x0 : Ext H0 H) (e : ERep K mg H σ δ) (h : HRep K mg H m) (r : Reps K mg H ds vs) (hl : ds.length = n)
    (t : sp ds m P fun cls d m' => W cls d δ m') (q : LQ K mg H P Q) : liftSp K mg n sp vs H Q (WE (liftW K mg W H0) σ) :=
  ⟨ds, m, P, _, hl, r, h, t, q, fun cls d m' w H' x h' => ⟨x0.trans x, δ, m', e.ext x, h', w⟩⟩
theorem de_callF (F : FIx X.prog X.w X.K X.mg X.base k x i f fd) (hr : Room k X.A) (hg : Gl X x) (ha : DA X (e :: es) t) (hdb : (x == ("__debug__" : Str)) = false)
    (he : starEach (e :: es) X.env = (false, eval e X.env) :: starEach es X.env) (hpl : (backTo pos (starEach es X.env)).any (·.1) = false) : DE X (.Call (.Name x p) (e :: es) [] pos) (dCallF i.ps.length i.sp t) :=
  ⟨fun W H0 tk => PE.imp (pe_callS (E := WE (liftW X.K X.mg W H0)) F.ok hr hg F.gl F.kp F.bs (fun σ => passAt tk σ) (ha.run W H0 tk) hdb he hpl) fun σ H Q ⟨x0, δ, m, P, e, h, t, q⟩ =>
    ⟨x0, δ, m, _, e, h, t, fun ds m1 ⟨hl, t1⟩ vs H1 x1 r1 h1 => sp_lift (x0.trans x1) (e.ext x1) h1 r1 hl t1 (q.ext x1)⟩⟩
/-- a local that holds a def -/
def dCallL (i : Nat) (F : Str → Option FI) (t : DTA) : DTE := fun W δ m Q => ∃ y info, δ[i]? = some (some (.fn y)) ∧ F y = some info ∧ t W δ m fun ds m1 => ds.length = info.ps.length ∧ info.sp ds m1 Q fun cls d m' => W cls d δ m'
theorem de_callL {j : Nat} {F : Str → Option FI} (HF : ∀ y info, F y = some info → FIOk X.prog X.w X.K X.mg X.base k y info) (hr : Room k X.A) (hN : X.N[j]? = some x) (hv : Vis X.env.scope x) (ha : DA X (e :: es) t) (hdb : (x == ("__debug__" : Str)) = false) (hcd : (x == ("__classdict__" : Str)) = false)
    (he : starEach (e :: es) X.env = (false, eval e X.env) :: starEach es X.env) (hpl : (backTo pos (starEach es X.env)).any (·.1) = false) : DE X (.Call (.Name x p) (e :: es) [] pos) (dCallL j F t) :=
  ⟨fun W H0 tk => ⟨fun pins s σ H Q I ⟨x0, δ, m, P, er, h, ⟨y, info, hd, hF, t⟩, q⟩ => by
    obtain ⟨f, fd, Fx⟩ := HF y info hF
    obtain ⟨v, hs, a, rfl, ga⟩ := er.2 j _ hd
    have ea : Value.ref f = Value.ref a := Option.some.inj (Fx.gl.symm.trans ga)
    cases ea
    refine wpAny_Call_Name_kw (thn ((pe_var (pos := p) hN hv hdb hcd).run pins s σ H (fun v H1 => v = .ref f ∧ H1 = H) I ⟨.ref f, hs, rfl, rfl⟩) fun u s1 ⟨v, H1, I1, r1, q1⟩ => ?_)
    obtain ⟨rfl, rfl⟩ := q1
    cases r1
    refine PySem.W.callWith_K (h₀ := X.base) I.ok.mod.kin Fx.kp (thn ((ha.run W H0 tk).run pos pins s1 σ _ (fun vs H2 => liftSp X.K X.mg info.ps.length info.sp vs H2 Q (WE (liftW X.K X.mg W H0) σ)) I1
      ⟨x0, δ, m, _, er, h, t, fun ds m1 ⟨hl, t1⟩ vs H2 x1 r1 h1 => sp_lift (x0.trans x1) (er.ext x1) h1 r1 hl t1 (q.ext x1)⟩) fun us s2 ⟨vs, H2, I2, r, sp⟩ => ⟨I2.kIn, ?_⟩) he hpl
    exact run_fnS (E := WE (liftW X.K X.mg W H0)) Fx.ok hr Fx.bs (passAt tk σ) I2 r sp⟩⟩
theorem de_callF0 (F : FIx X.prog X.w X.K X.mg X.base k x i f fd) (hr : Room k X.A) (hg : Gl X x) (hdb : (x == ("__debug__" : Str)) = false) : DE X (.Call (.Name x p) [] [] pos) (dCallF i.ps.length i.sp dNil) :=
  ⟨fun W H0 tk => ⟨fun pins s σ H Q I ⟨x0, δ, m, P, e, h, ⟨hl, t⟩, q⟩ => by
    refine wpAny_Call_Name_kw (ld_glob I hg F.gl ?_ hdb)
    exact PySem.W.callWith_K0 I.kIn F.kp (run_fnS (E := WE (liftW X.K X.mg W H0)) (us := []) F.ok hr F.bs (passAt tk σ) I .nil (sp_lift x0 e h (Reps.nil) hl t q))⟩⟩
/-- the call with keywords, the callee runs -/
theorem run_kw {ks : List Str} {np : Nat} {pm : List Nat} {W : DW} {H0 : Hp} {pins : List (Addr × Obj)} {σ : St} {H : Hp} {s : Shared} {Q : VK} {us ws : List Value} {vs zs : List V} {ds es : List D} {δ : Dl} {m : AH} {P : DQ} (F : FIx X.prog X.w X.K X.mg X.base k x i f fd) (hk : KwOk fd i.ps np ks pm) (hr : Room k X.A)
    (tk : Takes X (liftW X.K X.mg W H0)) (I : Inv X pins σ H s) (r1 : Vals vs us) (r2 : Vals zs ws) (q1 : Reps X.K X.mg H ds vs) (q2 : Reps X.K X.mg H es zs) (l1 : ds.length = np) (l2 : es.length = ks.length) (l3 : (perm pm (ds ++ es)).length = i.ps.length) (x0 : Ext H0 H) (e : ERep X.K X.mg H σ δ) (h : HRep X.K X.mg H m)
    (t : i.sp (perm pm (ds ++ es)) m P fun cls d m' => W cls d δ m') (q : LQ X.K X.mg H P Q) : wpAny (model X.prog X.w) X.A (call (.ref f) us (ks.zip ws)) (EP X pins σ Q) X.xe s := by
  have r := vals_perm (r1.append r2) pm
  have hl : vs.length = np := by rw [q1.len]; exact l1
  have hl2 : zs.length = ks.length := by rw [q2.len]; exact l2
  have b := hk s us ws (by rw [← r1.length]; exact hl) (by rw [← r2.length]; exact hl2)
  refine wpAny_call (codeAny_mono (F.ok.run X.A X.stack s H _ _ _ Q (WE (liftW X.K X.mg W H0) σ) hr I.env0 b r (sp_lift x0 e h ((q1.app q2).perm pm) l3 t q)) fun z s' hz => ?_)
  cases z with
  | error u => exact passAt tk σ pins H s u s' I hz
  | ok fl =>
    cases fl with
    | ret u => exact I.after hz
    | _ => exact False.elim hz
theorem de_callK {ks : List Str} {np : Nat} {pm : List Nat} (F : FIx X.prog X.w X.K X.mg X.base k x i f fd) (hk : KwOk fd i.ps np ks pm) (hr : Room k X.A) (hg : Gl X x) (ha : DA X (e :: es) t) (hkw : DK X kws tk)
    (hall : (backToKw pos (keywordEach kws X.env)).all (·.1.isSome) = true) (hks : (backToKw pos (keywordEach kws X.env)).filterMap (·.1) = ks) (hdb : (x == ("__debug__" : Str)) = false) (he : starEach (e :: es) X.env = (false, eval e X.env) :: starEach es X.env)
    (hpl : ((backTo pos (starEach (e :: es) X.env)).any (·.1) || (backToKw pos (keywordEach kws X.env)).any (·.1.isNone)) = false) : DE X (.Call (.Name x p) (e :: es) kws pos) (dCallK i.ps.length np ks.length i.sp pm t tk) :=
  ⟨fun W H0 tk' => ⟨fun pins s σ H Q I ⟨x0, δ, m, P, e, h, t, q⟩ => by
    refine wpAny_Call_Name_kw (ld_glob I hg F.gl ?_ hdb)
    have a1 := (ha.run W H0 tk').run pos pins s σ H (fun vs H1 => Ext H H1 ∧ ∃ ds m1, Reps X.K X.mg H1 ds vs ∧ HRep X.K X.mg H1 m1 ∧ tk W δ m1 fun es m2 => ds.length = np ∧ es.length = ks.length ∧ (perm pm (ds ++ es)).length = i.ps.length ∧ i.sp (perm pm (ds ++ es)) m2 P fun cls d m' => W cls d δ m')
      I ⟨x0, δ, m, _, e, h, t, fun ds m1 t1 vs H1 x1 q1 h1 => ⟨x1, ds, m1, q1, h1, t1⟩⟩
    refine PySem.W.callWith_KW (h₀ := X.base) I.ok.mod.kin F.kp hall (thn a1 fun us s1 ⟨vs, H1, I1, r, x1, ds, m1, q1, h1, t1⟩ => ?_) hpl he
    have a2 := (hkw.run W H0 tk').run pos pins s1 σ H1 (fun zs H2 => Ext H1 H2 ∧ ∃ es m2, Reps X.K X.mg H2 es zs ∧ HRep X.K X.mg H2 m2 ∧ ds.length = np ∧ es.length = ks.length ∧ (perm pm (ds ++ es)).length = i.ps.length ∧ i.sp (perm pm (ds ++ es)) m2 P fun cls d m' => W cls d δ m')
      I1 ⟨x0.trans x1, δ, m1, _, e.ext x1, h1, t1, fun es m2 t2 zs H2 x2 q2 h2 => ⟨x2, es, m2, q2, h2, t2⟩⟩
    refine thn a2 fun ws s2 ⟨zs, H2, I2, rz, x2, es, m2, q2, h2, l1, l2, l3, t2⟩ => ⟨I2.kIn, ?_⟩
    rw [hks]
    exact run_kw F hk hr tk' I2 r rz (q1.ext x2) q2 l1 l2 l3 (x0.trans (x1.trans x2)) (e.ext (x1.trans x2)) h2 t2 (q.ext (x1.trans x2))⟩⟩
theorem de_callK0 {ks : List Str} {pm : List Nat} (F : FIx X.prog X.w X.K X.mg X.base k x i f fd) (hk : KwOk fd i.ps 0 ks pm) (hr : Room k X.A) (hg : Gl X x) (hkw : DK X kws tk)
    (hall : (backToKw pos (keywordEach kws X.env)).all (·.1.isSome) = true) (hks : (backToKw pos (keywordEach kws X.env)).filterMap (·.1) = ks) (hdb : (x == ("__debug__" : Str)) = false)
    (hpl : ((backTo pos (starEach [] X.env)).any (·.1) || (backToKw pos (keywordEach kws X.env)).any (·.1.isNone)) = false) : DE X (.Call (.Name x p) [] kws pos) (dCallK i.ps.length 0 ks.length i.sp pm dNil tk) :=
  ⟨fun W H0 tk' => ⟨fun pins s σ H Q I ⟨x0, δ, m, P, e, h, t, q⟩ => by
    refine wpAny_Call_Name_kw (ld_glob I hg F.gl ?_ hdb)
    have a2 := (hkw.run W H0 tk').run pos pins s σ H (fun zs H2 => Ext H H2 ∧ ∃ es m2, Reps X.K X.mg H2 es zs ∧ HRep X.K X.mg H2 m2 ∧ ([] : List D).length = 0 ∧ es.length = ks.length ∧ (perm pm ([] ++ es)).length = i.ps.length ∧ i.sp (perm pm ([] ++ es)) m2 P fun cls d m' => W cls d δ m')
      I ⟨x0, δ, m, _, e, h, t, fun es m2 t2 zs H2 x2 q2 h2 => ⟨x2, es, m2, q2, h2, t2⟩⟩
    refine PySem.W.callWith_KW0 (h₀ := X.base) I.ok.mod.kin F.kp hall (thn a2 fun ws s2 ⟨zs, H2, I2, rz, x2, es, m2, q2, h2, l1, l2, l3, t2⟩ => ⟨I2.kIn, ?_⟩) hpl
    rw [hks]
    exact run_kw (ds := []) (vs := []) F hk hr tk' I2 .nil rz Reps.nil q2 l1 l2 l3 (x0.trans x2) (e.ext x2) h2 t2 (q.ext x2)⟩⟩
end

/-! ### raise -/
/-- raise X('..'), X at C, without an __init__ of its own -/
def dRaise (C : Addr) : DTS := fun W _ δ m => W (.ref C) none δ m
theorem ds_raise {X : Cx} {C : Addr} {bmB : List Value} {B newId initId : String} {x z : Str} {j : Nat} {p p2 p3 pos : Pos} (hc : X.calm = true) (F : ExcBaseFacts B newId initId bmB) (q : PySem.W.excIn X.K C bmB newId = true) (gC : X.mg x = some (.ref C)) (kC : PySem.W.keepIn X.K (.ref C) = true)
    (r : Raises X (.ref C)) (hg : Gl X x) (hdb : (x == ("__debug__" : Str)) = false) : DS X (.Raise (some (.Call (.Name x p) [.Constant (.str z) j p2] [] p3)) none pos) (dRaise C) :=
  ⟨fun W H0 tk hp => PS.imp (ps_raise hc tk (pmk_own F q gC kC r hg hdb)) fun D σ H ⟨x0, δ, m, E, e, h, t, q⟩ => ⟨x0, δ, m, e, h, t⟩⟩

/-! ### try -/
/-- what the clauses wish of an exception of the body -/
def dWish (K : PySem.W.Frag) (W : DW) (E : DEnds) : List (Value × DTS) → DW
  | [] => W
  | (c, ts) :: r => fun cls d δ m => ∃ b, PySem.W.exmOne K cls c = some b ∧ (b = true → ts WF E δ m) ∧ (b = false → dWish K W E r cls d δ m)
def dTry (K : PySem.W.Frag) (tb : DTS) (hs : List (Value × DTS)) : DTS := fun W E δ m => tb (dWish K W E hs) E δ m
/-- the suites' own contexts -/
inductive DHs (X : Cx) : List ExceptHandler → List (Value × DTS) → Prop
  | nil : DHs X [] []
  | cons {x : Str} {c : Value} {ts : DTS} {b₀ : Stmt} {suite : List Stmt} {np pos' : Pos} {hds : List ExceptHandler} {l : List (Value × DTS)} (hc : Names X x c)
      (hsu : ∀ (a : Addr) (oe : Obj) (pn : List (Addr × Obj)), DSs (X.suite a ((a, oe) :: pn)) (b₀ :: suite) ts) (r : DHs X hds l) : DHs X (.ExceptHandler (some (.Name x np)) none (b₀ :: suite) pos' :: hds) ((c, ts) :: l)
/-- a suite's reading by the shallow layer -/
def suiteT (K : PySem.W.Frag) (mg : Str → Option Value) (H0 : Hp) (ts : DTS) : Addr → Value → Option Addr → TS := fun _ _ _ D σ H => liftS K mg ts WF H0 D σ H
theorem DHs.ok {X : Cx} {hds : List ExceptHandler} {l : List (Value × DTS)} (h : DHs X hds l) (H0 : Hp) : HdsOk X hds (l.map fun p => (p.1, suiteT X.K X.mg H0 p.2)) := by
  induction h with
  | nil => exact .nil
  | cons hc hsu r ih => exact .cons hc (fun a oe cls d pn _ _ => (hsu a oe pn).run WF H0 takesF PassesOwn.never) ih
theorem ds_try {X : Cx} {body : List Stmt} {tb : DTS} {h₀ : ExceptHandler} {hds : List ExceptHandler} {l : List (Value × DTS)} {pos : Pos} (hs : X.stack = X.env :: X.outer) (hf : X.env.frame = some X.env.locals)
    (hb : ∀ (pn : List (Addr × Obj)) (xe : Value → Shared → Prop), DSs (X.tr pn xe) body tb) (hh : DHs X (h₀ :: hds) l) : DS X (.Try body (h₀ :: hds) [] [] pos) (dTry X.K tb l) :=
  ⟨fun W H0 tk hp => ⟨fun pins s σ H D I q => by
    obtain ⟨x0, δ, m, E, e, h, t, q⟩ := q
    have base := ps_try_many (pos := pos) (tb := fun w D σ H' => ∃ W', (∀ cls d σ H2, liftW X.K X.mg W' H cls d σ H2 → w cls d σ H2) ∧ liftS X.K X.mg tb W' H D σ H') hs hf tk
      (fun w pn xe tk' hp' => ⟨fun pins s σ H D I ⟨W', i, t⟩ => ((hb pn xe).run W' _ (Takes.imp tk' i) hp').run pins s σ H D I t⟩) (hh.ok H)
    refine base.run pins s σ H D I ⟨dWish X.K W E l, ?_, Ext.refl H, δ, m, E, e, h, t, q⟩
    have go : ∀ l : List (Value × DTS), ∀ cls d σ H2, liftW X.K X.mg (dWish X.K W E l) H cls d σ H2 → wMany X.K (liftW X.K X.mg W H0) D (l.map fun p => (p.1, suiteT X.K X.mg H p.2)) cls d σ H2 := by
      intro l
      induction l with
      | nil => intro cls d σ H2 ⟨x, δ', m', e', h', w⟩; exact ⟨x0.trans x, δ', m', e', h', w⟩
      | cons c l ih =>
        intro cls d σ H2 ⟨x, δ', m', e', h', b, b1, b2, b3⟩
        exact ⟨b, b1, fun z a _ => ⟨x, δ', m', E, e', h', b2 z, q.ext x⟩, fun z => ih cls d σ H2 ⟨x, δ', m', e', h', b3 z⟩⟩
    exact go l⟩⟩

/-! ### a def by its body -/
/-- what a def's body is to reach -/
def bodyEnds (Q : DQ) : DEnds := { nx := fun _ m => ∃ m', Le m' m ∧ Q .non m', rt := fun d m => ∃ m', Le m' m ∧ Q d m' }
def startD (N : List Str) (ds : List D) : Dl := ds.map some ++ List.replicate (N.length - ds.length) none
theorem LQ.forget {K : PySem.W.Frag} {mg : Str → Option Value} {H : Hp} {P : DQ} {Q : VK} (q : LQ K mg H P Q) : LQ K mg H (fun d m => ∃ m', Le m' m ∧ P d m') Q := fun d m ⟨m', l, p⟩ v H' x r h => q d m' p v H' x r (h.le l)
end L2.AP
set_option Elab.async false
set_option linter.all false
set_option maxRecDepth 100000
set_option maxHeartbeats 2000000
/-! AP9i: instances of the program's own classes: fields, methods, C(..). -/
namespace L2.AP
open PySem PySem.Spec PyProof.Rows
/-- the fields with one put in -/
def stoF (f : Str) (d : D) : List (Str × D) → List (Str × D)
  | [] => [(f, d)]
  | (g, x) :: r => if g = f then (g, d) :: r else (g, x) :: stoF f d r
section
variable {K : PySem.W.Frag} {mg : Str → Option Value} {H : Hp}
theorem Fields.look {f : Str} : ∀ {fs : List (Str × D)} {gs : List (Str × V)}, Fields K mg H fs gs → ∀ {d : D}, fs.lookup f = some d → ∃ v, gs.lookup f = some v ∧ Rep K mg H d v
  | _, _, .nil, _, e => by cases e
  | (a, x) :: _, (b, y) :: _, .cons ⟨r1, r2⟩ t, d, e => by
    have r1 : a = b := r1
    subst r1
    rw [List.lookup_cons] at e ⊢
    by_cases c : (f == a) = true
    · rw [c] at e ⊢
      cases e
      exact ⟨y, rfl, r2⟩
    · have c : (f == a) = false := by simpa using c
      rw [c] at e ⊢
      exact Fields.look t e
theorem Fields.gone {f : Str} : ∀ {fs : List (Str × D)} {gs : List (Str × V)}, Fields K mg H fs gs → fs.lookup f = none → gs.lookup f = none
  | _, _, .nil, _ => rfl
  | (a, x) :: _, (b, y) :: _, .cons ⟨r1, r2⟩ t, e => by
    have r1 : a = b := r1
    subst r1
    rw [List.lookup_cons] at e ⊢
    by_cases c : (f == a) = true
    · rw [c] at e
      cases e
    · have c : (f == a) = false := by simpa using c
      rw [c] at e ⊢
      exact Fields.gone t e
theorem Fields.len : ∀ {fs : List (Str × D)} {gs : List (Str × V)}, Fields K mg H fs gs → gs.length = fs.length
  | _, _, .nil => rfl
  | _, _, .cons _ t => by rw [List.length_cons, List.length_cons, Fields.len t]
theorem Fields.put {f : Str} {d : D} {v : V} (r : Rep K mg H d v) : ∀ {fs : List (Str × D)} {gs : List (Str × V)}, Fields K mg H fs gs → Fields K mg H (stoF f d fs) (putF f v gs)
  | _, _, .nil => .cons ⟨rfl, r⟩ .nil
  | (a, x) :: fs, (b, y) :: gs, .cons ⟨r1, r2⟩ t => by
    have r1 : a = b := r1
    subst r1
    unfold stoF putF
    by_cases c : a = f
    · rw [if_pos c, if_pos c]
      exact .cons ⟨rfl, r⟩ t
    · rw [if_neg c, if_neg c]
      exact .cons ⟨rfl, r2⟩ (Fields.put r t)
/-- an instance is changed -/
theorem HRep.putI {m : AH} {a C dx : Addr} {gs hs : List (Str × V)} {fs : List (Str × D)} (h : HRep K mg H m) (e : H a = Option.some (.ins C dx gs)) (r : Fields K mg H fs hs) :
    Ext H (upd H a (.ins C dx hs)) ∧ HRep K mg (upd H a (.ins C dx hs)) (AP.put m a (.ins C fs)) := by
  have x : Ext H (upd H a (.ins C dx hs)) := Ext.put e (fun _ z => nomatch z) (fun _ _ z => nomatch z)
  exact ⟨x, h.put e (fun _ z => nomatch z) (fun _ _ z => nomatch z) ⟨dx, hs, upd_same, r.ext x⟩⟩
end
/-- what is known of a def without a name of the module's (a method) -/
structure FMx (P : Program) (w : World) (K : PySem.W.Frag) (mg : Str → Option Value) (base : Heap) (k : Nat) (i : FI) (f : Addr) (fd : FuncData) : Prop where
  kp : PySem.W.keepIn K (.ref f) = true
  bs : Binds K fd i.ps []
  ok : FnOk P w K mg base (L2.CX P w) k f fd i.ps (liftSp K mg i.ps.length i.sp)
theorem FMx.mono {P : Program} {w : World} {K : PySem.W.Frag} {mg : Str → Option Value} {base : Heap} {j k : Nat} {i : FI} {f : Addr} {fd : FuncData} (h : FMx P w K mg base j i f fd) (l : j ≤ k) : FMx P w K mg base k i f fd := ⟨h.kp, h.bs, h.ok.mono l⟩
/-- what is known of a class of the program: its address, its instances' fields (no class above has their names), its methods, its __init__ -/
structure CI where
  C : Addr
  flds : List Str
  meths : List (Str × FI)
  init : Option FI
structure CIOk (P : Program) (w : World) (K : PySem.W.Frag) (mg : Str → Option Value) (base : Heap) (k : Nat) (x : Str) (c : CI) : Prop where
  cls : Cls K c.C
  na : ∀ f ∈ c.flds, NoAttr K c.C f
  gl : mg x = some (.ref c.C)
  ms : ∀ m i, (m, i) ∈ c.meths → ∃ f fd, Meth K c.C m f ∧ FMx P w K mg base k i f fd
  ini : ∀ i, c.init = some i → ∃ f fd j, j + 1 ≤ k ∧ Mk K c.C f ∧ FMx P w K mg base j i f fd
section
variable {X : Cx} {e o : Expr} {es : List Expr} {f m x : Str} {pos pos' apos p : Pos} {t to te : DTE} {ta : DTA} {k : Nat}
/-! ### a field is read, stored -/
def dFld (cs : List Addr) (f : Str) (t : DTE) : DTE := fun W δ m Q => t W δ m fun d m1 => ∃ a C fs v, d = .ref a ∧ m1 a = some (.ins C fs) ∧ C ∈ cs ∧ fs.lookup f = some v ∧ Q v m1
theorem de_fld {cs : List Addr} (hc : ∀ C ∈ cs, Cls X.K C ∧ NoAttr X.K C f) (ho : DE X e t) (hb : attributeBase e f X.env (eval e X.env) = eval e X.env) : DE X (.Attribute e f pos) (dFld cs f t) :=
  ⟨fun W H0 tk => PE.imp (pe_fld (ho.run W H0 tk) hb) fun σ H Q ⟨x0, δ, m, P, e, h, t, q⟩ => ⟨x0, δ, m, _, e, h, t, fun d m1 ⟨a, C, fs, v, e1, e2, e3, e4, p⟩ u H1 x1 r1 h1 => by
    subst e1
    cases r1
    obtain ⟨dx, gs, g1, g2⟩ := h1 a _ e2
    obtain ⟨v', l1, l2⟩ := Fields.look g2 e4
    exact ⟨a, C, dx, gs, v', rfl, g1, (hc C e3).1, (hc C e3).2, l1, q _ _ p v' H1 x1 l2 h1⟩⟩⟩
def dSetFld (cs : List Addr) (f : Str) (te to : DTE) : DTS := fun W E δ m => te W δ m fun y m1 => to W δ m1 fun d m2 => ∃ a C fs, d = .ref a ∧ m2 a = some (.ins C fs) ∧ C ∈ cs ∧ fs.length < 1000 ∧ E.nx δ (put m2 a (.ins C (stoF f y fs)))
theorem ds_fld {cs : List Addr} (hc : ∀ C ∈ cs, Cls X.K C ∧ NoAttr X.K C f) (ho : DE X o to) (he : DE X e te) (hs : swapsWith e (some (.Attribute o f pos')) pos.line X.env = pure false) : DS X (.Assign [.Attribute o f pos'] e pos) (dSetFld cs f te to) :=
  ⟨fun W H0 tk hp => PS.imp (ps_fld (ho.run W H0 tk) (he.run W H0 tk) hs) fun D σ H ⟨x0, δ, m, E, e, h, t, q⟩ => ⟨x0, δ, m, _, e, h, t, fun y m1 t1 u H1 x1 r1 h1 => ⟨x0.trans x1, δ, m1, _, e.ext x1, h1, t1, fun d m2 ⟨a, C, fs, e1, e2, e3, e4, p⟩ w H2 x2 r2 h2 => by
    subst e1
    cases r2
    obtain ⟨dx, gs, g1, g2⟩ := h2 a _ e2
    obtain ⟨x3, h3⟩ := HRep.putI h2 g1 (g2.put (f := f) (r1.ext x2))
    exact ⟨a, C, dx, gs, rfl, g1, (hc C e3).1, (hc C e3).2, by rw [g2.len]; exact e4, q.nx _ _ p _ _ ((x1.trans x2).trans x3) (e.ext ((x1.trans x2).trans x3)) h3⟩⟩⟩⟩
/-- o.f += e, of ints -/
def dAugFld (cs : List Addr) (f : Str) (to te : DTE) (g : Int → Int → Int) : DTS := fun W E δ m => to W δ m fun d m1 => ∃ a C fs i, d = .ref a ∧ m1 a = some (.ins C fs) ∧ C ∈ cs ∧ fs.lookup f = some (.int i) ∧
  te W δ m1 fun y m2 => ∃ j fs', y = .int j ∧ m2 a = some (.ins C fs') ∧ fs'.length < 1000 ∧ E.nx δ (put m2 a (.ins C (stoF f (.int (g i j)) fs')))
theorem ds_augFld {cs : List Addr} {g : Int → Int → Int} {rd : V → V → Hp → VK → Prop} {op : Operator} (hop : InOp X op rd) (hrd : ∀ i j H Q, Q (.int (g i j)) H → rd (.int i) (.int j) H Q) (hc : ∀ C ∈ cs, Cls X.K C ∧ NoAttr X.K C f) (ho : DE X o to) (he : DE X e te) :
    DS X (.AugAssign (.Attribute o f pos') op e pos) (dAugFld cs f to te g) :=
  ⟨fun W H0 tk hp => PS.imp (ps_fldaug (ho.run W H0 tk) (he.run W H0 tk) hop) fun D σ H ⟨x0, δ, m, E, e, h, t, q⟩ => ⟨x0, δ, m, _, e, h, t, fun d m1 ⟨a, C, fs, i, e1, e2, e3, e4, t1⟩ u H1 x1 r1 h1 => by
    subst e1
    cases r1
    obtain ⟨dx, gs, g1, g2⟩ := h1 a _ e2
    obtain ⟨v', l1, l2⟩ := Fields.look g2 e4
    cases l2
    refine ⟨a, C, dx, gs, _, rfl, g1, (hc C e3).1, (hc C e3).2, l1, x0.trans x1, δ, m1, _, e.ext x1, h1, t1, fun y m2 ⟨j, fs', ey, e5, e6, p⟩ w H2 x2 r2 h2 => ?_⟩
    subst ey
    cases r2
    obtain ⟨dx', gs', g3, g4⟩ := h2 a _ e5
    obtain ⟨x3, h3⟩ := HRep.putI h2 g3 (g4.put (f := f) (d := .int (g i j)) (v := .int (g i j)) rfl)
    exact hrd _ _ _ _ ⟨dx', gs', g3, by rw [g4.len]; exact e6, q.nx _ _ p _ _ ((x1.trans x2).trans x3) (e.ext ((x1.trans x2).trans x3)) h3⟩⟩⟩
/-! ### methods -/
def dMeth (ms : List (Addr × FI)) (m : Str) (to : DTE) (t : DTA) : DTE := fun W δ mm Q => to W δ mm fun d m1 => ∃ a C fs i, d = .ref a ∧ m1 a = some (.ins C fs) ∧ (C, i) ∈ ms ∧ fs.lookup m = none ∧
  t W δ m1 fun ds m2 => ds.length + 1 = i.ps.length ∧ i.sp (.ref a :: ds) m2 Q fun cls d m' => W cls d δ m'
/-- the method runs -/
theorem run_meth {W : DW} {H0 : Hp} {pins : List (Addr × Obj)} {σ : St} {H : Hp} {s : Shared} {Q : VK} {us : List Value} {vs : List V} {ds : List D} {i : FI} {g : Addr} {fd : FuncData} {δ : Dl} {m : AH} {P : DQ} (F : FMx X.prog X.w X.K X.mg X.base k i g fd) (hr : Room k X.A) (tk : Takes X (liftW X.K X.mg W H0))
    (I : Inv X pins σ H s) (r : Vals vs us) (rd : Reps X.K X.mg H ds vs) (hl : ds.length = i.ps.length) (x0 : Ext H0 H) (e : ERep X.K X.mg H σ δ) (h : HRep X.K X.mg H m) (t : i.sp ds m P fun cls d m' => W cls d δ m') (q : LQ X.K X.mg H P Q) :
    wpAny (model X.prog X.w) X.A (call (.ref g) us) (EP X pins σ Q) X.xe s :=
  run_fnS (E := WE (liftW X.K X.mg W H0)) F.ok hr F.bs (passAt tk σ) I r (sp_lift x0 e h rd hl t q)
theorem de_meth {pl : Sem Bool} {ms : List (Addr × FI)} (hm : ∀ C i, (C, i) ∈ ms → Cls X.K C ∧ ∃ g fd, Meth X.K C m g ∧ FMx X.prog X.w X.K X.mg X.base k i g fd) (hr : Room k X.A) (ho : DE X o to) (ha : DA X (e :: es) ta)
    (hst : starEach (e :: es) X.env = (false, eval e X.env) :: starEach es X.env) (hpl : (backTo pos (starEach es X.env)).any (·.1) = false)
    (ht : eval (.Call (.Attribute o m apos) (e :: es) [] pos) X.env = (do
      let ov ← eval o X.env
      standAt apos.atName
      let (f, first) ← holding [ov] (getMethod ov m pl)
      callWith pos f first (backTo pos (starEach (e :: es) X.env)) (backToKw pos (keywordEach [] X.env)))) : DE X (.Call (.Attribute o m apos) (e :: es) [] pos) (dMeth ms m to ta) :=
  ⟨fun W H0 tk => ⟨fun pins s σ H Q I ⟨x0, δ, mm, P, er, h, t, q⟩ => by
    refine PySem.W.methodCall_KW (pl := pl) (thn ((ho.run W H0 tk).run pins s σ H (fun v H1 => Ext H H1 ∧ ∃ d m1, Rep X.K X.mg H1 d v ∧ HRep X.K X.mg H1 m1 ∧ ∃ a C fs i, d = .ref a ∧ m1 a = some (.ins C fs) ∧ (C, i) ∈ ms ∧ fs.lookup m = none ∧
      ta W δ m1 fun ds m2 => ds.length + 1 = i.ps.length ∧ i.sp (.ref a :: ds) m2 P fun cls d m' => W cls d δ m') I ⟨x0, δ, mm, _, er, h, t, fun d m1 t1 v H1 x1 r1 h1 => ⟨x1, d, m1, r1, h1, t1⟩⟩) fun u s1 ⟨v, H1, I1, rv, x1, d, m1, r1, h1, a, C, fs, i, e1, e2, e3, e4, t1⟩ => ?_) ht
    subst e1
    cases r1
    cases rv
    obtain ⟨dx, gs, g1, g2⟩ := h1 a _ e2
    obtain ⟨c, g, fd, hM, F⟩ := hm C i e3
    refine getmeth_ok I1 g1 c hM (Fields.gone g2 e4) ?_
    refine PySem.W.callWith_K (first := [.ref a]) (h₀ := X.base) I.ok.mod.kin F.kp (thn ((ha.run W H0 tk).run pos pins s1 σ H1 (fun vs H2 => Ext H1 H2 ∧ ∃ ds m2, Reps X.K X.mg H2 ds vs ∧ HRep X.K X.mg H2 m2 ∧ ds.length + 1 = i.ps.length ∧ i.sp (.ref a :: ds) m2 P fun cls d m' => W cls d δ m')
      I1 ⟨x0.trans x1, δ, m1, _, er.ext x1, h1, t1, fun ds m2 t2 vs H2 x2 q2 h2 => ⟨x2, ds, m2, q2, h2, t2⟩⟩) fun us s2 ⟨vs, H2, I2, r, x2, ds, m2, q2, h2, l2, t2⟩ => ⟨I2.kIn, ?_⟩) hst hpl
    exact run_meth (us := .ref a :: us) (vs := .ref a :: vs) (ds := .ref a :: ds) F hr tk I2 (.cons rfl r) ⟨_, _, rfl, rfl, q2⟩ (by rw [List.length_cons]; exact l2) (x0.trans (x1.trans x2)) (er.ext (x1.trans x2)) h2 t2 (q.ext (x1.trans x2))⟩⟩
theorem de_meth0 {pl : Sem Bool} {ms : List (Addr × FI)} (hm : ∀ C i, (C, i) ∈ ms → Cls X.K C ∧ ∃ g fd, Meth X.K C m g ∧ FMx X.prog X.w X.K X.mg X.base k i g fd) (hr : Room k X.A) (ho : DE X o to)
    (ht : eval (.Call (.Attribute o m apos) [] [] pos) X.env = (do
      let ov ← eval o X.env
      standAt apos.atName
      let (f, first) ← holding [ov] (getMethod ov m pl)
      callWith pos f first (backTo pos (starEach [] X.env)) (backToKw pos (keywordEach [] X.env)))) : DE X (.Call (.Attribute o m apos) [] [] pos) (dMeth ms m to dNil) :=
  ⟨fun W H0 tk => ⟨fun pins s σ H Q I ⟨x0, δ, mm, P, er, h, t, q⟩ => by
    refine PySem.W.methodCall_KW (pl := pl) (thn ((ho.run W H0 tk).run pins s σ H (fun v H1 => Ext H H1 ∧ ∃ d m1, Rep X.K X.mg H1 d v ∧ HRep X.K X.mg H1 m1 ∧ ∃ a C fs i, d = .ref a ∧ m1 a = some (.ins C fs) ∧ (C, i) ∈ ms ∧ fs.lookup m = none ∧
      dNil W δ m1 fun ds m2 => ds.length + 1 = i.ps.length ∧ i.sp (.ref a :: ds) m2 P fun cls d m' => W cls d δ m') I ⟨x0, δ, mm, _, er, h, t, fun d m1 t1 v H1 x1 r1 h1 => ⟨x1, d, m1, r1, h1, t1⟩⟩) fun u s1 ⟨v, H1, I1, rv, x1, d, m1, r1, h1, a, C, fs, i, e1, e2, e3, e4, t1⟩ => ?_) ht
    subst e1
    cases r1
    cases rv
    obtain ⟨dx, gs, g1, g2⟩ := h1 a _ e2
    obtain ⟨c, g, fd, hM, F⟩ := hm C i e3
    obtain ⟨l2, t2⟩ := t1
    refine getmeth_ok I1 g1 c hM (Fields.gone g2 e4) ?_
    exact PySem.W.callWith_K0 (first := [.ref a]) I1.kIn F.kp (run_meth (us := [.ref a]) (vs := [.ref a]) (ds := [.ref a]) F hr tk I1 (.cons rfl .nil) ⟨_, _, rfl, rfl, rfl⟩ l2 (x0.trans x1) (er.ext x1) h1 t2 (q.ext x1))⟩⟩
/-! ### C(..) -/
def dMake (C : Addr) (i : FI) (t : DTA) : DTE := fun W δ m Q => t W δ m fun ds m1 => ds.length + 1 = i.ps.length ∧ ∀ p, m1 p = none → i.sp (.ref p :: ds) (put m1 p (.ins C [])) (fun v m2 => v = .non ∧ Q (.ref p) m2) fun cls d m' => W cls d δ m'
theorem ext_two {K : PySem.W.Frag} {mg : Str → Option Value} {H : Hp} {m : AH} {x dx C : Addr} (h : HRep K mg H m) (nx : H x = none) (nd : H dx = none) (ne : dx ≠ x) : Ext H (upd (upd H dx (.own x)) x (.ins C dx [])) ∧ HRep K mg (upd (upd H dx (.own x)) x (.ins C dx [])) (put m x (.ins C [])) := by
  have n2 : (upd H dx (.own x)) x = none := by rw [upd_ne (Ne.symm ne)]; exact nx
  exact ⟨(Ext.new nd).trans (Ext.new n2), (h.new nd).lay n2 ⟨dx, [], upd_same, .nil⟩⟩
/-- the new instance and its __init__ -/
theorem run_makeS {W : DW} {H0 : Hp} {pins : List (Addr × Obj)} {σ : St} {H : Hp} {s : Shared} {Q : VK} {us : List Value} {vs : List V} {ds : List D} {i : FI} {C g : Addr} {fd : FuncData} {δ : Dl} {m : AH} {P : DQ} (M : Mk X.K C g) (F : FMx X.prog X.w X.K X.mg X.base k i g fd) (hr : Room (k + 1) X.A) (tk : Takes X (liftW X.K X.mg W H0))
    (I : Inv X pins σ H s) (r : Vals vs us) (rd : Reps X.K X.mg H ds vs) (hl : ds.length + 1 = i.ps.length) (x0 : Ext H0 H) (e : ERep X.K X.mg H σ δ) (h : HRep X.K X.mg H m)
    (t : ∀ p, m p = none → i.sp (.ref p :: ds) (put m p (.ins C [])) (fun v m2 => v = .non ∧ P (.ref p) m2) fun cls d m' => W cls d δ m') (q : LQ X.K X.mg H P Q) :
    wpAny (model X.prog X.w) X.A (call (.ref C) us) (EP X pins σ Q) X.xe s := by
  have nx := I.hok.fresh (a := s.heap.objs.size + 1) (Nat.le_succ _)
  have nd := I.hok.fresh (a := s.heap.objs.size) (Nat.le_refl _)
  have ne : s.heap.objs.size ≠ s.heap.objs.size + 1 := Nat.ne_of_lt (Nat.lt_succ_self _)
  obtain ⟨x1, h1⟩ := ext_two (C := C) h nx nd ne
  have hq : liftSp X.K X.mg i.ps.length i.sp (.ref (s.heap.objs.size + 1) :: vs) (upd (upd H s.heap.objs.size (.own (s.heap.objs.size + 1))) (s.heap.objs.size + 1) (.ins C s.heap.objs.size [])) (fun v H2 => v = .non ∧ Q (.ref (s.heap.objs.size + 1)) H2) (WE (liftW X.K X.mg W H0) σ) :=
    sp_lift (ds := .ref (s.heap.objs.size + 1) :: ds) (x0.trans x1) (e.ext x1) h1 ⟨_, _, rfl, rfl, rd.ext x1⟩ (by rw [List.length_cons]; exact hl) (t _ (h.none nx)) fun d m' ⟨e1, p⟩ v H' x r' h' => by
      subst e1
      exact ⟨r', q _ _ p _ H' (x1.trans x) rfl h'⟩
  have I2 := Inv.made (C := C) I
  have r2 : Vals (V.ref (s.heap.objs.size + 1) :: vs) (Value.ref (s.heap.objs.size + 1) :: us) := .cons rfl r
  have hl2 : (Value.ref (s.heap.objs.size + 1) :: us).length = i.ps.length := by
    rw [← r2.length]
    exact F.ok.len _ _ _ _ hq
  have b := F.bs ⟨_, s.gens, s.drawn, s.toks, s.os⟩ (Value.ref (s.heap.objs.size + 1) :: us) I2.kIn (by rw [List.append_nil]; exact hl2)
  rw [List.append_nil] at b
  refine wpAny_call (make_map (f := g) I.kIn M.makes M.init (beq_iff_eq.mp M.fn) (codeAny_mono (F.ok.run _ X.stack _ _ ⟨Value.ref (s.heap.objs.size + 1) :: us, []⟩ (Value.ref (s.heap.objs.size + 1) :: us) _ _ _ (hr.make C us [])
    (I2.env0.make C us []) b r2 hq) fun r s' hq' => ?_))
  cases r with
  | error e => exact passAt tk σ pins _ _ e s' I2 hq'
  | ok fl =>
    cases fl with
    | ret u =>
      obtain ⟨v, H', I3, rv, ev, q3⟩ := I2.after hq'
      subst ev
      exact ⟨rv, ⟨V.ref (s.heap.objs.size + 1), H', I3, rfl, q3⟩⟩
    | next => exact False.elim hq'
    | brk => exact False.elim hq'
    | cont => exact False.elim hq'
theorem de_make {i : FI} {C g : Addr} {fd : FuncData} (M : Mk X.K C g) (F : FMx X.prog X.w X.K X.mg X.base k i g fd) (hr : Room (k + 1) X.A) (hg : Gl X x) (hm : X.mg x = some (.ref C)) (ha : DA X (e :: es) ta) (hdb : (x == ("__debug__" : Str)) = false)
    (he : starEach (e :: es) X.env = (false, eval e X.env) :: starEach es X.env) (hpl : (backTo pos (starEach es X.env)).any (·.1) = false) : DE X (.Call (.Name x p) (e :: es) [] pos) (dMake C i ta) :=
  ⟨fun W H0 tk => ⟨fun pins s σ H Q I ⟨x0, δ, m, P, er, h, t, q⟩ => by
    refine wpAny_Call_Name_kw (ld_glob I hg hm ?_ hdb)
    refine PySem.W.callWith_K (h₀ := X.base) I.ok.mod.kin M.kp (thn ((ha.run W H0 tk).run pos pins s σ H (fun vs H1 => Ext H H1 ∧ ∃ ds m1, Reps X.K X.mg H1 ds vs ∧ HRep X.K X.mg H1 m1 ∧ ds.length + 1 = i.ps.length ∧ ∀ p, m1 p = none → i.sp (.ref p :: ds) (put m1 p (.ins C [])) (fun v m2 => v = .non ∧ P (.ref p) m2) fun cls d m' => W cls d δ m')
      I ⟨x0, δ, m, _, er, h, t, fun ds m1 t1 vs H1 x1 q1 h1 => ⟨x1, ds, m1, q1, h1, t1⟩⟩) fun us s1 ⟨vs, H1, I1, r, x1, ds, m1, q1, h1, l1, t1⟩ => ⟨I1.kIn, ?_⟩) he hpl
    exact run_makeS M F hr tk I1 r q1 l1 (x0.trans x1) (er.ext x1) h1 t1 (q.ext x1)⟩⟩
theorem de_make0 {i : FI} {C g : Addr} {fd : FuncData} (M : Mk X.K C g) (F : FMx X.prog X.w X.K X.mg X.base k i g fd) (hr : Room (k + 1) X.A) (hg : Gl X x) (hm : X.mg x = some (.ref C)) (hdb : (x == ("__debug__" : Str)) = false) : DE X (.Call (.Name x p) [] [] pos) (dMake C i dNil) :=
  ⟨fun W H0 tk => ⟨fun pins s σ H Q I ⟨x0, δ, m, P, er, h, ⟨l1, t1⟩, q⟩ => by
    refine wpAny_Call_Name_kw (ld_glob I hg hm ?_ hdb)
    exact PySem.W.callWith_K0 I.kIn M.kp (run_makeS (us := []) (vs := []) (ds := []) M F hr tk I .nil rfl l1 x0 er h t1 q)⟩⟩
end
end L2.AP
set_option Elab.async false
set_option linter.all false
set_option maxRecDepth 100000
set_option maxHeartbeats 4000000
/-! AP10: from the program's own text to the deep reading, and that it is right. -/
namespace L2.AP
open PySem PySem.Spec PyProof.Rows

/-- what is known of the program around -/
structure GE where
  K : PySem.W.Frag
  funs : List (Str × FI)
  cons : List (Str × D)
  excs : List (Str × Addr)
  blts : List Str
  clss : List (Str × CI) := []
/-- the classes whose instances have a field -/
def GE.fldC (G : GE) (f : Str) : List Addr := (G.clss.filter fun c => c.2.flds.contains f).map fun c => c.2.C
/-- the classes that have a method -/
def GE.methC (G : GE) (m : Str) : List (Addr × FI) := G.clss.filterMap fun c => (c.2.meths.lookup m).map fun i => (c.2.C, i)
/-- where one stands -/
structure SC where
  N : List Str
  sc : Scope
  calm : Bool
  top : Bool
  mu : List (Nat × Nat)
def SC.new (c : SC) (p : Pos) : Bool := c.mu.contains (p.line, p.col)
def SC.slot (c : SC) (x : Str) : Option Nat := c.N.findIdx? (· == x)
def SC.vis (c : SC) (x : Str) : Bool := c.sc.names.lookup x == some .local || c.sc.names.lookup x == some .cell || c.sc.names.lookup x == some .free
def SC.sto (c : SC) (x : Str) : Bool := c.sc.names.lookup x == some .local || (c.top && c.sc.names.lookup x == some .cell)
def SC.gl (c : SC) (x : Str) : Bool := c.sc.names.lookup x == some .globalImplicit
def okName (x : Str) : Bool := !(x == ("__debug__" : Str)) && !(x == ("__classdict__" : Str)) && !(x == ("__name__" : Str))
def nonStar : Expr → Bool
  | .Starred .. => false
  | _ => true
def noComp : Expr → Bool
  | .ListComp .. => false
  | .SetComp .. => false
  | .DictComp .. => false
  | _ => true
def noSet : Expr → Bool
  | .Set .. => false
  | _ => true
def noCall : Expr → Bool
  | .Call .. => false
  | _ => true
def noSlice : Expr → Bool
  | .Slice .. => false
  | _ => true
def plainTest : Expr → Bool
  | .BoolOp .. => false
  | .UnaryOp .Not _ _ => false
  | .IfExp .. => false
  | .Compare .. => false
  | _ => true
def mapO {α β : Type} (f : α → Option β) : List α → Option (List β)
  | [] => some []
  | a :: r => (f a).bind fun b => (mapO f r).map fun bs => b :: bs
theorem mapO_cons {α β : Type} {f : α → Option β} {a : α} {r : List α} {l : List β} (h : mapO f (a :: r) = some l) : ∃ b bs, l = b :: bs ∧ f a = some b ∧ mapO f r = some bs := by
  unfold mapO at h
  cases e : f a with
  | none => rw [e] at h; cases h
  | some b =>
    rw [e] at h
    cases e2 : mapO f r with
    | none => rw [e2] at h; cases h
    | some bs => rw [e2] at h; cases h; exact ⟨b, bs, rfl, rfl, rfl⟩
theorem mapO_nil {α β : Type} {f : α → Option β} {l : List β} (h : mapO f [] = some l) : l = [] := by cases h; rfl
def daL : List DTE → DTA
  | [] => dNil
  | t :: r => dCons t (daL r)
def andL : List DTT → Option DTT
  | [] => none
  | [t] => some t
  | t :: r => (andL r).map (dAndT t)
def orL : List DTT → Option DTT
  | [] => none
  | [t] => some t
  | t :: r => (orL r).map (dOrT t)
def andV : List DTE → Option DTE
  | [] => none
  | [t] => some t
  | t :: r => (andV r).map (dAnd t)
def orV : List DTE → Option DTE
  | [] => none
  | [t] => some t
  | t :: r => (orV r).map (dOr t)
def dgL : List DTG → DTGs
  | [] => dgNil
  | t :: r => dgCons t (dgL r)
def seqL : List DTS → DTS
  | [] => dNext
  | [t] => t
  | t :: r => dSeq t (seqL r)
def opTab (mu : Bool) : Operator → Option (D → D → AH → DQ → Prop)
  | .Add => some (if mu = true then addMR else addR) | .Sub => some subR | .Mult => some mulR | .FloorDiv => some fdivR | .Mod => some modR | .Pow => some powR
  | _ => none
def cmpTab : CmpOp → D → D → AH → DQ → Prop
  | .Eq => eqR | .NotEq => neR | .Lt => ltR | .LtE => leR | .Gt => gtR | .GtE => geR | .Is => isR | .IsNot => isNotR | .In => inR false | .NotIn => inR true
def kdOf (x : Str) : Option Kd :=
  if x = "int" then some .int else if x = "bool" then some .bool else if x = "str" then some .str else if x = "tuple" then some .tuple else if x = "list" then some .list else none
/-- a built-in by its name: a function (false) or a class (true), its id, what it does; mu: its new list changes -/
def bltTab (x : Str) (n : Nat) (mu : Bool) (calm : Bool) : Option (List D → AH → DQ → Prop) :=
  if x = "len" ∧ n = 1 then some lenR else if x = "abs" ∧ n = 1 then some absR else
  if calm = true ∧ x = "all" ∧ n = 1 then some allR else if calm = true ∧ x = "any" ∧ n = 1 then some anyR else if calm = true ∧ x = "sum" ∧ n = 1 then some sumR else
  if calm = true ∧ x = "sorted" ∧ n = 1 then some (sortedR mu) else if calm = true ∧ x = "min" then some minR else if calm = true ∧ x = "max" then some maxR else
  if x = "list" ∧ n = 1 then some (listR mu) else if x = "tuple" ∧ n = 1 then some tupleR else if x = "int" ∧ n = 1 then some intR else if x = "str" ∧ n = 1 then some strR else none
/-- the answer's kind of name: true: a class -/
def bltCls (x : Str) : Bool := x = "list" || x = "tuple" || x = "int" || x = "str"
def lmTab (name : Str) (n : Nat) : Option (D → List D → AH → DQ → Prop) :=
  if name = "append" ∧ n = 1 then some appendR else if name = "extend" ∧ n = 1 then some extendR else if name = "pop" ∧ n = 0 then some popR else none
/-- the places of a block's own names -/
def ownOf (N : List Str) (scope : Scope) : List (Str × Nat) := scope.names.filterMap fun y => if y.2 == .local || y.2 == .cell then (N.findIdx? (· == y.1)).map fun i => (y.1, i) else none
/-- len(set(b)) -/
def setArg (x : Str) : List Expr → Option Expr
  | [.Call (.Name y _) [b] [] _] => if x = "len" ∧ y = "set" then some b else none
  | _ => none
def tgNames : Nat → Expr → List Str
  | 0, _ => []
  | n + 1, e => match e with
    | .Name x _ => [x]
    | .Tuple es _ _ => es.flatMap (tgNames n)
    | _ => []
def tgSlots (N : List Str) (e : Expr) : List Nat := (tgNames 9 e).filterMap fun x => N.findIdx? (· == x)
/-- no end (false), the end 0 (true) -/
def isZero : Option Expr → Option Bool
  | none => some false
  | some (.Constant (.int 0) _ _) => some true
  | _ => none
theorem isZero_eq {hi : Option Expr} {z : Bool} (h : isZero hi = some z) : ∃ j p, hi = zE z j p := by
  unfold isZero at h
  split at h
  · cases h; exact ⟨0, ⟨0, 0, 0, 0⟩, rfl⟩
  · cases h; exact ⟨_, _, rfl⟩
  · cases h
def isOne : Expr → Bool
  | .UnaryOp .USub (.Constant (.int 1) _ _) _ => true
  | _ => false
variable (G : GE)
mutual
def cE : Nat → SC → Expr → Option DTE
  | 0, _, _ => none
  | n + 1, c, e => match e with
    | .Name x _ => if okName x = true then
        if c.vis x = true then (c.slot x).map dVar
        else if c.gl x = true then
          match G.cons.lookup x with
          | some d => some (dC d)
          | none => if G.blts.contains x = true then (kdOf x).map fun k => dC (.ty k.name) else match G.funs.lookup x with
            | some _ => some (dC (.fn x))
            | none => none
        else none
      else none
    | .Constant k _ _ => match k with
      | .int i => some (dC (.int i))
      | .bool b => some (dC (.bl b))
      | .none => some (dC .non)
      | .str x => some (dC (.str x))
      | _ => none
    | .BinOp a op b pos => (opTab (c.new pos) op).bind fun r => (cE n c a).bind fun ta => (cE n c b).map fun tb => dOp r ta tb
    | .UnaryOp op a _ => match op with
      | .USub => (cE n c a).map fun ta => dUn negR ta
      | .Not => (cE n c a).map fun ta => dNot ta
      | _ => none
    | .BoolOp op vs _ => match op with
      | .And => (mapO (cE n c) vs).bind andV
      | .Or => (mapO (cE n c) vs).bind orV
    | .Compare a ops cs _ => match ops, cs with
      | [op], [b] => if noSet b = true then (cE n c a).bind fun ta => (cE n c b).map fun tb => dOp (cmpTab op) ta tb else none
      | [op, op'], [b, d] => if noSet d = true then (cE n c a).bind fun ta => (cE n c b).bind fun tb => (cE n c d).map fun td => dChain (cmpTab op) (cmpTab op') ta tb td else none
      | _, _ => none
    | .IfExp t a b _ => (cT n c t).bind fun tt => (cE n c a).bind fun ta => (cE n c b).map fun tb => dIf tt ta tb
    | .Tuple es _ _ => if es.all nonStar = true then (mapO (cE n c) es).map fun ts => dTup (daL ts) else none
    | .List es pos => if es.all nonStar = true then (mapO (cE n c) es).map fun ts => dLst (c.new pos) (daL ts) else none
    | .Subscript e s pos => match s with
      | .Slice lo hi st _ => match st with
        | none => (cE n c e).bind fun te => (cO n c lo).bind fun tl => (cO n c hi).map fun th => dSl (c.new pos) te tl th
        | some w => match lo with
          | none => if isOne w = true ∧ c.new pos = false then (isZero hi).bind fun z => (cE n c e).map (dRevG z) else none
          | _ => none
      | s => if noSlice s = true then (cE n c e).bind fun te => (cE n c s).map fun ts => dOp ixR te ts else none
    | .Attribute o f _ => if noCall o = true ∧ (G.fldC f).isEmpty = false then (cE n c o).map (dFld (G.fldC f) f) else none
    | .ListComp elt gs scope pos => match gs with
      | [⟨tg, it, ifs, 0⟩] => if c.calm = true ∧ noSet it = true ∧ blkC c.N c.sc scope (ownOf c.N scope) = true then
          let c' : SC := { N := c.N, sc := relS scope c.sc, calm := true, top := false, mu := c.mu }
          (cI n c tg it).bind fun ti => (cGc n c' ((ownOf c.N scope).map (·.2)) tg).bind fun g => (cTs n c' ifs).bind fun tt => (cE n c' elt).map fun te => dLc (c.new pos) ti g tt te ((ownOf c.N scope).map (·.2))
        else none
      | [⟨tg, it, ifs, 0⟩, ⟨tg1, it1, ifs1, 0⟩] => if c.calm = true ∧ noSet it = true ∧ noSet it1 = true ∧ blkC c.N c.sc scope (ownOf c.N scope) = true ∧ ((tgSlots c.N tg1).all fun i => ((ownOf c.N scope).map (·.2)).contains i) = true then
          let c' : SC := { N := c.N, sc := relS scope c.sc, calm := true, top := false, mu := c.mu }
          (cI n c tg it).bind fun ti => (cGc n c' ((ownOf c.N scope).map (·.2)) tg).bind fun g => (cTs n c' ifs).bind fun tt => (cI n c' tg1 it1).bind fun ui => (cGc n c' (tgSlots c.N tg1) tg1).bind fun gu => (cTs n c' ifs1).bind fun tu =>
            (cE n c' elt).map fun te => dLc2 (c.new pos) ti g tt ui gu tu te ((ownOf c.N scope).map (·.2)) (tgSlots c.N tg1)
        else none
      | _ => none
    | .Call f as ks pos => match f with
      | .Name x _ => if c.vis x = true then
          if okName x = true ∧ as.all nonStar = true ∧ c.calm = true ∧ ks.isEmpty = true ∧ as.isEmpty = false then (c.slot x).bind fun i => (mapO (cE n c) as).map fun ts => dCallL i (fun y => G.funs.lookup y) (daL ts) else none
        else if okName x = true ∧ c.gl x = true ∧ as.all nonStar = true ∧ c.vis x = false then
          match G.funs.lookup x with
          | some i => if c.calm = true then
              match ks with
              | [] => (mapO (cE n c) as).map fun ts => dCallF i.ps.length i.sp (daL ts)
              | k :: kr => if ((k :: kr).all fun k => k.arg.isSome) = true then
                  (i.kws.lookup (as.length, (k :: kr).filterMap (·.arg))).bind fun pm => (mapO (cE n c) as).bind fun ts => (mapO (fun k : Keyword => cE n c k.value) (k :: kr)).map fun tks =>
                    dCallK i.ps.length as.length (((k :: kr).filterMap (·.arg)).length) i.sp pm (daL ts) (daL tks)
                else none
            else none
          | none => match G.clss.lookup x with
           | some ci => if c.calm = true ∧ ks.isEmpty = true then ci.init.bind fun i => (mapO (cE n c) as).map fun ts => dMake ci.C i (daL ts) else none
           | none => if G.blts.contains x = true ∧ ks.isEmpty = true then
              match as with
              | [] => none
              | a :: r => if x = "isinstance" then
                  match a :: r with
                  | [_, .Name y _] => (kdOf y).bind fun k => (mapO (cE n c) (a :: r)).map fun ts => dCall (isiR k) (daL ts)
                  | _ => none
                else match setArg x (a :: r) with
                | some b => if c.calm = true ∧ c.gl "set" = true ∧ G.blts.contains "set" = true ∧ nonStar b = true then (cE n c b).map dLenSet else none
                | none => (bltTab x (a :: r).length (c.new pos) c.calm).bind fun rr => (mapO (cE n c) (a :: r)).map fun ts => dCall rr (daL ts)
            else none
        else none
      | .Attribute o name ap => if ks.isEmpty = true ∧ noCall o = true ∧ (ap.endLine == pos.line) = true ∧ as.all nonStar = true ∧ as.length < 5 then
          if (G.methC name).isEmpty = true then (lmTab name as.length).bind fun rr => (cE n c o).bind fun to => (mapO (cE n c) as).map fun ts => dBM rr to (daL ts)
          else if c.calm = true then (cE n c o).bind fun to => (mapO (cE n c) as).map fun ts => dMeth (G.methC name) name to (daL ts) else none
        else none
      | _ => none
    | _ => none
def cT : Nat → SC → Expr → Option DTT
  | 0, _, _ => none
  | n + 1, c, e => match e with
    | .BoolOp op vs _ => match op with
      | .And => (mapO (cT n c) vs).bind andL
      | .Or => (mapO (cT n c) vs).bind orL
    | .UnaryOp .Not a _ => (cT n c a).map dNotT
    | .Compare a ops cs _ => match ops, cs with
      | [op], [b] => if noSet b = true then (cE n c a).bind fun ta => (cE n c b).map fun tb => dTest (dOp (cmpTab op) ta tb) else none
      | [op, op'], [b, d] => if noSet d = true then (cE n c a).bind fun ta => (cE n c b).bind fun tb => (cE n c d).map fun td => dTest (dChain (cmpTab op) (cmpTab op') ta tb td) else none
      | _, _ => none
    | e => if plainTest e = true then (cE n c e).map dTruth else none
def cO : Nat → SC → Option Expr → Option DTO
  | 0, _, _ => none
  | n + 1, c, e => match e with
    | none => some dNoPart
    | some e => (cE n c e).map dPart
def cTs : Nat → SC → List Expr → Option DTT
  | 0, _, _ => none
  | n + 1, c, es => match es with
    | [] => some dYes
    | [e] => cT n c e
    | _ => none
/-- a target within a comprehension -/
def cGc : Nat → SC → List Nat → Expr → Option DTG
  | 0, _, _, _ => none
  | n + 1, c, vs, e => match e with
    | .Name x _ => if c.sto x = true then (c.slot x).bind fun i => if vs.contains i = true then some (dgName i) else none else none
    | .Tuple es _ _ => if es.all nonStar = true then (mapO (cGc n c vs) es).map fun gs => dgTup es.length (dgL gs) else none
    | _ => none
def cG : Nat → SC → Expr → Option DTG
  | 0, _, _ => none
  | n + 1, c, e => match e with
    | .Name x _ => if c.sto x = true then (c.slot x).map dgName else none
    | .Tuple es _ _ => if es.all nonStar = true ∧ c.calm = true then (mapO (cG n c) es).map fun gs => dgTup es.length (dgL gs) else none
    | .Subscript o i _ => if noSlice i = true then (cE n c o).bind fun to => (cE n c i).map fun ti => dgSub to ti else none
    | _ => none
def cI : Nat → SC → Expr → Expr → Option DTI
  | 0, _, _, _ => none
  | n + 1, c, tg, e => match e with
    | .Call (.Name x p) as [] pos => if x = "range" ∧ c.gl x = true ∧ G.blts.contains x = true ∧ as.all nonStar = true then
          match as with
          | [_] => (mapO (cE n c) as).map fun ts => diRange1 (daL ts)
          | [_, _] => (mapO (cE n c) as).map fun ts => diRange2 (daL ts)
          | [_, _, _] => (mapO (cE n c) as).map fun ts => diRange3 (daL ts)
          | _ => none
        else if x = "enumerate" ∧ c.gl x = true ∧ G.blts.contains x = true ∧ as.all nonStar = true then
          match as, tg with
          | [_], .Tuple _ _ _ => (mapO (cE n c) as).map fun ts => diEnum (daL ts)
          | _, _ => none
        else if x = "zip" ∧ c.gl x = true ∧ G.blts.contains x = true ∧ as.all nonStar = true then
          match as, tg with
          | [_, _], .Tuple _ _ _ => (mapO (cE n c) as).map fun ts => diZip (daL ts)
          | _, _ => none
        else (cE n c (.Call (.Name x p) as [] pos)).map diAny
    | e => (cE n c e).map diAny
end
/-- the comprehension that is stored where it is made -/
def swapLc (c : SC) (x : Str) (px : Pos) : Expr → Bool
  | .ListComp _ _ scope pos => c.sc.names.lookup x == some .local && px.line == pos.line && !(scope.names.any fun (n, k) => n == x && (k == .local || k == .cell))
  | _ => false
/-- names stored from the right -/
def swapNames (c : SC) (ts vs : List Expr) : Option (List Str) :=
  if (ts.length == 2 || ts.length == 3) && vs.length == ts.length && vs.all nonStar && !vs.all (foldedForSure 8) && !vs.all (constantsAlone 8) then
    let line := (ts.head?.map (·.pos.line)).getD 0
    let names := ts.filterMap fun
      | .Name id pos => if c.sc.names.lookup id == some .local && pos.line == line then some id else none
      | _ => none
    if names.length == ts.length && names.eraseDups.length == names.length then some names else none
  else none
/-- a tuple is made and taken apart -/
def noSwap (c : SC) (ts vs : List Expr) : Bool :=
  let line := (ts.head?.map (·.pos.line)).getD 0
  let names := ts.filterMap fun
    | .Name id pos => if c.sc.names.lookup id == some .local && pos.line == line then some id else none
    | _ => none
  vs.all nonStar && (names.length != ts.length || vs.length != ts.length || vs.all (foldedForSure 8))
def isTup : Expr → Bool
  | .Tuple .. => true
  | .List .. => true
  | _ => false
mutual
def cS : Nat → SC → Stmt → Option DTS
  | 0, _, _ => none
  | n + 1, c, st => match st with
    | .Pass _ => some dNext
    | .Break _ => some dBreak
    | .Continue _ => some dCont
    | .Return none _ => some dRetN
    | .Return (some e) _ => (cE G n c e).map dRet
    | .Expr e _ => if noComp e = true then (cE G n c e).map dDrop else none
    | .If t a b _ => (cT G n c t).bind fun tt => (cSs n c a).bind fun ta => (cSs n c b).map fun tb => dIfS tt ta tb
    | .While t a [] _ => (cT G n c t).bind fun tt => (cSs n c a).map fun ta => dWhile tt ta
    | .For tg it a [] _ => if c.calm = true ∧ noSet it = true then (cI G n c tg it).bind fun ti => (cG G n c tg).bind fun g => (cSs n c a).map fun ta => dFor ti g ta else none
    | .AugAssign (.Name x _) op e _ => if c.sto x = true then (c.slot x).bind fun i => (cE G n c e).bind fun te => match op with
        | .Add => some (dAug i te fun a b => a + b)
        | .Sub => some (dAug i te fun a b => a - b)
        | _ => none
      else none
    | .AugAssign (.Attribute o f _) op e _ => if (G.fldC f).isEmpty = false then (cE G n c o).bind fun to => (cE G n c e).bind fun te => match op with
        | .Add => some (dAugFld (G.fldC f) f to te fun a b => a + b)
        | .Sub => some (dAugFld (G.fldC f) f to te fun a b => a - b)
        | _ => none
      else none
    | .Assign [.Attribute o f _] e _ => if (G.fldC f).isEmpty = false then (cE G n c e).bind fun te => (cE G n c o).map fun to => dSetFld (G.fldC f) f te to else none
    | .Assign [tg] e _ => match tg with
      | .Name x px => if c.sto x = true ∧ c.sc.kind = .function then (c.slot x).bind fun i => if noComp e = true ∨ swapLc c x px e = false then (cE G n c e).map fun te => dAsg te (dgName i)
            else if c.sc.names.lookup x = some .local then (cE G n c e).map fun te => dAsg te (dgName i) else none
          else none
      | .Tuple ts _ _ => match e with
        | .Tuple vs _ _ => if noSwap c ts vs = true ∧ c.calm = true then (cG G n c tg).bind fun g => (cE G n c e).map fun te => dAsg te g
            else if c.calm = true ∧ c.sc.kind = .function then match ts, vs, swapNames c ts vs with
              | [.Name x _, .Name y _], [_, _], some [x', y'] => if x' = x ∧ y' = y then (c.slot x).bind fun i => (c.slot y).bind fun j => if i = j then none else (mapO (cE G n c) vs).map fun l => dPar i j (daL l) else none
              | [.Name x _, .Name y _, .Name z _], [_, _, _], some [x', y', z'] => if x' = x ∧ y' = y ∧ z' = z then (c.slot x).bind fun i => (c.slot y).bind fun j => (c.slot z).bind fun l => if i = j ∨ i = l ∨ j = l then none else (mapO (cE G n c) vs).map fun q => dPar3 i j l (daL q) else none
              | _, _, _ => none
            else none
        | e => if noComp e = true then (cG G n c tg).bind fun g => (cE G n c e).map fun te => dAsg te g else none
      | tg => if noComp e = true ∧ isTup tg = false ∧ nonStar tg = true then (cG G n c tg).bind fun g => (cE G n c e).map fun te => dAsg te g else none
    | .Raise (some (.Call (.Name x _) [.Constant (.str _) _ _] [] _)) none _ => if c.calm = true ∧ okName x = true ∧ c.gl x = true then (G.excs.lookup x).map dRaise else none
    | .Try body (h :: hs) [] [] _ => if c.calm = true ∧ c.top = true then (cSs n c body).bind fun tb => (mapO (cH n { c with calm := false }) (h :: hs)).map fun l => dTry G.K tb l else none
    | _ => none
/-- an except clause without a name -/
def cH : Nat → SC → ExceptHandler → Option (Value × DTS)
  | 0, _, _ => none
  | n + 1, c, h => match h with
    | .ExceptHandler (some (.Name x _)) none (b :: r) _ => if okName x = true ∧ c.gl x = true then (G.excs.lookup x).bind fun C => (cSs n c (b :: r)).map fun ts => (.ref C, ts) else none
    | _ => none
def cSs : Nat → SC → List Stmt → Option DTS
  | 0, _, _ => none
  | n + 1, c, sts => match sts with
    | [] => some dNext
    | [s] => cS n c s
    | s :: r => (cS n c s).bind fun t => (cSs n c r).map fun u => dSeq t u
end
end L2.AP
set_option Elab.async false
set_option linter.all false
set_option maxRecDepth 100000
set_option maxHeartbeats 4000000
/-! AP11: the reading is right. -/
namespace L2.AP
open PySem PySem.Spec PyProof.Rows

theorem bindE {α β : Type} {o : Option α} {f : α → Option β} {t : β} (h : o.bind f = some t) : ∃ a, o = some a ∧ f a = some t := Option.bind_eq_some_iff.mp h
theorem mapE {α β : Type} {o : Option α} {f : α → β} {t : β} (h : o.map f = some t) : ∃ a, o = some a ∧ f a = t := Option.map_eq_some_iff.mp h
theorem ifE {α : Type} {c : Prop} [Decidable c] {o : Option α} {t : α} (h : (if c then o else none) = some t) : c ∧ o = some t := by
  by_cases q : c
  · rw [if_pos q] at h; exact ⟨q, h⟩
  · rw [if_neg q] at h; cases h

/-- an own exception class over ValueError -/
structure ExcOk (K : PySem.W.Frag) (mg : Str → Option Value) (x : Str) (C : Addr) : Prop where
  gl : mg x = some (.ref C)
  kp : PySem.W.keepIn K (.ref C) = true
  ex : PySem.W.excIn K C [.type "ValueError", .type "Exception", .type "BaseException", .type "object"] "ValueError.__new__" = true
  sb : PySem.W.subIn K (.ref C) (.type "BaseException") = some true
  ty : PySem.W.typeIn K (.ref C) = some (.type "type")
structure GOk (G : GE) (P : Program) (w : World) (K : PySem.W.Frag) (mg : Str → Option Value) (base : Heap) (k : Nat) : Prop where
  kk : G.K = K
  funs : ∀ x i, G.funs.lookup x = some i → FIOk P w K mg base k x i
  cons : ∀ x d, G.cons.lookup x = some d → ∃ u v, mg x = some u ∧ RelV v u ∧ ∀ H, Rep K mg H d v
  excs : ∀ x C, G.excs.lookup x = some C → ExcOk K mg x C
  blts : ∀ x, G.blts.contains x = true → mg x = none
  clss : ∀ x ci, (x, ci) ∈ G.clss → CIOk P w K mg base k x ci
theorem lookup_in {α : Type} {x : Str} {a : α} : ∀ {l : List (Str × α)}, l.lookup x = some a → (x, a) ∈ l
  | [], h => by cases h
  | (y, b) :: l, h => by
    rw [List.lookup_cons] at h
    split at h
    · rename_i c
      cases h
      rw [beq_iff_eq.mp c]
      exact List.mem_cons_self
    · exact List.mem_cons_of_mem _ (lookup_in h)
theorem GOk.fld {G : GE} {P : Program} {w : World} {K : PySem.W.Frag} {mg : Str → Option Value} {base : Heap} {k : Nat} (g : GOk G P w K mg base k) {f : Str} : ∀ C ∈ G.fldC f, Cls K C ∧ NoAttr K C f := fun C hC => by
  obtain ⟨⟨x, ci⟩, h1, rfl⟩ := List.mem_map.mp hC
  obtain ⟨h1, h2⟩ := List.mem_filter.mp h1
  have o := g.clss x ci h1
  exact ⟨o.cls, o.na f (by simpa using h2)⟩
theorem GOk.meth {G : GE} {P : Program} {w : World} {K : PySem.W.Frag} {mg : Str → Option Value} {base : Heap} {k : Nat} (g : GOk G P w K mg base k) {m : Str} : ∀ C i, (C, i) ∈ G.methC m → Cls K C ∧ ∃ f fd, Meth K C m f ∧ FMx P w K mg base k i f fd := fun C i hC => by
  obtain ⟨⟨x, ci⟩, h1, h2⟩ := List.mem_filterMap.mp hC
  obtain ⟨j, h3, h4⟩ := Option.map_eq_some_iff.mp h2
  cases h4
  have o := g.clss x ci h1
  exact ⟨o.cls, o.ms m i (lookup_in h3)⟩
structure Fit (G : GE) (k : Nat) (c : SC) (X : Cx) : Prop where
  g : GOk G X.prog X.w X.K X.mg X.base k
  N : X.N = c.N
  nd : X.N.Nodup
  sc : X.env.scope = c.sc
  calm : c.calm = true → X.calm = true ∧ Room k X.A
  top : c.top = true → (∀ x, X.fn x = true) ∧ X.stack = X.env :: X.outer ∧ X.env.frame = some X.env.locals
  un : X.A.units + 140 < cLine
section
variable {G : GE} {k : Nat} {c : SC} {X : Cx} {x : Str}
theorem findIdx_get {N : List Str} {x : Str} {i : Nat} (h : N.findIdx? (· == x) = some i) : N[i]? = some x := by
  obtain ⟨hi, h1, _⟩ := List.findIdx?_eq_some_iff_getElem.mp h
  rw [List.getElem?_eq_getElem hi]
  rw [beq_iff_eq] at h1
  rw [h1]
theorem Fit.slot (f : Fit G k c X) {i : Nat} (h : c.slot x = some i) : X.N[i]? = some x := by rw [f.N]; exact findIdx_get h
theorem Fit.vis (f : Fit G k c X) (h : c.vis x = true) : Vis X.env.scope x := by
  unfold SC.vis at h
  rw [f.sc]
  simp only [Bool.or_eq_true, beq_iff_eq] at h
  rcases h with (h | h) | h
  · exact .inl h
  · exact .inr (.inl h)
  · exact .inr (.inr h)
theorem Fit.gl (f : Fit G k c X) (h : c.gl x = true) : Gl X x := by
  unfold SC.gl at h
  show X.env.scope.names.lookup x = _
  rw [f.sc]
  exact beq_iff_eq.mp h
theorem Fit.sto (f : Fit G k c X) (h : c.sto x = true) : Loc X.env.scope x ∧ (X.fn x = true ∨ X.env.scope.names.lookup x = some .local) := by
  unfold SC.sto at h
  rw [f.sc]
  simp only [Bool.or_eq_true, Bool.and_eq_true, beq_iff_eq] at h
  rcases h with h | ⟨h1, h2⟩
  · exact ⟨.inl h, .inr h⟩
  · exact ⟨.inr h2, .inl ((f.top h1).1 x)⟩
theorem okName_dbg (h : okName x = true) : (x == ("__debug__" : Str)) = false ∧ (x == ("__classdict__" : Str)) = false ∧ x ≠ "__name__" := by
  unfold okName at h
  simp only [Bool.and_eq_true, Bool.not_eq_true'] at h
  exact ⟨h.1.1, h.1.2, fun e => by rw [e] at h; exact absurd h.2 (by simp)⟩
end
theorem star_of {e : Expr} {es : List Expr} {env : Env} (h : nonStar e = true) : starEach (e :: es) env = (false, eval e env) :: starEach es env := by
  cases e <;> first | rfl | cases h
theorem star_all {env : Env} {pos : Pos} : ∀ {es : List Expr}, es.all nonStar = true → (backTo pos (starEach es env)).any (·.1) = false
  | [], _ => rfl
  | e :: es, h => by
    simp only [List.all_cons, Bool.and_eq_true] at h
    rw [star_of h.1]
    have ih := star_all (env := env) (pos := pos) h.2
    unfold backTo at ih ⊢
    simp only [List.map_cons, List.any_cons, Bool.false_or]
    exact ih
theorem behind_of {op : CmpOp} {e : Expr} (h : noSet e = true) : behindInMarks op e = false := by
  cases e <;> first | rfl | cases h
theorem folded_of {e : Expr} {env : Env} (h : noSet e = true) (x : Value) : foldedSetIterable e env x = pure x := by
  cases e <;> first | rfl | cases h
theorem plainIx_of {e : Expr} (h : noSlice e = true) : PlainIx e := by
  intro o i
  cases e <;> first | rfl | cases h
theorem attrBase_of {e : Expr} {env : Env} {n : Str} (h : noCall e = true) (w : Sem Value) : attributeBase e n env w = w := by
  cases e <;> first | rfl | cases h
theorem isTrue_of {e : Expr} {env : Env} (h : plainTest e = true) (whole : Sem Value) : isTrue e env whole = (do let v ← whole; standAt e.pos; holding [v] (truthy v)) := by
  cases e with
  | UnaryOp op a p => cases op <;> first | rfl | cases h
  | _ => first | rfl | cases h
theorem swaps_none {e : Expr} {t : Option Expr} {l : Nat} {env : Env} (h : noComp e = true) : swapsWith e t l env = pure false := by
  cases e <;> first | rfl | cases h
theorem assign_of {e : Expr} {es : List Expr} {env : Env} (h : nonStar e = true) : assignEach (e :: es) env = (false, assign e env) :: assignEach es env := by
  cases e <;> first | rfl | cases h
theorem assign_len {env : Env} : ∀ {es : List Expr}, es.all nonStar = true → (assignEach es env).length = es.length
  | [], _ => rfl
  | e :: es, h => by
    simp only [List.all_cons, Bool.and_eq_true] at h
    rw [assign_of h.1, List.length_cons, List.length_cons, assign_len h.2]
theorem assign_star {env : Env} : ∀ {es : List Expr}, es.all nonStar = true → (assignEach es env).findIdx? (·.1) = none
  | [], _ => rfl
  | e :: es, h => by
    simp only [List.all_cons, Bool.and_eq_true] at h
    rw [assign_of h.1, List.findIdx?_cons, assign_star h.2]
    rfl
theorem kdOf_boot {x : Str} {q : Kd} (h : kdOf x = some q) : bootBuiltins x = some (.type q.name) ∧ x ≠ "__name__" := by
  unfold kdOf at h
  repeat' split at h
  all_goals first
    | (rename_i e; cases h; subst e; exact ⟨by decide +kernel, by decide⟩)
    | cases h
theorem opTab_ok {X : Cx} {mu : Bool} {op : Operator} {r : D → D → AH → DQ → Prop} (h : opTab mu op = some r) : DOp X (binaryOp op) r := by
  cases op <;> first
    | (cases mu <;> (simp only [opTab, if_true, if_false, Bool.false_eq_true, Option.some.injEq] at h; subst h; first | exact addR_ok | exact addMR_ok))
    | (cases h; exact subR_ok)
    | (cases h; exact mulR_ok)
    | (cases h; exact fdivR_ok)
    | (cases h; exact modR_ok)
    | (cases h; exact powR_ok)
    | cases h
theorem cmpTab_ok {X : Cx} {op : CmpOp} (hu : X.A.units + 140 < cLine) : DOp X (compareOp op) (cmpTab op) := by
  cases op
  · exact eqR_ok (by omega)
  · exact neR_ok (by omega)
  · exact ltR_ok hu
  · exact leR_ok
  · exact gtR_ok
  · exact geR_ok
  · exact isR_ok
  · exact isNotR_ok
  · exact inR_ok (by omega)
  · exact notInR_ok (by omega)
theorem lmTab_ok {X : Cx} {name : Str} {n : Nat} {r : D → List D → AH → DQ → Prop} (h : lmTab name n = some r) : ∃ id, PySem.Slot "list" name id ∧ typeOf (.builtin id) = pure (.type "method_descriptor") ∧ DMtR X id r := by
  unfold lmTab at h
  split at h
  · rename_i e; obtain ⟨rfl, _⟩ := e; cases h
    exact ⟨_, PySem.F.slot_list_append, PySem.F.type_list_append, appendR_ok⟩
  · split at h
    · rename_i e; obtain ⟨rfl, _⟩ := e; cases h
      exact ⟨_, PySem.F.slot_list_extend, PySem.F.type_list_extend, extendR_ok⟩
    · split at h
      · rename_i e; obtain ⟨rfl, _⟩ := e; cases h
        exact ⟨_, PySem.F.slot_list_pop, PySem.F.type_list_pop, popR_ok⟩
      · cases h
/-- a built-in function or class -/
theorem iteE {α : Type} {c : Prop} [Decidable c] {a b : Option α} {t : α} (h : (if c then a else b) = some t) : (c ∧ a = some t) ∨ (¬ c ∧ b = some t) := by
  by_cases q : c
  · rw [if_pos q] at h; exact .inl ⟨q, h⟩
  · rw [if_neg q] at h; exact .inr ⟨q, h⟩
theorem bltTab_ok {X : Cx} {x : Str} {n : Nat} {mu calm : Bool} {r : List D → AH → DQ → Prop} (hc : calm = true → X.calm = true ∧ X.A.units + 190 < cLine) (h : bltTab x n mu calm = some r) :
    x ≠ "__name__" ∧ ((∃ id, bootBuiltins x = some (.builtin id) ∧ DCallR X (.builtin id) r) ∨ ∃ T, bootBuiltins x = some (.type T) ∧ DCallR X (.type T) r) := by
  unfold bltTab at h
  rcases iteE h with ⟨e, g⟩ | ⟨_, g⟩ <;> clear h
  · obtain ⟨rfl, _⟩ := e; cases g; exact ⟨by decide, .inl ⟨_, PySem.boot_len, lenR_ok⟩⟩
  have h := g; clear g
  rcases iteE h with ⟨e, g⟩ | ⟨_, g⟩ <;> clear h
  · obtain ⟨rfl, _⟩ := e; cases g; exact ⟨by decide, .inl ⟨_, boot_abs, absR_ok⟩⟩
  have h := g; clear g
  rcases iteE h with ⟨e, g⟩ | ⟨_, g⟩ <;> clear h
  · obtain ⟨hm, rfl, _⟩ := e; cases g; exact ⟨by decide, .inl ⟨_, by decide +kernel, allR_ok (hc hm).1⟩⟩
  have h := g; clear g
  rcases iteE h with ⟨e, g⟩ | ⟨_, g⟩ <;> clear h
  · obtain ⟨hm, rfl, _⟩ := e; cases g; exact ⟨by decide, .inl ⟨_, by decide +kernel, anyR_ok (hc hm).1⟩⟩
  have h := g; clear g
  rcases iteE h with ⟨e, g⟩ | ⟨_, g⟩ <;> clear h
  · obtain ⟨hm, rfl, _⟩ := e; cases g; exact ⟨by decide, .inl ⟨_, by decide +kernel, sumR_ok (hc hm).1⟩⟩
  have h := g; clear g
  rcases iteE h with ⟨e, g⟩ | ⟨_, g⟩ <;> clear h
  · obtain ⟨hm, rfl, _⟩ := e; cases g; exact ⟨by decide, .inl ⟨_, by decide +kernel, sortedR_ok mu (hc hm).2⟩⟩
  have h := g; clear g
  rcases iteE h with ⟨e, g⟩ | ⟨_, g⟩ <;> clear h
  · obtain ⟨hm, rfl⟩ := e; cases g; exact ⟨by decide, .inl ⟨_, by decide +kernel, minR_ok (hc hm).1⟩⟩
  have h := g; clear g
  rcases iteE h with ⟨e, g⟩ | ⟨_, g⟩ <;> clear h
  · obtain ⟨hm, rfl⟩ := e; cases g; exact ⟨by decide, .inl ⟨_, by decide +kernel, maxR_ok (hc hm).1⟩⟩
  have h := g; clear g
  rcases iteE h with ⟨e, g⟩ | ⟨_, g⟩ <;> clear h
  · obtain ⟨rfl, _⟩ := e; cases g; exact ⟨by decide, .inr ⟨_, by decide +kernel, listR_ok mu⟩⟩
  have h := g; clear g
  rcases iteE h with ⟨e, g⟩ | ⟨_, g⟩ <;> clear h
  · obtain ⟨rfl, _⟩ := e; cases g; exact ⟨by decide, .inr ⟨_, by decide +kernel, tupleR_ok⟩⟩
  have h := g; clear g
  rcases iteE h with ⟨e, g⟩ | ⟨_, g⟩ <;> clear h
  · obtain ⟨rfl, _⟩ := e; cases g; exact ⟨by decide, .inr ⟨_, by decide +kernel, intR_ok⟩⟩
  have h := g; clear g
  rcases iteE h with ⟨e, g⟩ | ⟨_, g⟩ <;> clear h
  · obtain ⟨rfl, _⟩ := e; cases g; exact ⟨by decide, .inr ⟨_, by decide +kernel, strR_ok⟩⟩
  have h := g; clear g
  cases h
end L2.AP
set_option Elab.async false
set_option linter.all false
set_option maxRecDepth 100000
set_option maxHeartbeats 8000000
/-! AP12: the reading is right: expressions. -/
namespace L2.AP
open PySem PySem.Spec PyProof.Rows
theorem ifT {α : Type} {c : Prop} [Decidable c] {a b : Option α} {t : α} (h : (if c then a else b) = some t) (q : c) : a = some t := by rw [if_pos q] at h; exact h
theorem ifF {α : Type} {c : Prop} [Decidable c] {a b : Option α} {t : α} (h : (if c then a else b) = some t) (q : ¬ c) : b = some t := by rw [if_neg q] at h; exact h
section
variable {G : GE} {k : Nat} {X : Cx}
theorem da_of {c : SC} {f : Expr → Option DTE} (hf : ∀ e t, f e = some t → DE X e t) : ∀ {es : List Expr} {ts : List DTE}, es.all nonStar = true → mapO f es = some ts → DA X es (daL ts)
  | [], _, _, h => by rw [mapO_nil h]; exact da_nil
  | e :: es, _, hs, h => by
    obtain ⟨b, bs, rfl, h1, h2⟩ := mapO_cons h
    simp only [List.all_cons, Bool.and_eq_true] at hs
    exact da_cons (hf e b h1) (da_of (c := c) hf hs.2 h2) (star_of hs.1)
theorem dk_of {f : Keyword → Option DTE} (hf : ∀ e t, f e = some t → DE X e.value t) : ∀ {es : List Keyword} {ts : List DTE}, mapO f es = some ts → DK X es (daL ts)
  | [], _, h => by rw [mapO_nil h]; exact dk_nil
  | ⟨nm, e, p⟩ :: es, _, h => by
    obtain ⟨b, bs, rfl, h1, h2⟩ := mapO_cons h
    exact dk_cons (hf _ b h1) (dk_of hf h2)
theorem andT_of {f : Expr → Option DTT} {p : Pos} (hf : ∀ e t, f e = some t → DT X e t) : ∀ {es : List Expr} {ts : List DTT} {t : DTT}, mapO f es = some ts → andL ts = some t → DWt X (.BoolOp .And es p) t
  | [], _, _, h, h' => by rw [mapO_nil h] at h'; cases h'
  | [e], _, _, h, h' => by
    obtain ⟨b, bs, rfl, h1, h2⟩ := mapO_cons h
    rw [mapO_nil h2] at h'
    cases h'
    exact dw_and1 (hf e _ h1)
  | e :: e2 :: es, _, _, h, h' => by
    obtain ⟨b, bs, rfl, h1, h2⟩ := mapO_cons h
    obtain ⟨b2, bs2, rfl, _, _⟩ := mapO_cons h2
    obtain ⟨u, h3, rfl⟩ := mapE h'
    exact dw_and (hf e b h1) (andT_of hf h2 h3)
theorem orT_of {f : Expr → Option DTT} {p : Pos} (hf : ∀ e t, f e = some t → DT X e t) : ∀ {es : List Expr} {ts : List DTT} {t : DTT}, mapO f es = some ts → orL ts = some t → DWt X (.BoolOp .Or es p) t
  | [], _, _, h, h' => by rw [mapO_nil h] at h'; cases h'
  | [e], _, _, h, h' => by
    obtain ⟨b, bs, rfl, h1, h2⟩ := mapO_cons h
    rw [mapO_nil h2] at h'
    cases h'
    exact dw_or1 (hf e _ h1)
  | e :: e2 :: es, _, _, h, h' => by
    obtain ⟨b, bs, rfl, h1, h2⟩ := mapO_cons h
    obtain ⟨b2, bs2, rfl, _, _⟩ := mapO_cons h2
    obtain ⟨u, h3, rfl⟩ := mapE h'
    exact dw_or (hf e b h1) (orT_of hf h2 h3)
theorem andV_of {f : Expr → Option DTE} {p : Pos} (hf : ∀ e t, f e = some t → DE X e t) : ∀ {es : List Expr} {ts : List DTE} {t : DTE}, mapO f es = some ts → andV ts = some t → DE X (.BoolOp .And es p) t
  | [], _, _, h, h' => by rw [mapO_nil h] at h'; cases h'
  | [e], _, _, h, h' => by
    obtain ⟨b, bs, rfl, h1, h2⟩ := mapO_cons h
    rw [mapO_nil h2] at h'
    cases h'
    exact de_one (hf e _ h1)
  | e :: e2 :: es, _, _, h, h' => by
    obtain ⟨b, bs, rfl, h1, h2⟩ := mapO_cons h
    obtain ⟨b2, bs2, rfl, _, _⟩ := mapO_cons h2
    obtain ⟨u, h3, rfl⟩ := mapE h'
    exact de_and (hf e b h1) (andV_of hf h2 h3)
theorem orV_of {f : Expr → Option DTE} {p : Pos} (hf : ∀ e t, f e = some t → DE X e t) : ∀ {es : List Expr} {ts : List DTE} {t : DTE}, mapO f es = some ts → orV ts = some t → DE X (.BoolOp .Or es p) t
  | [], _, _, h, h' => by rw [mapO_nil h] at h'; cases h'
  | [e], _, _, h, h' => by
    obtain ⟨b, bs, rfl, h1, h2⟩ := mapO_cons h
    rw [mapO_nil h2] at h'
    cases h'
    exact de_one (hf e _ h1)
  | e :: e2 :: es, _, _, h, h' => by
    obtain ⟨b, bs, rfl, h1, h2⟩ := mapO_cons h
    obtain ⟨b2, bs2, rfl, _, _⟩ := mapO_cons h2
    obtain ⟨u, h3, rfl⟩ := mapE h'
    exact de_or (hf e b h1) (orV_of hf h2 h3)
theorem dgs_of {f : Expr → Option DTG} (hf : ∀ e t, f e = some t → DG X e t) : ∀ {es : List Expr} {ts : List DTG}, es.all nonStar = true → mapO f es = some ts → DGs X es (dgL ts)
  | [], _, _, h => by rw [mapO_nil h]; exact dgs_nil
  | e :: es, _, hs, h => by
    obtain ⟨b, bs, rfl, h1, h2⟩ := mapO_cons h
    simp only [List.all_cons, Bool.and_eq_true] at hs
    exact dgs_cons (hf e b h1) (dgs_of hf hs.2 h2) (by rw [assign_of hs.1]; rfl)
theorem dgcs_of {vs : List Nat} {f : Expr → Option DTG} (hf : ∀ e t, f e = some t → DGc X e t vs) : ∀ {es : List Expr} {ts : List DTG}, es.all nonStar = true → mapO f es = some ts → DGcs X es (dgL ts) vs
  | [], _, _, h => by rw [mapO_nil h]; exact dgcs_nil
  | e :: es, _, hs, h => by
    obtain ⟨b, bs, rfl, h1, h2⟩ := mapO_cons h
    simp only [List.all_cons, Bool.and_eq_true] at hs
    exact dgcs_cons (hf e b h1) (dgcs_of hf hs.2 h2) (by rw [assign_of hs.1]; rfl)
/-- a comprehension's block fits -/
theorem Fit.blk {c : SC} (f : Fit G k c X) (hc : c.calm = true) (s : Shared) (H : Hp) (scope : Scope) (C : Addr) (cl : List (Str × Addr)) (fp : List Addr) :
    Fit G k { N := c.N, sc := relS scope c.sc, calm := true, top := false, mu := c.mu } (X.blk s H scope (compEnvC scope cl C X.env) fp) :=
  ⟨f.g, f.N, f.nd, by rw [← f.sc]; rfl, fun _ => f.calm hc, (fun z => nomatch z), f.un⟩
/-- all the readings of a size -/
structure AllOk (G : GE) (k n : Nat) : Prop where
  e : ∀ c e t, cE G n c e = some t → ∀ X, Fit G k c X → DE X e t
  t : ∀ c e t, cT G n c e = some t → ∀ X, Fit G k c X → DT X e t
  o : ∀ c e t, cO G n c e = some t → ∀ X, Fit G k c X → DO X e t
  ts : ∀ c e t, cTs G n c e = some t → ∀ X, Fit G k c X → DTs X e t
  gc : ∀ c vs e t, cGc G n c vs e = some t → ∀ X, Fit G k c X → X.calm = true → DGc X e t vs
  g : ∀ c e t, cG G n c e = some t → ∀ X, Fit G k c X → DG X e t
  i : ∀ c tg e t, cI G n c tg e = some t → ∀ X, Fit G k c X → DI X tg e t
theorem all_zero : AllOk G k 0 := ⟨(fun _ _ _ h => nomatch h), (fun _ _ _ h => nomatch h), (fun _ _ _ h => nomatch h), (fun _ _ _ h => nomatch h), (fun _ _ _ _ h => nomatch h), (fun _ _ _ h => nomatch h), fun _ _ _ _ h => nomatch h⟩
theorem setArg_eq {x : Str} {l : List Expr} {b : Expr} (h : setArg x l = some b) : x = "len" ∧ ∃ p q, l = [.Call (.Name "set" p) [b] [] q] := by
  unfold setArg at h
  split at h
  · obtain ⟨⟨rfl, rfl⟩, h2⟩ := ifE h
    cases h2
    exact ⟨rfl, _, _, rfl⟩
  · cases h
theorem call_ok {n : Nat} (A : AllOk G k n) {c : SC} {x : Str} {as : List Expr} {ks : List Keyword} {p pos : Pos} {t : DTE} (h : cE G (n + 1) c (.Call (.Name x p) as ks pos) = some t) (X : Cx) (F : Fit G k c X) : DE X (.Call (.Name x p) as ks pos) t := by
  unfold cE at h
  by_cases hvis : c.vis x = true
  · have h0 := ifT h hvis
    clear h
    obtain ⟨⟨hn, hs, hc, hk, he⟩, h⟩ := ifE h0
    obtain ⟨i, hi, h⟩ := bindE h
    obtain ⟨ts, h1, rfl⟩ := mapE h
    obtain ⟨d1, d2, d3⟩ := okName_dbg hn
    cases ks with
    | cons _ _ => cases hk
    | nil =>
      cases as with
      | nil => cases he
      | cons a r =>
        have hs' := hs
        simp only [List.all_cons, Bool.and_eq_true] at hs'
        exact de_callL F.g.funs (F.calm hc).2 (F.slot hi) (F.vis hvis) (da_of (c := c) (fun e t z => A.e c e t z X F) hs h1) d1 d2 (star_of hs'.1) (star_all hs'.2)
  have h00 := ifF h hvis
  clear h
  have h := h00
  clear h00
  obtain ⟨⟨hn, hg, hs, hv⟩, h0⟩ := ifE h
  clear h
  have h := h0
  clear h0
  obtain ⟨d1, d2, d3⟩ := okName_dbg hn
  have gl := F.gl hg
  have ha : ∀ {ts}, mapO (cE G n c) as = some ts → DA X as (daL ts) := fun {ts} q => da_of (c := c) (fun e t z => A.e c e t z X F) hs q
  split at h
  · rename_i i hi
    obtain ⟨hc, h0⟩ := ifE h
    clear h
    have h := h0
    clear h0
    obtain ⟨f0, fd0, FI⟩ := F.g.funs x i hi
    obtain ⟨_, room⟩ := F.calm hc
    cases ks with
    | nil =>
      obtain ⟨ts, h1, rfl⟩ := mapE h
      cases as with
      | nil => rw [mapO_nil h1]; exact de_callF0 FI room gl d1
      | cons a r =>
        simp only [List.all_cons, Bool.and_eq_true] at hs
        exact de_callF FI room gl (ha h1) d1 (star_of hs.1) (star_all hs.2)
    | cons kw kr =>
      obtain ⟨hk, h⟩ := ifE h
      obtain ⟨pm, h1, h⟩ := bindE h
      obtain ⟨ts, h2, h⟩ := bindE h
      obtain ⟨tks, h3, rfl⟩ := mapE h
      have kok := FI.kw _ _ pm h1
      have dk : DK X (kw :: kr) (daL tks) := dk_of (fun e t z => A.e c e.value t z X F) h3
      have hall : ∀ l : List Keyword, (l.all fun k => k.arg.isSome) = true → (backToKw pos (keywordEach l X.env)).all (·.1.isSome) = true ∧ (backToKw pos (keywordEach l X.env)).filterMap (·.1) = l.filterMap (·.arg) ∧ (backToKw pos (keywordEach l X.env)).any (·.1.isNone) = false := by
        intro l
        induction l with
        | nil => intro _; exact ⟨rfl, rfl, rfl⟩
        | cons a l ih =>
          intro q
          simp only [List.all_cons, Bool.and_eq_true] at q
          obtain ⟨q1, q2, q3⟩ := ih q.2
          obtain ⟨nm, e, p⟩ := a
          cases nm with
          | none => exact absurd q.1 (by simp)
          | some nm =>
            unfold backToKw at q1 q2 q3 ⊢
            refine ⟨?_, ?_, ?_⟩
            · show ((true : Bool) && List.all _ _) = true
              rw [Bool.true_and]; exact q1
            · show nm :: List.filterMap _ _ = nm :: List.filterMap _ _
              exact congrArg _ q2
            · show ((false : Bool) || List.any _ _) = false
              rw [Bool.false_or]; exact q3
      obtain ⟨a1, a2, a3⟩ := hall _ hk
      cases as with
      | nil =>
        rw [mapO_nil h2]
        exact de_callK0 FI kok room gl dk a1 a2 d1 (by rw [a3]; rfl)
      | cons a r =>
        have hs' := hs
        simp only [List.all_cons, Bool.and_eq_true] at hs'
        exact de_callK FI kok room gl (ha h2) dk a1 a2 d1 (star_of hs'.1) (by rw [a3, star_all hs]; rfl)
  · split at h
    · rename_i ci hci
      obtain ⟨⟨hc, hk⟩, h0⟩ := ifE h
      clear h
      obtain ⟨i, hi, h⟩ := bindE h0
      obtain ⟨ts, h1, rfl⟩ := mapE h
      have o := F.g.clss x ci (lookup_in hci)
      obtain ⟨f0, fd0, j, hj, M, FM⟩ := o.ini i hi
      have room := (F.calm hc).2.mono hj
      cases ks with
      | cons _ _ => cases hk
      | nil =>
        cases as with
        | nil => rw [mapO_nil h1]; exact de_make0 M FM room gl o.gl d1
        | cons a r =>
          simp only [List.all_cons, Bool.and_eq_true] at hs
          exact de_make M FM room gl o.gl (ha h1) d1 (star_of hs.1) (star_all hs.2)
    obtain ⟨⟨hb, hk⟩, h0⟩ := ifE h
    clear h
    have h := h0
    clear h0
    have hm := F.g.blts x hb
    cases ks with
    | cons _ _ => cases hk
    | nil =>
    cases as with
    | nil => cases h
    | cons a r =>
      have hs' := hs
      simp only [List.all_cons, Bool.and_eq_true] at hs'
      by_cases hx : x = "isinstance"
      · subst hx
        have h1 := ifT h rfl
        clear h
        have h := h1
        clear h1
        cases r with
        | nil => cases h
        | cons b r =>
          cases b with
          | Name y py =>
            cases r with
            | nil =>
              obtain ⟨q, hq, h⟩ := bindE h
              obtain ⟨ts, h1, rfl⟩ := mapE h
              exact de_callB (isiR_ok q) gl hm (by decide +kernel) (ha h1) (by decide) d1 (star_of hs'.1) (star_all hs'.2)
            | cons _ _ => cases h
          | _ => cases h
      · have h0 := ifF h hx
        clear h
        have h := h0
        clear h0
        split at h
        · rename_i b hb2
          obtain ⟨⟨hc, hg2, hm2, hnb⟩, h⟩ := ifE h
          obtain ⟨ta, h1, rfl⟩ := mapE h
          obtain ⟨rfl, p2, q2, e2⟩ := setArg_eq hb2
          rw [e2]
          exact de_lenSet (F.calm hc).1 (by have := (F.calm hc).2.un; omega) gl hm (F.gl hg2) (F.g.blts _ hm2) (A.e c b ta h1 X F) (star_of hnb)
        obtain ⟨rr, h1, h⟩ := bindE h
        obtain ⟨ts, h2, rfl⟩ := mapE h
        obtain ⟨n1, ⟨id, b1, b2⟩ | ⟨T, b1, b2⟩⟩ := bltTab_ok (X := X) (fun z => ⟨(F.calm z).1, by have := (F.calm z).2.un; omega⟩) h1
        · exact de_callB b2 gl hm b1 (ha h2) n1 d1 (star_of hs'.1) (star_all hs'.2)
        · exact de_callTy b2 gl hm b1 (ha h2) n1 d1 (star_of hs'.1) (star_all hs'.2)
theorem few_of {env : Env} {pos : Pos} : ∀ l : List Expr, l.all nonStar = true → (backTo pos (starEach l env)).all (fun x => !x.1) = true := by
  intro l
  induction l with
  | nil => intro _; rfl
  | cons b l ih =>
    intro q
    simp only [List.all_cons, Bool.and_eq_true] at q
    rw [star_of q.1]
    have := ih q.2
    unfold backTo at this ⊢
    simp only [List.map_cons, List.all_cons, Bool.not_false, Bool.true_and]
    exact this
theorem meth_tree {o : Expr} {name : Str} {apos pos : Pos} {args : List Expr} {env : Env} (hb : attributeBase o name env (eval o env) = eval o env) (hf : methodCallForm (args.length + 0) (backTo pos (starEach args env)) (backToKw pos (keywordEach [] env)) = true) (hl : (apos.endLine == pos.line) = true) :
    eval (.Call (.Attribute o name apos) args [] pos) env = (do
      let ov ← eval o env
      standAt apos.atName
      let (f, first) ← holding [ov] (getMethod ov name (do return (← importBound o env).getD true))
      callWith pos f first (backTo pos (starEach args env)) (backToKw pos (keywordEach [] env))) := by
  rw [arm_eval_Call, hb]
  unfold methodCall methodCallPos calleeOf
  simp only [List.length_nil, hf, hl, Bool.not_true, Bool.false_or, if_true]
  rfl
theorem meth_ok {n : Nat} (A : AllOk G k n) {c : SC} {o : Expr} {name : Str} {as : List Expr} {ks : List Keyword} {ap pos : Pos} {t : DTE} (h : cE G (n + 1) c (.Call (.Attribute o name ap) as ks pos) = some t) (X : Cx) (F : Fit G k c X) : DE X (.Call (.Attribute o name ap) as ks pos) t := by
  unfold cE at h
  have h00 := ifE h
  clear h
  obtain ⟨⟨hk, hn, hl, hs, hlen⟩, h⟩ := h00
  have five : decide (as.length + ([] : List Keyword).length + (if ([] : List Keyword).isEmpty then 0 else 1) < 30) = true := by
    refine decide_eq_true ?_
    show as.length + 0 + 0 < 30
    omega
  cases ks with
  | cons _ _ => cases hk
  | nil =>
  by_cases hm : (G.methC name).isEmpty = true
  · have h0 := ifT h hm
    clear h
    obtain ⟨rr, h1, h⟩ := bindE h0
    obtain ⟨to, h2, h⟩ := bindE h
    obtain ⟨ts, h3, rfl⟩ := mapE h
    obtain ⟨id, s1, s2, s3⟩ := lmTab_ok (X := X) h1
    have ho := A.e c o to h2 X F
    cases as with
    | nil => rw [mapO_nil h3]; exact de_bm0 s1 s2 s3 ho (attrBase_of hn _) hl
    | cons a r =>
      have hs' := hs
      simp only [List.all_cons, Bool.and_eq_true] at hs'
      refine de_bm s1 s2 s3 ho (da_of (c := c) (fun e t z => A.e c e t z X F) hs h3) (attrBase_of hn _) ?_ hl (star_of hs'.1) (star_all hs'.2)
      rw [few_of _ hs, five]
      rfl
  · obtain ⟨hc, h0⟩ := ifE (ifF h hm)
    clear h
    obtain ⟨to, h2, h⟩ := bindE h0
    obtain ⟨ts, h3, rfl⟩ := mapE h
    have ho := A.e c o to h2 X F
    have hf : methodCallForm (as.length + 0) (backTo pos (starEach as X.env)) (backToKw pos (keywordEach [] X.env)) = true := by
      unfold methodCallForm
      rw [few_of _ hs]
      have : decide (as.length + 0 + (if (backToKw pos (keywordEach [] X.env)).isEmpty then 0 else 1) < 30) = true := five
      rw [this]
      rfl
    have ht := meth_tree (pos := pos) (apos := ap) (args := as) (attrBase_of (n := name) (env := X.env) hn (eval o X.env)) hf hl
    cases as with
    | nil =>
      rw [mapO_nil h3]
      exact de_meth0 F.g.meth (F.calm hc).2 ho ht
    | cons a r =>
      have hs' := hs
      simp only [List.all_cons, Bool.and_eq_true] at hs'
      exact de_meth F.g.meth (F.calm hc).2 ho (da_of (c := c) (fun e t z => A.e c e t z X F) hs h3) (star_of hs'.1) (star_all hs'.2) ht
end
end L2.AP
set_option Elab.async false
set_option linter.all false
set_option maxRecDepth 100000
set_option maxHeartbeats 8000000
/-! AP13: the reading is right: all expressions, targets, walks. -/
namespace L2.AP
open PySem PySem.Spec PyProof.Rows
section
variable {G : GE} {k n : Nat} {X : Cx}
theorem own_ix {N : List Str} {scope : Scope} {i : Nat} (h : ((ownOf N scope).map (·.2)).contains i = true) : True := trivial
theorem lc2_ok {n : Nat} (A : AllOk G k n) {c : SC} {X : Cx} (F : Fit G k c X) {elt tg it tg1 it1 : Expr} {ifs ifs1 : List Expr} {scope : Scope} {ti ui : DTI} {g gu : DTG} {tt tu : DTT} {te : DTE} (hc : c.calm = true) (hs : noSet it = true) (hs1 : noSet it1 = true)
    (hb : blkC c.N c.sc scope (ownOf c.N scope) = true) (hv : ((tgSlots c.N tg1).all fun i => ((ownOf c.N scope).map (·.2)).contains i) = true) (h1 : cI G n c tg it = some ti)
    (h2 : cGc G n { N := c.N, sc := relS scope c.sc, calm := true, top := false, mu := c.mu } ((ownOf c.N scope).map (·.2)) tg = some g) (h3 : cTs G n { N := c.N, sc := relS scope c.sc, calm := true, top := false, mu := c.mu } ifs = some tt)
    (h5 : cI G n { N := c.N, sc := relS scope c.sc, calm := true, top := false, mu := c.mu } tg1 it1 = some ui) (h6 : cGc G n { N := c.N, sc := relS scope c.sc, calm := true, top := false, mu := c.mu } (tgSlots c.N tg1) tg1 = some gu)
    (h7 : cTs G n { N := c.N, sc := relS scope c.sc, calm := true, top := false, mu := c.mu } ifs1 = some tu) (h4 : cE G n { N := c.N, sc := relS scope c.sc, calm := true, top := false, mu := c.mu } elt = some te) :
    Lc2Ok X elt tg it tg1 it1 ifs ifs1 scope (ownOf c.N scope) (tgSlots c.N tg1) ti ui g gu tt tu te :=
  { hi := A.i c tg it ti h1 X F
    ok := by rw [F.N, F.sc]; exact blkOk_by hb
    hv := fun i hi => by
      have := List.all_eq_true.mp hv i hi
      simpa using this
    hg := fun s H C cl fp => A.gc _ _ tg g h2 _ (F.blk hc s H scope C cl fp) (F.calm hc).1
    ht := fun s H C cl fp => A.ts _ ifs tt h3 _ (F.blk hc s H scope C cl fp)
    hu := fun s H C cl fp => A.i _ tg1 it1 ui h5 _ (F.blk hc s H scope C cl fp)
    hgu := fun s H C cl fp => A.gc _ _ tg1 gu h6 _ (F.blk hc s H scope C cl fp) (F.calm hc).1
    htu := fun s H C cl fp => A.ts _ ifs1 tu h7 _ (F.blk hc s H scope C cl fp)
    he := fun s H C cl fp => A.e _ elt te h4 _ (F.blk hc s H scope C cl fp)
    hs := folded_of hs
    hs1 := fun env => folded_of hs1 }
theorem e_step (A : AllOk G k n) (c : SC) (e : Expr) (t : DTE) (h : cE G (n + 1) c e = some t) (X : Cx) (F : Fit G k c X) : DE X e t := by
  cases e with
  | Name x p =>
    unfold cE at h
    obtain ⟨hn, h1⟩ := ifE h
    obtain ⟨d1, d2, d3⟩ := okName_dbg hn
    clear h
    by_cases hv : c.vis x = true
    · obtain ⟨i, h2, rfl⟩ := mapE (ifT h1 hv)
      exact de_var (F.slot h2) (F.vis hv) d1 d2
    · obtain ⟨hg, h2⟩ := ifE (ifF h1 hv)
      clear h1
      have gl := F.gl hg
      split at h2
      · rename_i d hd
        cases h2
        obtain ⟨u, v, q1, q2, q3⟩ := F.g.cons x d hd
        exact de_C (pe_glob gl q1 q2 d1) q3
      · by_cases hb : G.blts.contains x = true
        · obtain ⟨q, hq, rfl⟩ := mapE (ifT h2 hb)
          obtain ⟨b1, b2⟩ := kdOf_boot hq
          exact de_C (pe_bltn (v := .ty q.name) gl (F.g.blts x hb) b1 rfl b2 d1) fun _ => rfl
        · have h3 := ifF h2 hb
          clear h2
          split at h3
          · rename_i i hi
            cases h3
            obtain ⟨f0, fd0, FI⟩ := F.g.funs x i hi
            exact de_C (v := .ref f0) (pe_glob gl FI.gl rfl d1) fun _ => ⟨_, rfl, FI.gl⟩
          · cases h3
  | Attribute o f p =>
    unfold cE at h
    obtain ⟨⟨hn, _⟩, h⟩ := ifE h
    obtain ⟨to, h1, rfl⟩ := mapE h
    exact de_fld F.g.fld (A.e c o to h1 X F) (attrBase_of hn _)
  | Constant q j p =>
    unfold cE at h
    cases q with
    | int i => cases h; exact de_int
    | bool b => cases h; exact de_bl
    | none => cases h; exact de_non
    | str x => cases h; exact de_str
    | _ => cases h
  | BinOp a op b p =>
    unfold cE at h
    obtain ⟨r, h1, h⟩ := bindE h
    obtain ⟨ta, h2, h⟩ := bindE h
    obtain ⟨tb, h3, rfl⟩ := mapE h
    exact de_op (opTab_ok h1) (A.e c a ta h2 X F) (A.e c b tb h3 X F)
  | UnaryOp op a p =>
    unfold cE at h
    cases op with
    | USub =>
      obtain ⟨ta, h2, rfl⟩ := mapE h
      exact de_un negR_ok (A.e c a ta h2 X F)
    | Not =>
      obtain ⟨ta, h2, rfl⟩ := mapE h
      exact de_not (A.e c a ta h2 X F)
    | _ => cases h
  | BoolOp op vs p =>
    unfold cE at h
    cases op with
    | And =>
      obtain ⟨ts, h1, h2⟩ := bindE h
      exact andV_of (fun e t z => A.e c e t z X F) h1 h2
    | Or =>
      obtain ⟨ts, h1, h2⟩ := bindE h
      exact orV_of (fun e t z => A.e c e t z X F) h1 h2
  | Compare a ops cs p =>
    unfold cE at h
    dsimp only at h
    split at h
    · rename_i op b
      obtain ⟨hs, h⟩ := ifE h
      obtain ⟨ta, h2, h⟩ := bindE h
      obtain ⟨tb, h3, rfl⟩ := mapE h
      exact de_cmp (cmpTab_ok F.un) (A.e c a ta h2 X F) (A.e c b tb h3 X F) (behind_of hs)
    · rename_i op op' b d
      obtain ⟨hs, h⟩ := ifE h
      obtain ⟨ta, h2, h⟩ := bindE h
      obtain ⟨tb, h3, h⟩ := bindE h
      obtain ⟨td, h4, rfl⟩ := mapE h
      exact de_chain (cmpTab_ok F.un) (cmpTab_ok F.un) (A.e c a ta h2 X F) (A.e c b tb h3 X F) (A.e c d td h4 X F) (behind_of hs)
    · cases h
  | IfExp q a b p =>
    unfold cE at h
    obtain ⟨tt, h1, h⟩ := bindE h
    obtain ⟨ta, h2, h⟩ := bindE h
    obtain ⟨tb, h3, rfl⟩ := mapE h
    exact de_if (A.t c q tt h1 X F) (A.e c a ta h2 X F) (A.e c b tb h3 X F)
  | Tuple es j p =>
    unfold cE at h
    obtain ⟨hs, h⟩ := ifE h
    obtain ⟨ts, h1, rfl⟩ := mapE h
    exact de_tup (da_of (c := c) (fun e t z => A.e c e t z X F) hs h1)
  | List es p =>
    unfold cE at h
    obtain ⟨hs, h⟩ := ifE h
    obtain ⟨ts, h1, rfl⟩ := mapE h
    exact de_lst _ (da_of (c := c) (fun e t z => A.e c e t z X F) hs h1)
  | Subscript e s p =>
    unfold cE at h
    cases s with
    | Slice lo hi st p2 =>
      cases st with
      | none =>
        obtain ⟨te, h1, h⟩ := bindE h
        obtain ⟨tl, h2, h⟩ := bindE h
        obtain ⟨th, h3, rfl⟩ := mapE h
        exact de_sl _ (A.e c e te h1 X F) (A.o c lo tl h2 X F) (A.o c hi th h3 X F)
      | some w =>
        cases lo with
        | some _ => cases h
        | none =>
        obtain ⟨⟨hw, _⟩, h⟩ := ifE h
        obtain ⟨z, hz, h⟩ := bindE h
        obtain ⟨te, h1, rfl⟩ := mapE h
        obtain ⟨j, p0, rfl⟩ := isZero_eq hz
        unfold isOne at hw
        split at hw
        · exact de_revG z (A.e c e te h1 X F)
        · cases hw
    | _ =>
      obtain ⟨hs, h⟩ := ifE h
      obtain ⟨te, h1, h⟩ := bindE h
      obtain ⟨ts, h2, rfl⟩ := mapE h
      exact de_ix (A.e c e te h1 X F) (A.e c _ ts h2 X F) (plainIx_of hs)
  | ListComp elt gs scope p =>
    unfold cE at h
    dsimp only at h
    split at h
    · rename_i tg it ifs
      obtain ⟨⟨hc, hs, hb⟩, h⟩ := ifE h
      obtain ⟨ti, h1, h⟩ := bindE h
      obtain ⟨g, h2, h⟩ := bindE h
      obtain ⟨tt, h3, h⟩ := bindE h
      obtain ⟨te, h4, rfl⟩ := mapE h
      have cal := (F.calm hc).1
      exact de_lc _ cal F.nd (A.i c tg it ti h1 X F) (by rw [F.N, F.sc]; exact blkOk_by hb) (fun s H C cl fp => A.gc _ _ tg g h2 _ (F.blk hc s H scope C cl fp) cal) (fun s H C cl fp => A.ts _ ifs tt h3 _ (F.blk hc s H scope C cl fp))
        (fun s H C cl fp => A.e _ elt te h4 _ (F.blk hc s H scope C cl fp)) (folded_of hs)
    · rename_i tg it ifs tg1 it1 ifs1
      obtain ⟨⟨hc, hs, hs1, hb, hv⟩, h⟩ := ifE h
      obtain ⟨ti, h1, h⟩ := bindE h
      obtain ⟨g, h2, h⟩ := bindE h
      obtain ⟨tt, h3, h⟩ := bindE h
      obtain ⟨ui, h5, h⟩ := bindE h
      obtain ⟨gu, h6, h⟩ := bindE h
      obtain ⟨tu, h7, h⟩ := bindE h
      obtain ⟨te, h4, rfl⟩ := mapE h
      have cal := (F.calm hc).1
      exact de_lc2 _ cal F.nd (lc2_ok A F hc hs hs1 hb hv h1 h2 h3 h5 h6 h7 h4)
    · cases h
  | Call f as ks p =>
    cases f with
    | Name x q => exact call_ok A h X F
    | Attribute o name q => exact meth_ok A h X F
    | _ => unfold cE at h; cases h
  | _ => unfold cE at h; cases h
theorem t_step (A : AllOk G k n) (c : SC) (e : Expr) (t : DTT) (h : cT G (n + 1) c e = some t) (X : Cx) (F : Fit G k c X) : DT X e t := by
  have other : ∀ e : Expr, plainTest e = true → (cE G n c e).map dTruth = some t → DT X e t := fun e hp h => by
    obtain ⟨te, h1, rfl⟩ := mapE h
    exact dt_truth (A.e c e te h1 X F) (isTrue_of hp)
  cases e with
  | BoolOp op vs p =>
    unfold cT at h
    cases op with
    | And =>
      obtain ⟨ts, h1, h2⟩ := bindE h
      exact (andT_of (fun e t z => A.t c e t z X F) h1 h2).dt
    | Or =>
      obtain ⟨ts, h1, h2⟩ := bindE h
      exact (orT_of (fun e t z => A.t c e t z X F) h1 h2).dt
  | UnaryOp op a p =>
    unfold cT at h
    cases op with
    | Not =>
      obtain ⟨ta, h2, rfl⟩ := mapE h
      exact dt_not (A.t c a ta h2 X F)
    | _ => obtain ⟨hp, h⟩ := ifE h; exact other _ hp h
  | Compare a ops cs p =>
    unfold cT at h
    dsimp only at h
    split at h
    · rename_i op b
      obtain ⟨hs, h⟩ := ifE h
      obtain ⟨ta, h2, h⟩ := bindE h
      obtain ⟨tb, h3, rfl⟩ := mapE h
      exact dt_cmp (cmpTab_ok F.un) (A.e c a ta h2 X F) (A.e c b tb h3 X F) (behind_of hs)
    · rename_i op op' b d
      obtain ⟨hs, h⟩ := ifE h
      obtain ⟨ta, h2, h⟩ := bindE h
      obtain ⟨tb, h3, h⟩ := bindE h
      obtain ⟨td, h4, rfl⟩ := mapE h
      exact dt_chain (cmpTab_ok F.un) (cmpTab_ok F.un) (A.e c a ta h2 X F) (A.e c b tb h3 X F) (A.e c d td h4 X F) (behind_of hs)
    · cases h
  | _ => unfold cT at h; obtain ⟨hp, h⟩ := ifE h; exact other _ hp h
theorem o_step (A : AllOk G k n) (c : SC) (e : Option Expr) (t : DTO) (h : cO G (n + 1) c e = some t) (X : Cx) (F : Fit G k c X) : DO X e t := by
  unfold cO at h
  cases e with
  | none => cases h; exact do_none
  | some e =>
    obtain ⟨te, h1, rfl⟩ := mapE h
    exact do_some (A.e c e te h1 X F)
theorem ts_step (A : AllOk G k n) (c : SC) (e : List Expr) (t : DTT) (h : cTs G (n + 1) c e = some t) (X : Cx) (F : Fit G k c X) : DTs X e t := by
  unfold cTs at h
  split at h
  · cases h; exact dts_nil
  · exact dts_one (A.t c _ t h X F)
  · cases h
theorem gc_step (A : AllOk G k n) (c : SC) (vs : List Nat) (e : Expr) (t : DTG) (h : cGc G (n + 1) c vs e = some t) (X : Cx) (F : Fit G k c X) (hc : X.calm = true) : DGc X e t vs := by
  unfold cGc at h
  split at h
  · obtain ⟨hs, h⟩ := ifE h
    obtain ⟨i, h1, h⟩ := bindE h
    obtain ⟨hv, h⟩ := ifE h
    cases h
    obtain ⟨s1, s2⟩ := F.sto hs
    exact dgc_name F.nd (F.slot h1) s1 s2 (by simpa using hv)
  · obtain ⟨hs, h⟩ := ifE h
    obtain ⟨gs, h1, rfl⟩ := mapE h
    exact dgc_tup hc (dgcs_of (fun e t z => A.gc c vs e t z X F hc) hs h1) (assign_len hs) (assign_star hs)
  · cases h
theorem g_step (A : AllOk G k n) (c : SC) (e : Expr) (t : DTG) (h : cG G (n + 1) c e = some t) (X : Cx) (F : Fit G k c X) : DG X e t := by
  unfold cG at h
  split at h
  · obtain ⟨hs, h⟩ := ifE h
    obtain ⟨i, h1, rfl⟩ := mapE h
    obtain ⟨s1, s2⟩ := F.sto hs
    exact dg_name F.nd (F.slot h1) s1 s2
  · obtain ⟨⟨hs, hc⟩, h⟩ := ifE h
    obtain ⟨gs, h1, rfl⟩ := mapE h
    exact dg_tup (F.calm hc).1 (dgs_of (fun e t z => A.g c e t z X F) hs h1) (assign_len hs) (assign_star hs)
  · rename_i o i p
    obtain ⟨hs, h⟩ := ifE h
    obtain ⟨to, h1, h⟩ := bindE h
    obtain ⟨ti, h2, rfl⟩ := mapE h
    refine dg_sub (A.e c o to h1 X F) (A.e c i ti h2 X F) fun v => ?_
    cases i <;> first | rfl | cases hs
  · cases h
theorem star1 {a : Expr} {env : Env} (h : [a].all nonStar = true) : starEach [a] env = [(false, eval a env)] := by
  simp only [List.all_cons, Bool.and_eq_true] at h
  rw [star_of h.1]; rfl
theorem i_step (A : AllOk G k n) (c : SC) (tg e : Expr) (t : DTI) (h : cI G (n + 1) c tg e = some t) (X : Cx) (F : Fit G k c X) : DI X tg e t := by
  have other : ∀ e : Expr, (cE G n c e).map diAny = some t → DI X tg e t := fun e h => by
    obtain ⟨te, h1, rfl⟩ := mapE h
    exact di_any (A.e c e te h1 X F)
  unfold cI at h
  split at h
  · rename_i x p as pos
    have ha : ∀ {ts}, as.all nonStar = true → mapO (cE G n c) as = some ts → DA X as (daL ts) := fun {ts} hs q => da_of (c := c) (fun e t z => A.e c e t z X F) hs q
    by_cases h1 : x = "range" ∧ c.gl x = true ∧ G.blts.contains x = true ∧ as.all nonStar = true
    · have h2 := ifT h h1
      clear h
      obtain ⟨rfl, hg, hb, hs⟩ := h1
      have gl := F.gl hg
      have hm := F.g.blts _ hb
      split at h2
      · obtain ⟨ts, h3, rfl⟩ := mapE h2
        exact di_range1 gl hm (ha hs h3) (star1 hs)
      · obtain ⟨ts, h3, rfl⟩ := mapE h2
        have hs' := hs
        simp only [List.all_cons, Bool.and_eq_true] at hs'
        exact di_range2 gl hm (ha hs h3) (by rw [star_of hs'.1, star_of hs'.2.1]; rfl) (by rw [star_of hs'.2.1]; rfl)
      · obtain ⟨ts, h3, rfl⟩ := mapE h2
        have hs' := hs
        simp only [List.all_cons, Bool.and_eq_true] at hs'
        exact di_range3 gl hm (ha hs h3) (star_of hs'.1) (star_all (by simp only [List.all_cons, Bool.and_eq_true]; exact hs'.2))
      · cases h2
    · have h2 := ifF h h1
      clear h h1
      by_cases h1 : x = "enumerate" ∧ c.gl x = true ∧ G.blts.contains x = true ∧ as.all nonStar = true
      · have h3 := ifT h2 h1
        clear h2
        obtain ⟨rfl, hg, hb, hs⟩ := h1
        have gl := F.gl hg
        have hm := F.g.blts _ hb
        split at h3
        · obtain ⟨ts, h4, rfl⟩ := mapE h3
          exact di_enum gl hm (ha hs h4) (star1 hs)
        · cases h3
      · have h3 := ifF h2 h1
        clear h2 h1
        by_cases h1 : x = "zip" ∧ c.gl x = true ∧ G.blts.contains x = true ∧ as.all nonStar = true
        · have h4 := ifT h3 h1
          clear h3
          obtain ⟨rfl, hg, hb, hs⟩ := h1
          have gl := F.gl hg
          have hm := F.g.blts _ hb
          split at h4
          · obtain ⟨ts, h5, rfl⟩ := mapE h4
            have hs' := hs
            simp only [List.all_cons, Bool.and_eq_true] at hs'
            exact di_zip gl hm (ha hs h5) (star_of hs'.1) (star_all (by simp only [List.all_cons, Bool.and_eq_true]; exact hs'.2))
          · cases h4
        · exact other _ (ifF h3 h1)
  · exact other _ h
theorem all_ok (G : GE) (k : Nat) : ∀ n, AllOk G k n
  | 0 => all_zero
  | n + 1 => ⟨e_step (all_ok G k n), t_step (all_ok G k n), o_step (all_ok G k n), ts_step (all_ok G k n), gc_step (all_ok G k n), g_step (all_ok G k n), i_step (all_ok G k n)⟩
end
end L2.AP
set_option Elab.async false
set_option linter.all false
set_option maxRecDepth 100000
set_option maxHeartbeats 8000000
/-! AP14: the reading is right: statements. -/
namespace L2.AP
open PySem PySem.Spec PyProof.Rows
section
variable {env : Env} {c : SC}
theorem block_fn (hs : env.scope = c.sc) (hk : c.sc.kind = .function) : env.blockKind = .function := by
  unfold Env.blockKind
  rw [hs, hk]
  rfl
theorem swaps_lc (hs : env.scope = c.sc) (hk : c.sc.kind = .function) {elt : Expr} {gs : List Comprehension} {scope : Scope} {p px : Pos} {x : Str} {l : Nat} :
    swapsWith (.ListComp elt gs scope p) (some (.Name x px)) l env = pure (swapLc c x px (.ListComp elt gs scope p)) := by
  have hb := block_fn hs hk
  unfold swapsWith swapLc
  have hx : env.kindOf x = c.sc.names.lookup x := by show env.scope.names.lookup x = _; rw [hs]
  simp only [hb, hx]
  rfl
theorem swapped_tg {tg e : Expr} (h : isTup tg = false) : swappedStores [tg] e env = pure none := by
  cases tg <;> first | rfl | cases h
theorem swapped_e {tg e : Expr} (h : ∀ vs k p, e ≠ .Tuple vs k p) : swappedStores [tg] e env = pure none := by
  cases e <;> first
    | exact absurd rfl (h _ _ _)
    | (cases tg <;> rfl)
theorem any_star {f : Expr → Bool} (hf : ∀ e, nonStar e = true → f e = false) : ∀ {vs : List Expr}, vs.all nonStar = true → vs.any f = false
  | [], _ => rfl
  | v :: vs, h => by
    simp only [List.all_cons, Bool.and_eq_true] at h
    rw [List.any_cons, hf v h.1, any_star hf h.2]; rfl
theorem swapped_names (hs : env.scope = c.sc) (hk : c.sc.kind = .function) {ts vs : List Expr} {k k2 : Nat} {p p2 : Pos} {ns : List Str} (h : swapNames c ts vs = some ns) : swappedStores [.Tuple ts k p] (.Tuple vs k2 p2) env = pure (some ns) := by
  have hb := block_fn hs hk
  unfold swapNames at h
  obtain ⟨h1, h2⟩ := ifE h
  simp only [Bool.and_eq_true, Bool.not_eq_true'] at h1
  obtain ⟨⟨⟨⟨a1, a2⟩, a3⟩, a4⟩, a5⟩ := h1
  dsimp only at h2
  obtain ⟨b1, b2⟩ := ifE h2
  obtain ⟨b3, b4⟩ := Bool.and_eq_true_iff.mp b1
  unfold swappedStores
  have q1 : (!(ts.length == 2 || ts.length == 3) || vs.length != ts.length || env.blockKind != .function) = false := by
    rw [a1, hb]
    simp only [bne, a2]
    rfl
  have hkind : ∀ x, env.kindOf x = c.sc.names.lookup x := fun x => by show env.scope.names.lookup x = _; rw [hs]
  simp only [q1, Bool.false_eq_true, if_false, hkind]
  rw [any_star (fun e he => by cases e <;> first | rfl | cases he) a3]
  simp only [Bool.false_eq_true, if_false]
  have ne : ∀ {a b : Nat}, (a == b) = true → (a != b) = false := fun h => by rw [bne, h]; rfl
  rw [if_neg (fun z => by rw [Bool.or_eq_true_iff] at z; exact z.elim (fun w => nomatch (ne b3).symm.trans w) fun w => nomatch (ne b4).symm.trans w), if_neg (by rw [a4]; decide), if_neg (by rw [a5]; decide)]
  cases b2
  rfl
theorem swapped_no (hs : env.scope = c.sc) {ts vs : List Expr} {k k2 : Nat} {p p2 : Pos} (h : noSwap c ts vs = true) : swappedStores [.Tuple ts k p] (.Tuple vs k2 p2) env = pure none := by
  unfold noSwap at h
  dsimp only at h
  obtain ⟨a3, h⟩ := Bool.and_eq_true_iff.mp h
  unfold swappedStores
  have hkind : ∀ x, env.kindOf x = c.sc.names.lookup x := fun x => by show env.scope.names.lookup x = _; rw [hs]
  simp only [hkind]
  by_cases q1 : (!(ts.length == 2 || ts.length == 3) || vs.length != ts.length || env.blockKind != .function) = true
  · rw [if_pos q1]
  · rw [if_neg q1]
    rw [any_star (fun e he => by cases e <;> first | rfl | cases he) a3]
    rw [if_neg (by decide)]
    have q2 : (vs.length != ts.length) = false := by
      simp only [Bool.or_eq_true, not_or, Bool.not_eq_true] at q1
      exact q1.1.2
    rw [q2, Bool.or_false, Bool.or_eq_true] at h
    rcases h with h | h
    · rw [if_pos (by rw [Bool.or_eq_true]; exact .inl h)]
    · rw [h]
      split <;> first | rfl | (split <;> rfl)
end
section
variable {G : GE} {k n : Nat} {X : Cx}
structure AllS (G : GE) (k n : Nat) : Prop where
  s : ∀ c e t, cS G n c e = some t → ∀ X, Fit G k c X → DS X e t
  h : ∀ c e t, mapO (cH G n { c with calm := false }) e = some t → ∀ X, Fit G k c X → DHs X e t
  ss : ∀ c e t, cSs G n c e = some t → ∀ X, Fit G k c X → DSs X e t
theorem Fit.tr {c : SC} (f : Fit G k c X) (pn : List (Addr × Obj)) (xe : Value → Shared → Prop) : Fit G k c (X.tr pn xe) := ⟨f.g, f.N, f.nd, f.sc, f.calm, f.top, f.un⟩
theorem Fit.suite {c : SC} (f : Fit G k c X) (a : Addr) (pn : List (Addr × Obj)) : Fit G k { c with calm := false } (X.suite a pn) := ⟨f.g, f.N, f.nd, f.sc, (fun z => nomatch z), f.top, f.un⟩
theorem set_ok {c : SC} {x : Str} {px p : Pos} {e : Expr} {i : Nat} {te : DTE} (hs : c.sto x = true) (hk : c.sc.kind = .function) (hi : c.slot x = some i) (he : cE G n c e = some te) (X : Cx) (F : Fit G k c X)
    (h : noComp e = true ∨ swapLc c x px e = false ∨ c.sc.names.lookup x = some .local) : DS X (.Assign [.Name x px] e p) (dAsg te (dgName i)) := by
  obtain ⟨s1, s2⟩ := F.sto hs
  by_cases hn : noComp e = true
  · exact ds_set F.nd (F.slot hi) s1 ((all_ok G k n).e c e te he X F) (swaps_none hn) s2
  · have h : swapLc c x px e = false ∨ c.sc.names.lookup x = some .local := h.resolve_left hn
    cases n with
    | zero => cases he
    | succ m =>
    cases e with
    | ListComp elt gs scope pos =>
      have sw := swaps_lc (env := X.env) (l := p.line) F.sc hk (elt := elt) (gs := gs) (scope := scope) (p := pos) (px := px) (x := x)
      cases hw : swapLc c x px (.ListComp elt gs scope pos) with
      | false =>
        rw [hw] at sw
        exact ds_set F.nd (F.slot hi) s1 ((all_ok G k (m + 1)).e c _ te he X F) sw s2
      | true =>
        rw [hw] at sw h
        have hl : c.sc.names.lookup x = some .local := h.resolve_left (by decide)
        unfold cE at he
        dsimp only at he
        split at he
        · rename_i tg it ifs
          obtain ⟨⟨hc, hst, hb⟩, he⟩ := ifE he
          obtain ⟨ti, h1, he⟩ := bindE he
          obtain ⟨g, h2, he⟩ := bindE he
          obtain ⟨tt, h3, he⟩ := bindE he
          obtain ⟨te, h4, rfl⟩ := mapE he
          have cal := (F.calm hc).1
          have A := all_ok G k m
          exact ds_setLc _ cal F.nd (F.slot hi) (by rw [F.sc]; exact hl) sw (A.i c tg it ti h1 X F) (by rw [F.N, F.sc]; exact blkOk_by hb) (fun s H C cl fp => A.gc _ _ tg g h2 _ (F.blk hc s H scope C cl fp) cal)
            (fun s H C cl fp => A.ts _ ifs tt h3 _ (F.blk hc s H scope C cl fp)) (fun s H C cl fp => A.e _ elt te h4 _ (F.blk hc s H scope C cl fp)) (folded_of hst)
        · rename_i tg it ifs tg1 it1 ifs1
          obtain ⟨⟨hc, hst, hs1, hb, hv⟩, he⟩ := ifE he
          obtain ⟨ti, h1, he⟩ := bindE he
          obtain ⟨g, h2, he⟩ := bindE he
          obtain ⟨tt, h3, he⟩ := bindE he
          obtain ⟨ui, h5, he⟩ := bindE he
          obtain ⟨gu, h6, he⟩ := bindE he
          obtain ⟨tu, h7, he⟩ := bindE he
          obtain ⟨te, h4, rfl⟩ := mapE he
          exact ds_setLc2 _ (F.calm hc).1 F.nd (F.slot hi) (by rw [F.sc]; exact hl) sw (lc2_ok (all_ok G k m) F hc hst hs1 hb hv h1 h2 h3 h5 h6 h7 h4)
        · cases he
    | SetComp _ _ _ _ => unfold cE at he; cases he
    | DictComp _ _ _ _ _ => unfold cE at he; cases he
    | _ => exact absurd rfl hn
theorem asg_ok {c : SC} {tg e : Expr} {p : Pos} {t : DTS} (A : AllOk G k n) (hg : nonStar tg = true) (hs : ∀ l, swapsWith e (some tg) l X.env = pure false) (hw : swappedStores [tg] e X.env = pure none) (h : ((cG G n c tg).bind fun g => (cE G n c e).map fun te => dAsg te g) = some t) (F : Fit G k c X) :
    DS X (.Assign [tg] e p) t := by
  obtain ⟨g, h1, h⟩ := bindE h
  obtain ⟨te, h2, rfl⟩ := mapE h
  exact ds_asg (A.e c e te h2 X F) (A.g c tg g h1 X F) (hs _) hw (by rw [assign_of hg]; rfl)
theorem swaps_attr {e o : Expr} {f : Str} {q : Pos} {l : Nat} {env : Env} : swapsWith e (some (.Attribute o f q)) l env = pure false := by cases e <;> rfl
theorem s_step (S : AllS G k n) (c : SC) (e : Stmt) (t : DTS) (h : cS G (n + 1) c e = some t) (X : Cx) (F : Fit G k c X) : DS X e t := by
  have A := all_ok G k n
  unfold cS at h
  split at h
  · cases h; exact ds_pass
  · cases h; exact ds_break
  · cases h; exact ds_continue
  · cases h; exact ds_retN
  · obtain ⟨te, h1, rfl⟩ := mapE h
    exact ds_ret (A.e c _ te h1 X F)
  · obtain ⟨hn, h⟩ := ifE h
    obtain ⟨te, h1, rfl⟩ := mapE h
    exact ds_expr (A.e c _ te h1 X F) (swaps_none hn)
  · obtain ⟨tt, h1, h⟩ := bindE h
    obtain ⟨ta, h2, h⟩ := bindE h
    obtain ⟨tb, h3, rfl⟩ := mapE h
    exact ds_if (A.t c _ tt h1 X F) (S.ss c _ ta h2 X F) (S.ss c _ tb h3 X F)
  · obtain ⟨tt, h1, h⟩ := bindE h
    obtain ⟨ta, h2, rfl⟩ := mapE h
    exact ds_while (A.t c _ tt h1 X F) (S.ss c _ ta h2 X F)
  · obtain ⟨⟨hc, hs⟩, h⟩ := ifE h
    obtain ⟨ti, h1, h⟩ := bindE h
    obtain ⟨g, h2, h⟩ := bindE h
    obtain ⟨ta, h3, rfl⟩ := mapE h
    exact ds_for (F.calm hc).1 (A.i c _ _ ti h1 X F) (A.g c _ g h2 X F) (S.ss c _ ta h3 X F) (folded_of hs)
  · obtain ⟨hs, h⟩ := ifE h
    obtain ⟨i, h1, h⟩ := bindE h
    obtain ⟨te, h2, h⟩ := bindE h
    obtain ⟨s1, s2⟩ := F.sto hs
    split at h
    · cases h; exact ds_aug ip_add F.nd (F.slot h1) s1 (A.e c _ te h2 X F) s2
    · cases h; exact ds_aug ip_sub F.nd (F.slot h1) s1 (A.e c _ te h2 X F) s2
    · cases h
  · obtain ⟨_, h⟩ := ifE h
    obtain ⟨to, h1, h⟩ := bindE h
    obtain ⟨te, h2, h⟩ := bindE h
    split at h
    · cases h; exact ds_augFld in_add (fun i j H Q q => ⟨i, j, rfl, rfl, q⟩) F.g.fld (A.e c _ to h1 X F) (A.e c _ te h2 X F)
    · cases h; exact ds_augFld in_sub (fun i j H Q q => ⟨i, j, rfl, rfl, q⟩) F.g.fld (A.e c _ to h1 X F) (A.e c _ te h2 X F)
    · cases h
  · obtain ⟨_, h⟩ := ifE h
    obtain ⟨te, h1, h⟩ := bindE h
    obtain ⟨to, h2, rfl⟩ := mapE h
    exact ds_fld F.g.fld (A.e c _ to h2 X F) (A.e c _ te h1 X F) swaps_attr
  · rename_i tg e p _
    cases tg with
    | Name x px =>
      obtain ⟨⟨hs, hk⟩, h⟩ := ifE h
      obtain ⟨i, h1, h⟩ := bindE h
      by_cases q : noComp e = true ∨ swapLc c x px e = false
      · obtain ⟨te, h2, rfl⟩ := mapE (ifT h q)
        exact set_ok hs hk h1 h2 X F (q.elim .inl fun z => .inr (.inl z))
      · obtain ⟨hl, h⟩ := ifE (ifF h q)
        obtain ⟨te, h2, rfl⟩ := mapE h
        exact set_ok hs hk h1 h2 X F (.inr (.inr hl))
    | Tuple ts kt pt =>
      have other : ∀ e : Expr, (∀ vs k p, e ≠ .Tuple vs k p) → (if noComp e = true then (cG G n c (.Tuple ts kt pt)).bind fun g => (cE G n c e).map fun te => dAsg te g else none) = some t → DS X (.Assign [.Tuple ts kt pt] e p) t := fun e hne h => by
        obtain ⟨hn, h⟩ := ifE h
        exact asg_ok A rfl (fun l => swaps_none hn) (swapped_e hne) h F
      cases e with
      | Tuple vs k2 p2 =>
        dsimp only at h
        by_cases q : noSwap c ts vs = true ∧ c.calm = true
        · exact asg_ok A rfl (fun l => rfl) (swapped_no F.sc q.1) (ifT h q) F
        · obtain ⟨⟨hc, hk⟩, h0⟩ := ifE (ifF h q)
          clear h
          obtain ⟨cal, _⟩ := F.calm hc
          have loc : ∀ {ns}, swapNames c ts vs = some ns → ∀ x ∈ ns, c.sc.names.lookup x = some .local := fun {ns} hn x hx => by
            unfold swapNames at hn
            obtain ⟨_, h2⟩ := ifE hn
            dsimp only at h2
            obtain ⟨_, h3⟩ := ifE h2
            cases h3
            obtain ⟨e, _, he⟩ := List.mem_filterMap.mp hx
            split at he
            · rename_i id pos
              obtain ⟨h4, h5⟩ := ifE he
              cases h5
              simp only [Bool.and_eq_true, beq_iff_eq] at h4
              exact h4.1
            · cases he
          have star : ∀ {ns}, swapNames c ts vs = some ns → vs.all nonStar = true := fun {ns} hn => by
            unfold swapNames at hn
            obtain ⟨h1, _⟩ := ifE hn
            simp only [Bool.and_eq_true] at h1
            exact h1.1.1.2
          split at h0
          · rename_i x px y py a b x' y' hw
            obtain ⟨⟨rfl, rfl⟩, h1⟩ := ifE h0
            obtain ⟨i, hi, h1⟩ := bindE h1
            obtain ⟨j, hj, h1⟩ := bindE h1
            by_cases hij : i = j
            · have := ifT h1 hij; cases this
            · obtain ⟨l, h2, rfl⟩ := mapE (ifF h1 hij)
              exact ds_par cal F.nd (F.slot hi) (F.slot hj) hij (by rw [F.sc]; exact loc hw _ (by simp)) (by rw [F.sc]; exact loc hw _ (by simp)) (da_of (c := c) (fun e t z => A.e c e t z X F) (star hw) h2) (swapped_names F.sc hk hw) rfl
          · rename_i x px y py z pz a b d x' y' z' hw
            obtain ⟨⟨rfl, rfl, rfl⟩, h1⟩ := ifE h0
            obtain ⟨i, hi, h1⟩ := bindE h1
            obtain ⟨j, hj, h1⟩ := bindE h1
            obtain ⟨l, hl, h1⟩ := bindE h1
            by_cases hij : i = j ∨ i = l ∨ j = l
            · have := ifT h1 hij; cases this
            · simp only [not_or] at hij
              obtain ⟨q, h2, rfl⟩ := mapE (ifF h1 (by simp only [not_or]; exact hij))
              exact ds_par3 cal F.nd (F.slot hi) (F.slot hj) (F.slot hl) hij.1 hij.2.1 hij.2.2 (by rw [F.sc]; exact loc hw _ (by simp)) (by rw [F.sc]; exact loc hw _ (by simp)) (by rw [F.sc]; exact loc hw _ (by simp))
                (da_of (c := c) (fun e t z => A.e c e t z X F) (star hw) h2) (swapped_names F.sc hk hw) rfl
          · cases h0
      | _ => exact other _ (fun _ _ _ z => nomatch z) h
    | _ =>
      obtain ⟨⟨hn, ht, hs⟩, h⟩ := ifE h
      exact asg_ok A hs (fun l => swaps_none hn) (swapped_tg ht) h F
  · obtain ⟨⟨hc, hn, hg⟩, h⟩ := ifE h
    obtain ⟨C, h1, rfl⟩ := mapE h
    have E := F.g.excs _ C h1
    exact ds_raise (F.calm hc).1 PySem.F.excBase_ValueError E.ex E.gl E.kp (raises_own E.sb E.ty) (F.gl hg) (okName_dbg hn).1
  · obtain ⟨⟨hc, ht⟩, h⟩ := ifE h
    obtain ⟨tb, h1, h⟩ := bindE h
    obtain ⟨l, h2, rfl⟩ := mapE h
    obtain ⟨_, t1, t2⟩ := F.top ht
    rw [F.g.kk]
    exact ds_try t1 t2 (fun pn xe => S.ss c _ tb h1 _ (F.tr pn xe)) (S.h c _ l h2 X F)
  · cases h
theorem h_step (S : AllS G k n) (c : SC) : ∀ (e : List ExceptHandler) (t : List (Value × DTS)), mapO (cH G (n + 1) { c with calm := false }) e = some t → ∀ X, Fit G k c X → DHs X e t
  | [], _, h, X, F => by rw [mapO_nil h]; exact .nil
  | e :: es, _, h, X, F => by
    obtain ⟨b, bs, rfl, h1, h2⟩ := mapO_cons h
    have r := h_step S c es bs h2 X F
    unfold cH at h1
    split at h1
    · obtain ⟨⟨hn, hg⟩, h1⟩ := ifE h1
      obtain ⟨C, h3, h1⟩ := bindE h1
      obtain ⟨ts, h4, rfl⟩ := mapE h1
      exact .cons ⟨F.gl hg, (okName_dbg hn).1, .inl (F.g.excs _ C h3).gl⟩ (fun a oe pn => S.ss _ _ ts h4 _ (F.suite a _)) r
    · cases h1
theorem ss_step (S : AllS G k n) (c : SC) (e : List Stmt) (t : DTS) (h : cSs G (n + 1) c e = some t) (X : Cx) (F : Fit G k c X) : DSs X e t := by
  unfold cSs at h
  split at h
  · cases h; exact ds_nil
  · exact ds_one (S.s c _ t h X F)
  · obtain ⟨t, h1, h⟩ := bindE h
    obtain ⟨u, h2, rfl⟩ := mapE h
    exact ds_cons (S.s c _ t h1 X F) (S.ss c _ u h2 X F)
theorem alls_ok (G : GE) (k : Nat) : ∀ n, AllS G k n
  | 0 => ⟨(fun _ _ _ h => nomatch h), (fun c e t h X F => by
      cases e with
      | nil => rw [mapO_nil h]; exact .nil
      | cons a r => obtain ⟨b, bs, rfl, h1, h2⟩ := mapO_cons h; cases h1), fun _ _ _ h => nomatch h⟩
  | n + 1 => ⟨s_step (alls_ok G k n), h_step (alls_ok G k n), ss_step (alls_ok G k n)⟩
end
end L2.AP
set_option Elab.async false
set_option linter.all false
set_option maxRecDepth 100000
set_option maxHeartbeats 4000000
/-! AP15: a def by its body's reading; the law's own def; the end. -/
namespace L2.AP
open PySem PySem.Spec PyProof.Rows
theorem Reps.erep {K : PySem.W.Frag} {mg : Str → Option Value} {H : Hp} {ds : List D} {vs : List V} (r : Reps K mg H ds vs) (n : Nat) : ERep K mg H (vs.map some ++ List.replicate n none) (ds.map some ++ List.replicate n none) := by
  refine ⟨by simp [r.len], fun i d q => ?_⟩
  by_cases c : i < ds.length
  · rw [List.getElem?_append_left (by simpa using c), List.getElem?_map] at q
    cases e : ds[i]? with
    | none => rw [e] at q; cases q
    | some d' =>
      rw [e] at q
      cases q
      obtain ⟨v, e1, r1⟩ := r.get e
      have c2 : i < vs.length := by rw [r.len]; exact c
      refine ⟨v, ?_, r1⟩
      rw [List.getElem?_append_left (by simpa using c2), List.getElem?_map, e1]
      rfl
  · rw [List.getElem?_append_right (by simpa using c)] at q
    have := List.mem_of_getElem? q
    rw [List.mem_replicate] at this
    cases this.2
section
variable {P : Program} {w : World} {K : PySem.W.Frag} {mg : Str → Option Value} {base : Heap}
theorem fi_x {G : GE} {x xo qual : Str} {st : Stmt} {f : Addr} {fd : FuncData} {N ps : List Str} {k n : Nat} {mu : List (Nat × Nat)} {T : DTS} {sp : DSp} {kws : List ((Nat × List Str) × List Nat)} (F : Fun K xo qual st f fd) (gl : mg x = some (.ref f)) (bs : Binds K fd ps [])
    (S : FnScope N ps (defScope st)) (g : GOk G P w K mg base k) (h : cSs G n ⟨N, defScope st, true, true, mu⟩ (defBody st) = some T)
    (V : ∀ ds m Q E, ds.length = ps.length → sp ds m Q E → T (fun cls d _ m' => E cls d m') (bodyEnds Q) (startD N ds) m) (kw : ∀ np ks pm, kws.lookup (np, ks) = some pm → KwOk fd ps np ks pm) : FIx P w K mg base (k + 1) x ⟨ps, sp, kws⟩ f fd := by
  suffices ok : FnOk P w K mg base (L2.CX P w) (k + 1) f fd ps (liftSp K mg ps.length sp) from ⟨gl, F.kp, bs, ok, kw⟩
  refine F.okX S (fun vs H Q E ⟨ds, m, P1, PE, hl, r, _⟩ => by rw [r.len]; exact hl) fun cdv A outer s H vs Q E hr ⟨ds, m, P1, PE, hl, r, hm, t, q, qe⟩ => ?_
  have X : Cx := cxOf (L2.CX P w) P w K mg base N qual (defScope st) f cdv A outer s H E
  have ft : Fit G k ⟨N, defScope st, true, true, mu⟩ (cxOf (L2.CX P w) P w K mg base N qual (defScope st) f cdv A outer s H E) :=
    ⟨g, rfl, S.nd, rfl, fun _ => ⟨rfl, hr⟩, fun _ => ⟨fun _ => rfl, rfl, rfl⟩, by have := hr.un; show (A.deeper _).units + 140 < _; omega⟩
  have body := (alls_ok G k n).ss _ _ T h _ ft
  refine ⟨_, body.run (fun cls d _ m' => PE cls d m') H (Takes.imp (takes_of rfl rfl rfl rfl) fun c d σ H' ⟨x0, δ, m', _, h1, w⟩ => qe c d m' w H' x0 h1) (passes_of rfl), ?_⟩
  refine ⟨Ext.refl H, startD N ds, m, bodyEnds P1, ?_, hm, V ds m P1 PE hl t, ?_⟩
  · unfold start startD
    rw [r.len]
    exact r.erep _
  · refine ⟨fun δ m1 ⟨m', l, p⟩ σ H' x0 _ h1 => q _ m' p .non H' x0 rfl (h1.le l), q.forget, fun δ m1 z => (show False from z).elim, fun δ m1 z => (show False from z).elim⟩
end
/-- the law's def, from its promise over the script -/
def lawSp (sp : DSp) : PySem.W.Frag → (Str → Option Value) → Sp := fun K mg => liftSp K mg 1 sp
theorem rdl_of {K : PySem.W.Frag} {H : Hp} {a : Addr} {xs : List V} (o : Only H) (h : SqL K H a xs) : RdL K H a xs := by
  rcases h with (h | h) | h
  · rcases o a with z | ⟨_, _, z⟩ <;> (rw [h] at z; cases z)
  · exact .inl h
  · exact .inr h
theorem reps_ints {K : PySem.W.Frag} {mg : Str → Option Value} {H : Hp} : ∀ ns : List Int, Reps K mg H (ns.map D.int) (ns.map V.int)
  | [] => rfl
  | n :: ns => ⟨_, _, rfl, rfl, reps_ints ns⟩
theorem law_sp {K : PySem.W.Frag} {mg : Str → Option Value} {sp : DSp} {n : Nat} (h : ∀ ns : List Int, ns.length ≤ n → sp [.rdl (ns.map D.int)] (fun _ => none) (fun d _ => d = .bl true) (fun _ _ _ => False)) (H : Hp) (a : Addr) (ns : List Int) (hl : ns.length ≤ n) (o : Only H) (hs : SqL K H a (ns.map V.int)) :
    liftSp K mg 1 sp [.ref a] H (fun v _ => v = .bl true) fun _ _ _ => False := by
  have q : LQ K mg H (fun d _ => d = D.bl true) (fun v _ => v = V.bl true) := fun d m' e v H' x r _ => by
    have e' : d = D.bl true := e
    rw [e'] at r
    exact r
  exact ⟨[D.rdl (ns.map D.int)], fun _ => none, fun d _ => d = D.bl true, fun _ _ _ => False, rfl, ⟨_, _, rfl, ⟨a, _, rfl, rdl_of o hs, reps_ints ns⟩, rfl⟩, (fun _ _ z => nomatch z), h ns hl, q, fun _ _ _ z => absurd z id⟩
end L2.AP
set_option Elab.async false
set_option linter.all false
set_option maxRecDepth 100000
set_option maxHeartbeats 4000000
/-! AP16: what the top has written, and the end. -/
namespace L2.AP
open PySem PySem.Spec PyProof.Rows
/-- the law's promise -/
def spAll (K : PySem.W.Frag) : Sp := fun vs H Q _ => ∃ (a : Addr) (ns : List Int), vs = [.ref a] ∧ ns.length ≤ 63 ∧ RdL K H a (ns.map V.int) ∧ ∀ H', Q (.bl true) H'
section
variable {P : Program} {w : World} {K : PySem.W.Frag} {mg : Str → Option Value} {base h : Heap}
structure HasA (K : PySem.W.Frag) (mg : Str → Option Value) (g x : Str) (st : Stmt) : Prop where
  ex : ∃ f fd, Fun K x x st f fd ∧ mg g = some (.ref f)
abbrev Has (K : PySem.W.Frag) (mg : Str → Option Value) (x : Str) (st : Stmt) : Prop := HasA K mg x x st
theorem has_mk {g x : Str} {st : Stmt} {f : Addr} {oc : Value} {od an : Option Addr} {osl : Array (Option Value)} {kV doc pm cdv ct : Value} (KX : K.In h) (G : h.Ns mainGlobals mg) (a : PySem.W.nsIn K mainGlobals g = some (some (.ref f)))
    (l : K.lookup f = some ⟨oc, od, .func (PySem.W.fnOf x x (defArgs st) (defBody st) (defScope st) .none kV doc pm an cdv ct), osl⟩) (c : PySem.W.codeIn K cdv x = true) (k : PySem.W.keepIn K (.ref f) = true) : HasA K mg g x st :=
  ⟨f, _, fun_mk (st := st) l c k, PySem.W.mg_of KX G a⟩
/-- a promise that no one can ask: the ground of a recursion -/
theorem fi_no {sp : DSp} {x xo qual : Str} {st : Stmt} {f : Addr} {fd : FuncData} {ps : List Str} {k : Nat} {kws : List ((Nat × List Str) × List Nat)} (F : Fun K xo qual st f fd) (gl : mg x = some (.ref f)) (bs : Binds K fd ps [])
    (no : ∀ ds m Q E, ¬ sp ds m Q E) (kw : ∀ np ks pm, kws.lookup (np, ks) = some pm → KwOk fd ps np ks pm) : FIx P w K mg base k x ⟨ps, sp, kws⟩ f fd :=
  ⟨gl, F.kp, bs, ⟨fun vs H Q E ⟨ds, m, P1, PE, _, _, _, t, _⟩ => (no _ _ _ _ t).elim, fun A outer s H args us vs Q E _ _ _ _ ⟨ds, m, P1, PE, _, _, _, t, _⟩ => (no _ _ _ _ t).elim⟩, kw⟩
def CsOk (K : PySem.W.Frag) (mg : Str → Option Value) (x : Str) (d : D) : Prop := ∃ u v, mg x = some u ∧ RelV v u ∧ ∀ H, Rep K mg H d v
theorem cs_int {x : Str} {i : Int} {t : Tok} (KX : K.In h) (G : h.Ns mainGlobals mg) (a : PySem.W.nsIn K mainGlobals x = some (some (.int i t))) : CsOk K mg x (.int i) := ⟨_, .int i, PySem.W.mg_of KX G a, ⟨t, rfl⟩, fun _ => rfl⟩
theorem cs_str {x z : Str} {t : Tok} (KX : K.In h) (G : h.Ns mainGlobals mg) (a : PySem.W.nsIn K mainGlobals x = some (some (.str z t))) : CsOk K mg x (.str z) := ⟨_, .str z, PySem.W.mg_of KX G a, ⟨t, rfl⟩, fun _ => rfl⟩
theorem exc_mk {x : Str} {C : Addr} (KX : K.In h) (G : h.Ns mainGlobals mg) (a : PySem.W.nsIn K mainGlobals x = some (some (.ref C))) (kp : PySem.W.keepIn K (.ref C) = true)
    (ex : PySem.W.excIn K C [.type "ValueError", .type "Exception", .type "BaseException", .type "object"] "ValueError.__new__" = true) (sb : PySem.W.subIn K (.ref C) (.type "BaseException") = some true) (ty : PySem.W.typeIn K (.ref C) = some (.type "type")) : ExcOk K mg x C :=
  ⟨PySem.W.mg_of KX G a, kp, ex, sb, ty⟩
/-- an error of the class at C, a clause that names the class at S -/
theorem exm_of {C S : Addr} {b : Bool} (h1 : PySem.W.subIn K (.ref S) (.type "BaseException") = some true) (h2 : PySem.W.isClsIn K S = true) (h3 : PySem.W.typeIn K (.ref S) = some (.type "type")) (h4 : PySem.W.subIn K (.ref C) (.ref S) = some b) : PySem.W.exmOne K (.ref C) (.ref S) = some b := by
  have e2 : (PySem.W.clsIn K S).isSome = true := h2
  unfold PySem.W.exmOne PySem.W.kitCls
  simp [h1, e2, h3, h4]
/-- the program around -/
structure Env3 where
  K : PySem.W.Frag
  cons : List (Str × D)
  excs : List (Str × Addr)
  blts : List Str
def Env3.ge (e : Env3) (fs : List (Str × FI)) : GE := { K := e.K, funs := fs, cons := e.cons, excs := e.excs, blts := e.blts }
structure EnvOk (e : Env3) (mg : Str → Option Value) : Prop where
  cons : ∀ x d, e.cons.lookup x = some d → CsOk e.K mg x d
  excs : ∀ x C, e.excs.lookup x = some C → ExcOk e.K mg x C
  blts : ∀ x, e.blts.contains x = true → mg x = none
theorem lk_nil {α : Type} {p : Str → α → Prop} : ∀ x d, ([] : List (Str × α)).lookup x = some d → p x d := fun _ _ h => by cases h
theorem lk_cons {α : Type} {p : Str → α → Prop} {y : Str} {e : α} {l : List (Str × α)} (h : p y e) (r : ∀ x d, l.lookup x = some d → p x d) : ∀ x d, ((y, e) :: l).lookup x = some d → p x d := fun x d q => by
  rw [List.lookup_cons] at q
  split at q
  · rename_i c
    cases q
    rw [beq_iff_eq.mp c]
    exact h
  · exact r x d q
theorem bl_nil {p : Str → Prop} : ∀ x, ([] : List Str).contains x = true → p x := fun _ h => by cases h
theorem bl_cons {p : Str → Prop} {y : Str} {l : List Str} (h : p y) (r : ∀ x, l.contains x = true → p x) : ∀ x, (y :: l).contains x = true → p x := fun x q => by
  rw [List.contains_cons, Bool.or_eq_true] at q
  rcases q with q | q
  · rw [beq_iff_eq.mp q]; exact h
  · exact r x q
theorem gok {e : Env3} {k : Nat} {fs : List (Str × FI)} (E : EnvOk e mg) (F : ∀ x i, fs.lookup x = some i → FIOk P w e.K mg base k x i) : GOk (e.ge fs) P w e.K mg base k :=
  ⟨rfl, F, E.cons, E.excs, E.blts, fun _ _ h => by cases h⟩
def Env3.geC (e : Env3) (fs : List (Str × FI)) (cs : List (Str × CI)) : GE := { K := e.K, funs := fs, cons := e.cons, excs := e.excs, blts := e.blts, clss := cs }
theorem gokC {e : Env3} {k : Nat} {fs : List (Str × FI)} {cs : List (Str × CI)} (E : EnvOk e mg) (F : ∀ x i, fs.lookup x = some i → FIOk P w e.K mg base k x i) (C : ∀ x ci, (x, ci) ∈ cs → CIOk P w e.K mg base k x ci) : GOk (e.geC fs cs) P w e.K mg base k :=
  ⟨rfl, F, E.cons, E.excs, E.blts, C⟩
theorem kw_nil {fd : FuncData} {ps : List Str} : ∀ np ks pm, ([] : List ((Nat × List Str) × List Nat)).lookup (np, ks) = some pm → KwOk fd ps np ks pm := fun _ _ _ h => by cases h
theorem kw_one {fd : FuncData} {ps : List Str} {n : Nat} {ns : List Str} {l : List Nat} (h : KwOk fd ps n ns l) : ∀ np ks pm, [((n, ns), l)].lookup (np, ks) = some pm → KwOk fd ps np ks pm := fun np ks pm q => by
  rw [List.lookup_cons] at q
  split at q
  · rename_i c
    cases q
    have := beq_iff_eq.mp c
    cases this
    exact h
  · cases q
theorem fun_kw {x qual : Str} {st : Stmt} {f : Addr} {fd : FuncData} {ps ks : List Str} {np : Nat} {l : List Nat} (F : Fun K x qual st f fd)
    (h : ∀ (kV doc pm : Value) (an : Option Addr) (cdv ct : Value) (us ws : List Value), us.length = np → ws.length = ks.length → bindArgs (PySem.W.fnOf x qual (defArgs st) (defBody st) (defScope st) .none kV doc pm an cdv ct) ⟨us, ks.zip ws⟩ = pure (ps.zip (perm l (us ++ ws)))) : KwOk fd ps np ks l := by
  obtain ⟨oc, od, kV, doc, pm, an, cdv, ct, osl, rfl, lk, hcd⟩ := F.ex
  exact fun s us ws h1 h2 => .of_eq (h kV doc pm an cdv ct us ws h1 h2)
theorem FnOk.weak {CX : CXT} {k : Nat} {f : Addr} {fd : FuncData} {ps : List Str} {sp sp' : Sp} (F : FnOk P w K mg base CX k f fd ps sp) (i : ∀ vs H Q E, sp' vs H Q E → sp vs H Q E) : FnOk P w K mg base CX k f fd ps sp' :=
  ⟨fun vs H Q E q => F.len vs H Q E (i vs H Q E q), fun A outer s H args us vs Q E hr e0 hb r q => F.run A outer s H args us vs Q E hr e0 hb r (i vs H Q E q)⟩
theorem law_ok {sp : DSp} {k : Nat} {f : Addr} {fd : FuncData} {kws : List ((Nat × List Str) × List Nat)} (F : FIx P w K mg base k "law" ⟨["script"], sp, kws⟩ f fd) (h : ∀ (ns : List Int) (Q : DQ) (E : DXK), ns.length ≤ 63 → (∀ m', Q (.bl true) m') → sp [.rdl (ns.map D.int)] (fun _ => none) Q E) :
    FnOk P w K mg base (L2.CX P w) k f fd ["script"] (spAll K) :=
  FnOk.weak F.ok fun vs H Q E ⟨a, ns, e, hl, hr, q⟩ => by
    subst e
    refine ⟨[D.rdl (ns.map D.int)], fun _ => none, fun d _ => d = D.bl true, fun _ _ _ => False, rfl, ⟨_, _, rfl, ⟨a, _, rfl, hr, reps_ints ns⟩, rfl⟩, (fun _ _ z => nomatch z), h ns _ _ hl (fun _ => rfl), ?_, fun _ _ _ z => absurd z id⟩
    intro d m' e v H' x r _
    have e : d = D.bl true := e
    rw [e] at r
    have r : v = .bl true := r
    rw [r]
    exact q H'
end
end L2.AP
set_option Elab.async false
set_option linter.all false
set_option maxRecDepth 100000
set_option maxHeartbeats 4000000
/-! V1: from readings to plain conditions. -/
namespace L2.AP
open PySem PySem.Spec PyProof.Rows
/-- the readings unfolded: rows of equations for simp -/
theorem S : (∀ (W : DW) (δ : Dl) (m : AH) (Q : DQ) i, dVar i W δ m Q = ∃ d, δ[i]? = some (some d) ∧ Q d m) ∧
    (∀ (W : DW) (δ : Dl) (m : AH) (Q : DQ) d, dC d W δ m Q = Q d m) ∧
    (∀ (W : DW) (δ : Dl) (m : AH) (Q : DQ) r ta tb, dOp r ta tb W δ m Q = ta W δ m fun d m1 => tb W δ m1 fun e m2 => r d e m2 Q) ∧
    (∀ (W : DW) (δ : Dl) (m : AH) (Q : DQ) r ta, dUn r ta W δ m Q = ta W δ m fun d m1 => r d m1 Q) ∧
    (∀ (W : DW) (δ : Dl) (m : AH) (QT : Bool → AH → Prop) t, dTest t W δ m QT = t W δ m fun d m' => ∃ b, d = .bl b ∧ QT b m') ∧
    (∀ (W : DW) (δ : Dl) (m : AH) (Q : DQ) r r' ta tb tc, dChain r r' ta tb tc W δ m Q = ta W δ m fun x m1 => tb W δ m1 fun y m2 => r x y m2 fun z m3 => ∃ k, z = .bl k ∧ if k = true then tc W δ m3 fun w m4 => r' y w m4 Q else Q (.bl false) m3) ∧
    (∀ (W : DW) (δ : Dl) (m : AH) (QT : Bool → AH → Prop) t u, dAndT t u W δ m QT = t W δ m fun k m1 => if k = true then u W δ m1 QT else QT false m1) ∧
    (∀ (W : DW) (δ : Dl) (m : AH) (QT : Bool → AH → Prop) t u, dOrT t u W δ m QT = t W δ m fun k m1 => if k = true then QT true m1 else u W δ m1 QT) ∧
    (∀ (W : DW) (δ : Dl) (m : AH) (QT : Bool → AH → Prop) t, dNotT t W δ m QT = t W δ m fun k m1 => QT (!k) m1) ∧
    (∀ (W : DW) (δ : Dl) (m : AH) (Q : DQ) ta tb, dAnd ta tb W δ m Q = ta W δ m fun d m1 => ∃ k, d = .bl k ∧ if k = true then tb W δ m1 Q else Q (.bl false) m1) ∧
    (∀ (W : DW) (δ : Dl) (m : AH) (Q : DQ) ta tb, dOr ta tb W δ m Q = ta W δ m fun d m1 => ∃ k, d = .bl k ∧ if k = true then Q (.bl true) m1 else tb W δ m1 Q) ∧
    (∀ (W : DW) (δ : Dl) (m : AH) (Q : DQ) ta, dNot ta W δ m Q = ta W δ m fun d m1 => ∃ k, d = .bl k ∧ Q (.bl (!k)) m1) ∧
    (∀ (W : DW) (δ : Dl) (m : AH) (Q : DQ) t ta tb, dIf t ta tb W δ m Q = t W δ m fun k m1 => if k = true then ta W δ m1 Q else tb W δ m1 Q) ∧
    (∀ (W : DW) (δ : Dl) (m : AH) (QA : List D → AH → Prop), dNil W δ m QA = QA [] m) ∧
    (∀ (W : DW) (δ : Dl) (m : AH) (QA : List D → AH → Prop) ta tr, dCons ta tr W δ m QA = ta W δ m fun d m1 => tr W δ m1 fun ds m2 => QA (d :: ds) m2) ∧
    (∀ (W : DW) (δ : Dl) (m : AH) (Q : DQ) tr, dTup tr W δ m Q = tr W δ m fun ds m1 => ds.length ≤ sizeLine ∧ Q (.tup ds) m1) ∧
    (∀ (W : DW) (δ : Dl) (m : AH) (Q : DQ) tr, dLst false tr W δ m Q = tr W δ m fun ds m1 => ds.length ≤ sizeLine ∧ Q (.lst ds) m1) ∧
    (∀ (W : DW) (δ : Dl) (m : AH) (Q : DQ) tr, dLst true tr W δ m Q = tr W δ m fun ds m1 => ds.length ≤ sizeLine ∧ ∀ p, m1 p = none → Q (.ref p) (put m1 p (.lst ds))) ∧
    (∀ (W : DW) (δ : Dl) (m : AH) (Q : DQ) r t, dCall r t W δ m Q = t W δ m fun ds m1 => r ds m1 Q) ∧
    (∀ (W : DW) (δ : Dl) (m : AH) (Q : DQ) mu t tl th, dSl mu t tl th W δ m Q = t W δ m fun d m1 => tl W δ m1 fun lo m2 => th W δ m2 fun hi m3 => slR mu d lo hi m3 Q) ∧
    (∀ (W : DW) (δ : Dl) (m : AH) (QO : Option Int → AH → Prop), dNoPart W δ m QO = QO none m) ∧
    (∀ (W : DW) (δ : Dl) (m : AH) (QO : Option Int → AH → Prop) t, dPart t W δ m QO = t W δ m fun d m1 => ∃ i, d = .int i ∧ QO (some i) m1) ∧
    (∀ (W : DW) (δ : Dl) (m : AH) (Q : DQ) z t, dRevG z t W δ m Q = t W δ m fun d m1 => (∃ xs, d = .tup xs ∧ Q (.tup (revC z xs)) m1) ∨ ∃ xs, asL m1 d = some xs ∧ Q (.lst (revC z xs)) m1) ∧
    (∀ (W : DW) (δ : Dl) (m : AH) (Q : DQ) r to t, dBM r to t W δ m Q = to W δ m fun d m1 => (∃ xs, asL m1 d = some xs) ∧ t W δ m1 fun ds m2 => r d ds m2 Q) ∧
    (∀ (W : DW) (δ : Dl) (m : AH) (Q : DQ) ta, dLenSet ta W δ m Q = ta W δ m fun d m1 => LenSetT d m1 Q ∨ LenSetN d m1 Q) ∧
    (∀ (W : DW) (δ : Dl) (m : AH) (Q : DQ) n sp t, dCallF n sp t W δ m Q = t W δ m fun ds m1 => ds.length = n ∧ sp ds m1 Q fun cls d m' => W cls d δ m') ∧
    (∀ (W : DW) (δ : Dl) (m : AH) (Q : DQ) n np nk sp p t tk, dCallK n np nk sp p t tk W δ m Q = t W δ m fun ds m1 => tk W δ m1 fun es m2 => ds.length = np ∧ es.length = nk ∧ (perm p (ds ++ es)).length = n ∧ sp (perm p (ds ++ es)) m2 Q fun cls d m' => W cls d δ m') ∧
    (∀ (W : DW) (δ : Dl) (m : AH) (QT : Bool → AH → Prop) t, dTruth t W δ m QT = t W δ m fun d m' => (∃ k, truth m' d = some k ∧ QT k m') ∨ ∃ x, d = .str x ∧ x.length ≤ sizeLine ∧ QT ((x.length : Int) != 0) m') ∧
    (∀ (W : DW) (δ : Dl) (m : AH) (QT : Bool → AH → Prop), dYes W δ m QT = QT true m) :=
  ⟨by intros; first | rfl | simp [dLst], by intros; first | rfl | simp [dLst], by intros; first | rfl | simp [dLst], by intros; first | rfl | simp [dLst], by intros; first | rfl | simp [dLst], by intros; first | rfl | simp [dLst], by intros; first | rfl | simp [dLst], by intros; first | rfl | simp [dLst], by intros; first | rfl | simp [dLst], by intros; first | rfl | simp [dLst], by intros; first | rfl | simp [dLst], by intros; first | rfl | simp [dLst], by intros; first | rfl | simp [dLst], by intros; first | rfl | simp [dLst], by intros; first | rfl | simp [dLst], by intros; first | rfl | simp [dLst], by intros; first | rfl | simp [dLst], by intros; first | rfl | simp [dLst], by intros; first | rfl | simp [dLst], by intros; first | rfl | simp [dLst], by intros; first | rfl | simp [dLst], by intros; first | rfl | simp [dLst], by intros; first | rfl | simp [dLst], by intros; first | rfl | simp [dLst], by intros; first | rfl | simp [dLst], by intros; first | rfl | simp [dLst], by intros; first | rfl | simp [dLst], by intros; first | rfl | simp [dLst], by intros; first | rfl | simp [dLst]⟩
theorem SS' : (∀ (W : DW) (E : DEnds) (δ : Dl) (m : AH), dNext W E δ m = E.nx δ m) ∧
    (∀ (W : DW) (E : DEnds) (δ : Dl) (m : AH), dBreak W E δ m = E.bk δ m) ∧
    (∀ (W : DW) (E : DEnds) (δ : Dl) (m : AH), dCont W E δ m = E.ct δ m) ∧
    (∀ (W : DW) (E : DEnds) (δ : Dl) (m : AH) t u, dSeq t u W E δ m = t W { E with nx := fun δ' m' => u W E δ' m' } δ m) ∧
    (∀ (W : DW) (E : DEnds) (δ : Dl) (m : AH) t, dDrop t W E δ m = t W δ m fun _ m1 => E.nx δ m1) ∧
    (∀ (W : DW) (E : DEnds) (δ : Dl) (m : AH) te, dRet te W E δ m = te W δ m E.rt) ∧
    (∀ (W : DW) (E : DEnds) (δ : Dl) (m : AH), dRetN W E δ m = E.rt .non m) ∧
    (∀ (W : DW) (E : DEnds) (δ : Dl) (m : AH) c t u, dIfS c t u W E δ m = c W δ m fun k m1 => if k = true then t W E δ m1 else u W E δ m1) ∧
    (∀ (W : DW) (δ : Dl) (m : AH) (QG : Dl → AH → Prop) i d, dgName i W d δ m QG = QG (δ.set i (some d)) m) ∧
    (∀ (W : DW) (δ : Dl) (m : AH) (QG : Dl → AH → Prop) ds, dgNil W ds δ m QG = (ds = [] ∧ QG δ m)) ∧
    (∀ (W : DW) (δ : Dl) (m : AH) (QG : Dl → AH → Prop) t u d r, dgCons t u W (d :: r) δ m QG = t W d δ m fun δ' m' => u W r δ' m' QG) ∧
    (∀ (W : DW) (δ : Dl) (m : AH) (QG : Dl → AH → Prop) n t ds, dgTup n t W (.tup ds) δ m QG = (ds.length = n ∧ t W ds δ m QG)) ∧
    (∀ (W : DW) (δ : Dl) (m : AH) (QG : Dl → AH → Prop) to ti d, dgSub to ti W d δ m QG = to W δ m fun o m1 => ti W δ m1 fun i m2 => setR o i d m2 fun m3 => QG δ m3) ∧
    (∀ (W : DW) (E : DEnds) (δ : Dl) (m : AH) te g, dAsg te g W E δ m = te W δ m fun d m1 => g W d δ m1 E.nx) ∧
    (∀ (W : DW) (E : DEnds) (δ : Dl) (m : AH) i j t, dPar i j t W E δ m = t W δ m fun ds m1 => match ds with | [x, y] => E.nx ((δ.set i (some x)).set j (some y)) m1 | _ => False) ∧
    (∀ (W : DW) (E : DEnds) (δ : Dl) (m : AH) i te f, dAug i te f W E δ m = ∃ x, δ[i]? = some (some (.int x)) ∧ te W δ m fun d m1 => ∃ y, d = .int y ∧ E.nx (δ.set i (some (.int (f x y)))) m1) ∧
    (∀ (W : DW) (E : DEnds) (δ : Dl) (m : AH) C, dRaise C W E δ m = W (.ref C) none δ m) ∧
    (∀ (W : DW) (E : DEnds) (δ : Dl) (m : AH) K tb hs, dTry K tb hs W E δ m = tb (dWish K W E hs) E δ m) ∧
    (∀ (W : DW) (δ : Dl) (m : AH) (QI : DIt → AH → Prop) te, diAny te W δ m QI = te W δ m fun d m1 => (∃ xs, itOf d m1 = some xs) ∧ QI (itOf d) m1) ∧
    (∀ (W : DW) (δ : Dl) (m : AH) (QI : DIt → AH → Prop) t, diRange1 t W δ m QI = t W δ m fun ds m1 => ∃ j, ds = [.int j] ∧ Small62 j ∧ QI (fun _ => some (rng 0 1 j.toNat)) m1) :=
  ⟨by intros; first | rfl | simp [dLst], by intros; first | rfl | simp [dLst], by intros; first | rfl | simp [dLst], by intros; first | rfl | simp [dLst], by intros; first | rfl | simp [dLst], by intros; first | rfl | simp [dLst], by intros; first | rfl | simp [dLst], by intros; first | rfl | simp [dLst], by intros; first | rfl | simp [dLst], by intros; first | rfl | simp [dLst], by intros; first | rfl | simp [dLst], by intros; first | rfl | simp [dLst], by intros; first | rfl | simp [dLst], by intros; first | rfl | simp [dLst], by intros; first | rfl | simp [dLst], by intros; first | rfl | simp [dLst], by intros; first | rfl | simp [dLst], by intros; first | rfl | simp [dLst], by intros; first | rfl | simp [dLst], by intros; first | rfl | simp [dLst]⟩
/-! ### the defs -/
def gd1 (x : Str) : Bool := PyData.strOk x && decide (x.length ≤ 1000)
mutual
/-- good data -/
def gd : D → Bool
  | .non => true
  | .bl _ => true
  | .int _ => true
  | .str x => gd1 x
  | .tup xs => gds xs
  | .lst xs => gds xs
  | _ => false
def gds : List D → Bool
  | [] => true
  | d :: ds => gd d && gds ds
end
mutual
theorem gd_lay : ∀ d : D, gd d = true → lay d = true
  | .non, _ => rfl
  | .bl _, _ => rfl
  | .int _, _ => rfl
  | .str x, h => by simp [gd, gd1] at h; simp [lay, h]
  | .ref _, h => by simp [gd] at h
  | .ty _, h => by simp [gd] at h
  | .fn _, h => by simp [gd] at h
  | .rdl _, h => by simp [gd] at h
  | .tup xs, h => by simp [gd] at h; simp [lay, gds_lays xs h]
  | .lst xs, h => by simp [gd] at h; simp [lay, gds_lays xs h]
theorem gds_lays : ∀ ds : List D, gds ds = true → lays ds = true
  | [], _ => rfl
  | d :: ds, h => by simp [gds] at h; simp [lays, gd_lay d h.1, gds_lays ds h.2]
end
theorem gds_mem {ds : List D} (h : gds ds = true) : ∀ d ∈ ds, gd d = true := by
  induction ds with
  | nil => intro d hd; cases hd
  | cons x r ih =>
    simp [gds] at h
    intro d hd
    rcases List.mem_cons.mp hd with rfl | hd
    · exact h.1
    · exact ih h.2 d hd
theorem gds_of {ds : List D} (h : ∀ d ∈ ds, gd d = true) : gds ds = true := by
  induction ds with
  | nil => rfl
  | cons x r ih => simp [gds, h x List.mem_cons_self, ih fun d hd => h d (List.mem_cons_of_mem _ hd)]
def kd0 : D → Kd
  | .int _ => .int | .bl _ => .bool | .str _ => .str | .non => .none | .tup _ => .tuple | _ => .list
theorem kd_gd {d : D} {m : AH} (h : gd d = true) : kd m d = some (kd0 d) := by
  cases d <;> first | rfl | (simp [gd] at h)
/-- what single values are -/
theorem VL : (∀ m, val m .non = .non) ∧ (∀ m b, val m (.bl b) = .bl b) ∧ (∀ m i, val m (.int i) = .int i) ∧ (∀ m x, val m (.str x) = .str x) ∧ (∀ m x, val m (.tup x) = .tup x) ∧ (∀ m x, val m (.lst x) = .lst x) ∧
    (∀ m, truth m .non = some false) ∧ (∀ m b, truth m (.bl b) = some b) ∧ (∀ m i, truth m (.int i) = some (i != 0)) ∧ (∀ m x, truth m (.tup x) = some (!x.isEmpty)) ∧ (∀ m x, truth m (.lst x) = some (!x.isEmpty)) ∧ (∀ m x, truth m (.str x) = none) ∧
    (∀ m x, asL m (.lst x) = some x) ∧ (∀ m x, asQ m (.lst x) = some x) ∧ (∀ m x, asQ m (.tup x) = some x) ∧ (∀ m x, asQ m (.rdl x) = some x) ∧ (∀ m x, itOf (.tup x) m = some x) ∧ (∀ m x, itOf (.lst x) m = some x) ∧ (∀ m x, itOf (.rdl x) m = some x) ∧ (∀ m x, itOf (.str x) m = some (signs x)) ∧
    (lay .non = true) ∧ (∀ b, lay (.bl b) = true) ∧ (∀ i, lay (.int i) = true) ∧ (∀ x, lay (.tup x) = lays x) ∧ (∀ x, lay (.lst x) = lays x) ∧ (∀ x, lay (.str x) = PyData.strOk x) ∧ (lays [] = true) ∧ (∀ d r, lays (d :: r) = (lay d && lays r)) ∧
    (dep .non = 0) ∧ (∀ b, dep (.bl b) = 0) ∧ (∀ i, dep (.int i) = 0) ∧ (∀ x, dep (.str x) = 0) ∧ (∀ x, dep (.tup x) = deps x + 1) ∧ (∀ x, dep (.lst x) = deps x + 1) ∧ (deps [] = 0) ∧ (∀ d r, deps (d :: r) = max (dep d) (deps r)) :=
  ⟨by intros; rfl, by intros; rfl, by intros; rfl, by intros; rfl, by intros; rfl, by intros; rfl, by intros; rfl, by intros; rfl, by intros; rfl, by intros; rfl, by intros; rfl, by intros; rfl, by intros; rfl, by intros; rfl, by intros; rfl, by intros; rfl, by intros; rfl, by intros; rfl, by intros; rfl, by intros; rfl,
   by simp [lay], by intros; simp [lay], by intros; simp [lay], by intros; simp [lay], by intros; simp [lay], by intros; simp [lay], by simp [lays], by intros; simp [lays], by simp [dep], by intros; simp [dep], by intros; simp [dep], by intros; simp [dep], by intros; simp [dep], by intros; simp [dep], by simp [deps], by intros; simp [deps]⟩
/-! ### loops -/
def lcBody (mu : Bool) (g : DTG) (tt : DTT) (te : DTE) (vs : List Nat) (δ : Dl) (Q : DQ) (it : DIt) (m1 : AH) : Prop := ∀ p, m1 p = none → ∃ I : Nat → Nat → List D → AH → Prop, (∃ k, I 0 k [] (put m1 p (.lst []))) ∧
  ∀ i k acc m, I i k acc m → m p = some (.lst acc) ∧ ∃ xs, it m = some xs ∧ match xs[i]? with
    | none => lcEnd mu p acc m Q
    | some x => g WF x (wipeD δ vs) m fun δ2 m2 => tt WF δ2 m2 fun b m3 =>
      if b = true then te WF δ2 m3 fun d m4 => m4 p = some (.lst acc) ∧ acc.length < sizeLine ∧ ∃ k' m5, k' < k ∧ Le m5 (put m4 p (.lst (acc ++ [d]))) ∧ I (i + 1) k' (acc ++ [d]) m5
      else ∃ k' m5, k' < k ∧ Le m5 m3 ∧ I (i + 1) k' acc m5
def forBody (g : DTG) (tb : DTS) (W : DW) (E : DEnds) (it : DIt) (δ : Dl) (m : AH) : Prop := ∃ I : Nat → Nat → Dl → AH → Prop, (∃ k, I 0 k δ m) ∧ ∀ i k δ m, I i k δ m → ∃ xs, it m = some xs ∧
  match xs[i]? with
  | none => E.nx δ m
  | some x => g W x δ m fun δ2 m2 => tb W { E with nx := fun δ' m' => ∃ k' δ3 m3, k' < k ∧ LeL δ3 δ' ∧ Le m3 m' ∧ I (i + 1) k' δ3 m3, ct := fun δ' m' => ∃ k' δ3 m3, k' < k ∧ LeL δ3 δ' ∧ Le m3 m' ∧ I (i + 1) k' δ3 m3, bk := E.nx } δ2 m2
theorem SL : (∀ mu ti g tt te vs W δ m Q, dLc mu ti g tt te vs W δ m Q = ti W δ m fun it m1 => lcBody mu g tt te vs δ Q it m1) ∧ (∀ ti g tb W E δ m, dFor ti g tb W E δ m = ti W δ m fun it m1 => forBody g tb W E it δ m1) :=
  ⟨by intros; rfl, by intros; rfl⟩
theorem lc_fm {g : DTG} {tt : DTT} {te : DTE} {vs : List Nat} {δ : Dl} {Q : DQ} {it : DIt} {m1 : AH} (xs : List D) (f : D → Option D) (hx : ∀ m2, Le m1 m2 → it m2 = some xs) (hl : xs.length ≤ sizeLine)
    (hb : ∀ x ∈ xs, ∀ (m2 : AH) (C : DQ) (N : AH → Prop), Le m1 m2 → (∀ y, f x = some y → C y m2) → (f x = none → N m2) → g WF x (wipeD δ vs) m2 fun δ2 m3 => tt WF δ2 m3 fun b m4 => if b = true then te WF δ2 m4 C else N m4)
    (q : Q (.lst (xs.filterMap f)) m1) : lcBody false g tt te vs δ Q it m1 := by
  intro p hp
  refine ⟨fun i k acc m => i + k = xs.length ∧ acc = (xs.take i).filterMap f ∧ m = put m1 p (.lst acc), ⟨xs.length, by omega, rfl, rfl⟩, fun i k acc m ⟨h1, h2, h3⟩ => ?_⟩
  subst h3
  refine ⟨put_same, xs, hx _ (Le.new hp), ?_⟩
  cases e : xs[i]? with
  | none =>
    have hi := List.getElem?_eq_none_iff.mp e
    rw [List.take_of_length_le hi] at h2
    subst h2
    unfold lcEnd
    rw [if_neg Bool.false_ne_true]
    exact ⟨m1, Le.new hp, hp, q⟩
  | some x =>
    have hi := (List.getElem?_eq_some_iff.mp e).1
    have et : (xs.take (i + 1)).filterMap f = (xs.take i).filterMap f ++ (match f x with | some y => [y] | none => []) := by
      rw [List.take_succ, e, List.filterMap_append]
      cases fx : f x <;> simp [fx]
    have len : acc.length < sizeLine := by
      have h4 : acc.length ≤ (xs.take i).length := by rw [h2]; exact List.length_filterMap_le f _
      rw [List.length_take] at h4
      omega
    refine hb x (List.mem_of_getElem? e) _ _ _ (Le.new hp) (fun y fy => ⟨put_same, len, k - 1, put m1 p (.lst (acc ++ [y])), by omega, ?_, by omega, ?_, rfl⟩) (fun fn => ⟨k - 1, _, by omega, Le.refl _, by omega, ?_, rfl⟩)
    · rw [put_put]; exact Le.refl _
    · rw [et, fy, h2]
    · rw [et, fn, h2, List.append_nil]
theorem lc_map {g : DTG} {te : DTE} {vs : List Nat} {δ : Dl} {Q : DQ} {it : DIt} {m1 : AH} (xs : List D) (f : D → D) (hx : ∀ m2, Le m1 m2 → it m2 = some xs) (hl : xs.length ≤ sizeLine)
    (hb : ∀ x ∈ xs, ∀ (m2 : AH) (C : DQ), Le m1 m2 → C (f x) m2 → g WF x (wipeD δ vs) m2 fun δ2 m3 => te WF δ2 m3 C)
    (q : Q (.lst (xs.map f)) m1) : lcBody false g dYes te vs δ Q it m1 :=
  lc_fm xs (fun x => some (f x)) hx hl (fun x h m2 C N l c _ => by
    have := hb x h m2 C l (c _ rfl)
    simpa [S] using this) (by rw [List.filterMap_eq_map']; exact q)
/-- behind a turn -/
def fN (xs : List D) (J : Nat → Dl → AH → Prop) (i k : Nat) (δ : Dl) (m : AH) : Prop := ∃ k' δ3 m3, k' < k ∧ LeL δ3 δ ∧ Le m3 m ∧ (i + 1 + k' = xs.length ∧ J (i + 1) δ3 m3)
theorem fN_intro {xs : List D} {J : Nat → Dl → AH → Prop} {i k : Nat} {δ : Dl} {m : AH} (h : i + k = xs.length) (hi : i < xs.length) (j : J (i + 1) δ m) : fN xs J i k δ m := ⟨k - 1, δ, m, by omega, LeL.refl _, Le.refl _, by omega, j⟩
theorem fN_le {xs : List D} {J : Nat → Dl → AH → Prop} {i k : Nat} {δ δ' : Dl} {m m' : AH} (h : i + k = xs.length) (hi : i < xs.length) (l : LeL δ' δ) (l2 : Le m' m) (j : J (i + 1) δ' m') : fN xs J i k δ m := ⟨k - 1, δ', m', by omega, l, l2, by omega, j⟩
theorem for_fix {g : DTG} {tb : DTS} {W : DW} {E : DEnds} {it : DIt} {δ : Dl} {m : AH} (xs : List D) (J : Nat → Dl → AH → Prop) (hx : ∀ i δ m2, J i δ m2 → it m2 = some xs) (h0 : J 0 δ m)
    (hb : ∀ i k x δ m, xs[i]? = some x → i + k = xs.length → i < xs.length → J i δ m → g W x δ m fun δ2 m2 => tb W { E with nx := fN xs J i k, ct := fN xs J i k, bk := E.nx } δ2 m2)
    (he : ∀ δ m, J xs.length δ m → E.nx δ m) : forBody g tb W E it δ m := by
  refine ⟨fun i k δ m => i + k = xs.length ∧ J i δ m, ⟨xs.length, by omega, h0⟩, fun i k δ m ⟨h1, h2⟩ => ⟨xs, hx _ _ _ h2, ?_⟩⟩
  cases e : xs[i]? with
  | none =>
    have hi := List.getElem?_eq_none_iff.mp e
    have : i = xs.length := by omega
    subst this
    exact he _ _ h2
  | some x => exact hb i k x δ m e h1 (List.getElem?_eq_some_iff.mp e).1 h2
def isIntB : D → Bool
  | .int _ => true
  | _ => false
def sp_is_int : DSp := fun ds m Q _ => match ds with
  | [d] => gd d = true ∧ Q (.bl (isIntB d)) m
  | _ => False
/-- is_int(thing): slots 0 thing -/
def t_is_int : DTS :=
  dRet (dAnd (dCall (isiR .int) (dCons (dVar 0) (dCons (dC (.ty (Kd.name .int))) dNil))) (dNot (dCall (isiR .bool) (dCons (dVar 0) (dCons (dC (.ty (Kd.name .bool))) dNil)))))
theorem v_is_int {W : DW} {E : DEnds} {m : AH} {d : D} (g : gd d = true) (q : E.rt (.bl (isIntB d)) m) : t_is_int W E [some d] m := by
  unfold t_is_int
  simp only [S, SS', isiR, List.getElem?_cons_zero, Option.some.injEq, exists_eq_left', kd_gd g, true_and, D.bl.injEq]
  cases d <;> simp [kd0, isKd, isIntB] at q ⊢ <;> exact q
def withinB (lo hi : Int) : D → Bool
  | .int i => decide (lo ≤ i) && decide (i ≤ hi)
  | _ => false
def sp_within : DSp := fun ds m Q _ => match ds with
  | [d, .int lo, .int hi] => gd d = true ∧ Q (.bl (withinB lo hi d)) m
  | _ => False
def t_within : DTS :=
  dRet (dAnd (dCallF 1 sp_is_int (dCons (dVar 0) dNil)) (dChain leR leR (dVar 1) (dVar 0) (dVar 2)))
theorem v_within {W : DW} {E : DEnds} {m : AH} {d : D} {lo hi : Int} (g : gd d = true) (q : E.rt (.bl (withinB lo hi d)) m) : t_within W E [some d, some (.int lo), some (.int hi)] m := by
  unfold t_within
  simp only [S, SS', sp_is_int, List.getElem?_cons_zero, List.getElem?_cons_succ, Option.some.injEq, exists_eq_left', g, true_and, D.bl.injEq, List.length_cons, List.length_nil]
  cases d <;> simp [isIntB, ordR, withinB] at q ⊢ <;> first | exact q | skip
  rename_i i
  by_cases h : lo ≤ i
  · simpa [h, Int.not_lt.mpr h] using q
  · simpa [h, Int.not_le.mp h] using q
def rowB (lo hi : Int) : D → Bool
  | .tup xs => decide (lo ≤ (xs.length : Int)) && decide ((xs.length : Int) ≤ hi)
  | _ => false
def sp_is_row : DSp := fun ds m Q _ => match ds with
  | [d, .int lo, .int hi] => gd d = true ∧ Q (.bl (rowB lo hi d)) m
  | _ => False
def t_is_row : DTS :=
  dRet (dAnd (dCall (isiR .tuple) (dCons (dVar 0) (dCons (dC (.ty (Kd.name .tuple))) dNil))) (dChain leR leR (dVar 1) (dCall lenR (dCons (dVar 0) dNil)) (dVar 2)))
theorem v_is_row {W : DW} {E : DEnds} {m : AH} {d : D} {lo hi : Int} (g : gd d = true) (q : E.rt (.bl (rowB lo hi d)) m) : t_is_row W E [some d, some (.int lo), some (.int hi)] m := by
  unfold t_is_row
  simp only [S, SS', isiR, List.getElem?_cons_zero, List.getElem?_cons_succ, Option.some.injEq, exists_eq_left', kd_gd g, true_and, D.bl.injEq, List.length_cons, List.length_nil]
  cases d <;> simp [kd0, isKd, ordR, rowB, lenR, asQ] at q ⊢ <;> first | exact q | skip
  rename_i i
  by_cases h : lo ≤ (i.length : Int)
  · simpa [h, Int.not_lt.mpr h] using q
  · simpa [h, Int.not_le.mp h] using q
end L2.AP
set_option Elab.async false
set_option linter.all false
set_option maxRecDepth 100000
set_option maxHeartbeats 4000000
/-! V2: the program's defs of names, signatures, trees. -/
namespace L2.AP
open PySem PySem.Spec PyProof.Rows
theorem atL0 {α : Type} {a : α} {r : List α} : atI (a :: r) 0 = some a := by simp [atI, ixN]
theorem atN {α : Type} {xs : List α} {i : Int} (h : 0 ≤ i) (h2 : i < xs.length) : atI xs i = xs[i.toNat]? := by
  unfold atI ixN
  simp [h, h2]
theorem atL1 {α : Type} {a b : α} {r : List α} : atI (a :: b :: r) 1 = some b := by rw [atN (by decide) (by simp; omega)]; rfl
theorem atL2 {α : Type} {a b c : α} {r : List α} : atI (a :: b :: c :: r) 2 = some c := by rw [atN (by decide) (by simp; omega)]; rfl
theorem sl0 : (1000000 : Nat) ≤ sizeLine := by unfold sizeLine; decide
def smallT : Str := "abcdefghijklmnopqrstuvwxyz"
def digT : Str := "0123456789"
def c_SMALL_LETTERS : D := .str smallT
def c_DIGITS : D := .str digT
def c_LONGEST_NAME : D := .int 10
def nameOk (x : Str) : Bool := decide (1 ≤ x.length) && decide (x.length ≤ 10) && (match x.cps.toList with | [] => false | c :: _ => decide (c ∈ smallT.cps)) && x.cps.toList.all fun c => decide (c ∈ smallT.cps) || decide (c ∈ digT.cps)
def lowB : D → Bool
  | .str x => nameOk x
  | _ => false
def sp_is_low_name : DSp := fun ds m Q _ => match ds with
  | [d] => gd d = true ∧ Q (.bl (lowB d)) m
  | _ => False
def t_is_low_name : DTS :=
  dSeq (dIfS (dOrT (dNotT (dTruth (dCall (isiR .str) (dCons (dVar 0) (dCons (dC (.ty (Kd.name .str))) dNil))))) (dOrT (dNotT (dTest (dChain leR leR (dC (.int 1)) (dCall lenR (dCons (dVar 0) dNil)) (dC c_LONGEST_NAME)))) (dTest (dOp (inR true) (dOp ixR (dVar 0) (dC (.int 0))) (dC c_SMALL_LETTERS))))) (dRet (dC (.bl false))) (dNext)) <|
  dRet (dCall allR (dCons (dLc false (diAny (dVar 0)) (dgName 1) dYes (dOr (dOp (inR false) (dVar 1) (dC c_SMALL_LETTERS)) (dOp (inR false) (dVar 1) (dC c_DIGITS))) [1]) dNil))
theorem v_is_low_name {W : DW} {E : DEnds} {m : AH} {d : D} (g : gd d = true) (q : E.rt (.bl (lowB d)) m) : t_is_low_name W E [some d, none] m := by
  unfold t_is_low_name
  simp only [S, SS', SL, isiR, List.getElem?_cons_zero, List.getElem?_cons_succ, Option.some.injEq, exists_eq_left', kd_gd g, true_and, D.bl.injEq, List.length_cons, List.length_nil, truth, false_or]
  cases d with
  | str x =>
    simp [gd, gd1] at g
    have hz : x.length ≤ sizeLine := Nat.le_trans g.2 (by unfold sizeLine; decide)
    simp [kd0, isKd, ordR, lenR, hz, c_LONGEST_NAME, ixR, asQ, asL, inR, c_SMALL_LETTERS, c_DIGITS, itOf]
    by_cases h1 : 1 ≤ x.length
    · refine .inr ⟨by omega, ?_⟩
      by_cases h2 : x.length ≤ 10
      · refine .inr ⟨by omega, ?_⟩
        cases e : x.cps.toList with
        | nil =>
          have : x.length = 0 := by unfold Str.length; rw [← Array.length_toList, e]; rfl
          omega
        | cons c r =>
          refine ⟨c, atL0, ?_⟩
          by_cases h3 : c ∈ smallT.cps
          · refine .inl ⟨h3, ?_⟩
            refine lc_map (signs x) (fun d => match d with | .str z => .bl (z.cps.toList.all fun c => decide (c ∈ smallT.cps) || decide (c ∈ digT.cps)) | _ => .non) (fun _ _ => rfl) ?_ ?_ ?_
            · unfold signs; rw [List.length_map, Array.length_toList]; exact hz
            · intro y hy m2 C _ hc
              obtain ⟨c, _, rfl⟩ := List.mem_map.mp hy
              simp [S, SS', wipeD, inR] at hc ⊢
              by_cases a1 : c ∈ smallT.cps <;> simp [a1] at hc ⊢ <;> exact hc
            · simp only [allR]
              refine ⟨x.cps.toList.map fun c => decide (c ∈ smallT.cps) || decide (c ∈ digT.cps), ?_, ?_⟩
              · unfold signs asL
                simp
              · have : lowB (.str x) = (x.cps.toList.all fun c => decide (c ∈ smallT.cps) || decide (c ∈ digT.cps)) := by
                  simp only [lowB, nameOk, e, h1, h2, h3, decide_true, Bool.true_and]
                rw [this] at q
                simpa [List.all_map, Function.comp_def] using q
          · refine .inr ⟨h3, ?_⟩
            have : lowB (.str x) = false := by simp [lowB, nameOk, e, h3]
            rw [this] at q
            exact q
      · refine .inl ⟨by omega, ?_⟩
        have : lowB (.str x) = false := by simp [lowB, nameOk, h2]
        rw [this] at q
        exact q
    · refine .inl ⟨by omega, ?_⟩
      have : lowB (.str x) = false := by simp [lowB, nameOk, h1]
      rw [this] at q
      exact q
  | _ => simp [kd0, isKd, lowB] at q ⊢ <;> exact q

def c_MOST_SYMBOLS : D := .int 12
def c_MOST_ARITY : D := .int 2
def c_MOST_DEPTH : D := .int 60
def c_MOST_SIZE : D := .int 1000
/-- an entry's parts -/
def fst : D → D
  | .tup (a :: _) => a
  | _ => .non
def snd : D → D
  | .tup (_ :: b :: _) => b
  | _ => .non
def txt : D → Str
  | .str x => x
  | _ => Str.empty
def num : D → Int
  | .int i => i
  | _ => 0
def entB (e : D) : Bool := lowB (fst e) && withinB 0 2 (snd e)
def sigB : D → Bool
  | .tup es => decide (1 ≤ es.length) && decide (es.length ≤ 12) && es.all (rowB 2 2) && es.all entB && decide ((es.map fun e => txt (fst e)).Nodup) && decide (∃ e ∈ es, num (snd e) = 0)
  | _ => false
def sp_is_signature : DSp := fun ds m Q _ => match ds with
  | [d] => gd d = true ∧ Q (.bl (sigB d)) m
  | _ => False
def t_is_signature : DTS :=
  dSeq (dIfS (dOrT (dNotT (dTruth (dCallF 3 sp_is_row (dCons (dVar 0) (dCons (dC (.int 1)) (dCons (dC c_MOST_SYMBOLS) dNil)))))) (dNotT (dTruth (dCall allR (dCons (dLc false (diAny (dVar 0)) (dgName 2) dYes (dCallF 3 sp_is_row (dCons (dVar 2) (dCons (dC (.int 2)) (dCons (dC (.int 2)) dNil)))) [2]) dNil))))) (dRet (dC (.bl false))) (dNext)) <|
  dSeq (dIfS (dNotT (dTruth (dCall allR (dCons (dLc false (diAny (dVar 0)) (dgTup 2 (dgCons (dgName 3) (dgCons (dgName 4) dgNil))) dYes (dAnd (dCallF 1 sp_is_low_name (dCons (dVar 3) dNil)) (dCallF 3 sp_within (dCons (dVar 4) (dCons (dC (.int 0)) (dCons (dC c_MOST_ARITY) dNil))))) [3, 4]) dNil)))) (dRet (dC (.bl false))) (dNext)) <|
  dSeq (dAsg (dLc false (diAny (dVar 0)) (dgTup 2 (dgCons (dgName 3) (dgCons (dgName 4) dgNil))) dYes (dVar 3) [3, 4]) (dgName 1)) <|
  dRet (dAnd (dOp eqR (dLenSet (dVar 1)) (dCall lenR (dCons (dVar 1) dNil))) (dOp eqR (dCall minR (dCons (dLc false (diAny (dVar 0)) (dgTup 2 (dgCons (dgName 3) (dgCons (dgName 4) dgNil))) dYes (dVar 4) [3, 4]) dNil)) (dC (.int 0))))
theorem row2 {e : D} (h : rowB 2 2 e = true) : ∃ a b, e = .tup [a, b] := by
  cases e with
  | tup xs =>
    simp [rowB] at h
    match xs, h with
    | [a, b], _ => exact ⟨a, b, rfl⟩
    | [], h => simp at h
    | [_], h => simp at h
    | _ :: _ :: _ :: _, h => simp at h; omega
  | _ => simp [rowB] at h
theorem low_str {d : D} (h : lowB d = true) : d = .str (txt d) := by
  cases d <;> simp [lowB] at h ⊢
  rfl
theorem within_int {lo hi : Int} {d : D} (h : withinB lo hi d = true) : d = .int (num d) ∧ lo ≤ num d ∧ num d ≤ hi := by
  cases d <;> simp [withinB] at h ⊢
  exact ⟨rfl, h⟩
theorem v_is_signature {W : DW} {E : DEnds} {m : AH} {d : D} (g : gd d = true) (q : E.rt (.bl (sigB d)) m) : t_is_signature W E [some d, none, none, none, none] m := by
  unfold t_is_signature
  simp only [S, SS', SL, sp_is_row, c_MOST_SYMBOLS, c_MOST_ARITY, List.getElem?_cons_zero, List.getElem?_cons_succ, Option.some.injEq, exists_eq_left', true_and, D.bl.injEq, List.length_cons, List.length_nil, truth, false_or, g]
  cases d with
  | tup es =>
    simp only [gd] at g
    have gm := gds_mem g
    have base : ∀ b : Bool, sigB (.tup es) = b → E.rt (.bl b) m := fun b e => by rw [← e]; exact q
    by_cases h1 : (decide (1 ≤ es.length) && decide (es.length ≤ 12)) = true
    · have h1' := h1
      simp only [Bool.and_eq_true, decide_eq_true_eq] at h1'
      obtain ⟨l1, l2⟩ := h1'
      have r1 : rowB 1 12 (.tup es) = true := by simp [rowB]; omega
      simp [r1, itOf, asQ]
      have hz : es.length ≤ sizeLine := Nat.le_trans l2 (by unfold sizeLine; decide)
      refine lc_map es (fun e => .bl (rowB 2 2 e)) (fun _ _ => rfl) hz (fun x hx m2 C _ hc => ?_) ?_
      · simp [S, SS', wipeD, sp_is_row, gm x hx]; exact hc
      · simp only [allR]
        refine ⟨es.map (rowB 2 2), by simp [asL, Function.comp_def], ?_⟩
        by_cases h2 : es.all (rowB 2 2) = true
        · have e2 : (es.map (rowB 2 2)).all id = true := by simpa [List.all_map, Function.comp_def] using h2
          rw [e2]
          have tw : ∀ e ∈ es, ∃ a b, e = .tup [a, b] := fun e he => row2 (List.all_eq_true.mp h2 e he)
          simp [S, SS', SL, itOf, asQ]
          refine lc_map es (fun e => .bl (entB e)) (fun _ _ => rfl) hz (fun x hx m2 C _ hc => ?_) ?_
          · obtain ⟨a, b, rfl⟩ := tw x hx
            have gx := gm _ hx
            simp [gd, gds] at gx
            simp [entB, fst, snd] at hc
            simp [S, SS', wipeD, sp_is_low_name, sp_within, gx]
            by_cases c : lowB a = true
            · simpa [c] using hc
            · have c' : lowB a = false := by simpa using c
              simpa [c'] using hc
          · refine ⟨es.map entB, by simp [asL, Function.comp_def], ?_⟩
            by_cases h3 : es.all entB = true
            · have ok : ∀ e ∈ es, lowB (fst e) = true ∧ withinB 0 2 (snd e) = true := fun e he => by
                have := List.all_eq_true.mp h3 e he
                simpa [entB] using this
              have e3 : ¬ false ∈ es.map entB := fun z => by
                obtain ⟨e, he, z⟩ := List.mem_map.mp z
                rw [List.all_eq_true.mp h3 e he] at z
                cases z
              refine .inr ⟨e3, ?_⟩
              refine lc_map es fst (fun _ _ => rfl) hz (fun x hx m2 C _ hc => ?_) ?_
              · obtain ⟨a, b, rfl⟩ := tw x hx
                simp [S, SS', wipeD]
                exact hc
              · simp [lenR, asQ, asL, eqR, lay, val, dep, eqD]
                refine .inl ⟨es.map fun e => txt (fst e), ?_, ?_, ?_⟩
                · rw [List.map_map]
                  exact congrArg some (List.map_congr_left fun e he => low_str (ok e he).1)
                · simp; unfold scanBound; omega
                · simp [lenR, asQ, asL, eqR, lay, val, dep, eqD]
                  have nd := met_nodup _ (es.map fun e => txt (fst e)) rfl
                  rw [List.length_map] at nd
                  by_cases h4 : (es.map fun e => txt (fst e)).Nodup
                  · have h5 := nd.mpr h4
                    simp [h5]
                    refine lc_map es snd (fun _ _ => rfl) hz (fun x hx m2 C _ hc => ?_) ?_
                    · obtain ⟨a, b, rfl⟩ := tw x hx
                      simp [S, SS', wipeD]
                      exact hc
                    · simp only [minR]
                      refine ⟨es.map fun e => num (snd e), ?_, ?_, ?_⟩
                      · simp only [asL, List.map_map]
                        exact congrArg some (List.map_congr_left fun e he => (within_int (ok e he).2).1)
                      · simp; omega
                      · intro k hk hmin
                        simp [eqR, lay, val, dep, eqD]
                        refine base _ ?_
                        obtain ⟨e, he, rfl⟩ := List.mem_map.mp hk
                        have lo := (within_int (ok e he).2).2.1
                        simp only [sigB, h2, h3, decide_eq_true l1, decide_eq_true l2, decide_eq_true h4, Bool.true_and]
                        by_cases z : num (snd e) = 0
                        · rw [decide_eq_true ⟨e, he, z⟩]; simp [z]
                        · rw [decide_eq_false]
                          · simp [z]
                          · rintro ⟨e', he', z'⟩
                            have := hmin _ (List.mem_map.mpr ⟨e', he', rfl⟩)
                            omega
                  · have h5 : ¬ (met (es.map fun e => txt (fst e))).length = es.length := fun z => h4 (nd.mp z)
                    have h6 : ¬ (((met (es.map fun e => txt (fst e))).length : Int) = (es.length : Int)) := fun z => h5 (by omega)
                    simp [h6]
                    exact base _ (by simp [sigB, h4])
            · have e3 : false ∈ es.map entB := by
                have h4 : ¬ ∀ e ∈ es, entB e = true := fun z => h3 (List.all_eq_true.mpr z)
                simp only [Classical.not_forall] at h4
                obtain ⟨e, he, z⟩ := h4
                exact List.mem_map.mpr ⟨e, he, by simpa using z⟩
              exact .inl ⟨e3, base _ (by simp only [sigB]; rw [Bool.eq_false_iff.mpr h3]; simp)⟩
        · have e2 : (es.map (rowB 2 2)).all id = false := by
            rw [List.all_map]
            simpa [Function.comp_def] using h2
          rw [e2]
          simp [S, SS']
          exact base _ (by simp only [sigB]; rw [Bool.eq_false_iff.mpr h2]; simp)
    · have r1 : rowB 1 12 (.tup es) = false := by
        simp [rowB] at h1 ⊢
        omega
      simp [r1]
      exact base _ (by simp only [sigB]; rw [Bool.eq_false_iff.mpr h1]; simp)
  | _ => simp [rowB, sigB] at q ⊢ <;> exact q
end L2.AP
set_option Elab.async false
set_option linter.all false
set_option maxRecDepth 100000
set_option maxHeartbeats 4000000
/-! V3: trees. -/
namespace L2.AP
open PySem PySem.Spec PyProof.Rows
/-- the written part and the exceptions' classes -/
structure Ex where
  K : PySem.W.Frag
  c : Str → Addr
def arity (es : List D) (f : Nat) : Int := num (snd (es.getD f .non))
mutual
def vld (es : List D) : D → Bool
  | .tup xs => vldT es xs
  | _ => false
def vldT (es : List D) : List D → Bool
  | [] => false
  | x :: cs => (match x with | .int f => decide (0 ≤ f) && decide (f < es.length) && decide ((cs.length : Int) = arity es f.toNat) | _ => false) && vlds es cs
def vlds (es : List D) : List D → Bool
  | [] => true
  | c :: cs => vld es c && vlds es cs
end
mutual
def szD : D → Nat
  | .tup xs => szT xs
  | _ => 1
def szT : List D → Nat
  | [] => 1
  | _ :: cs => 1 + szs cs
def szs : List D → Nat
  | [] => 0
  | c :: cs => szD c + szs cs
end
mutual
def dpD : D → Nat
  | .tup xs => dpT xs
  | _ => 1
def dpT : List D → Nat
  | [] => 1
  | _ :: cs => 1 + dps cs
def dps : List D → Nat
  | [] => 0
  | c :: cs => max (dpD c) (dps cs)
end
theorem sz_pos (d : D) : 1 ≤ szD d := by
  cases d <;> simp [szD]
  rename_i xs
  cases xs <;> simp [szT]
theorem dp_pos (d : D) : 1 ≤ dpD d := by
  cases d <;> simp [dpD]
  rename_i xs
  cases xs <;> simp [dpT]
def treeB (es : List D) (d : D) : Bool := vld es d && decide (szD d ≤ 1000) && decide (dpD d ≤ 60)
def pr (p : D × Int) : D := .tup [p.1, .int p.2]
def wsz (w : List (D × Int)) : Nat := (w.map fun p => szD p.1).sum
def ans (es : List D) (w : List (D × Int)) (n : Nat) : Bool := (w.all fun p => vld es p.1) && decide (n + wsz w ≤ 1000) && w.all fun p => decide (p.2 + (dpD p.1 : Int) ≤ 61)
theorem ans_snoc {es : List D} {w : List (D × Int)} {n : Nat} {d : D} {k : Int} : ans es (w ++ [(d, k)]) n = (ans es w (n + szD d) && vld es d && decide (k + (dpD d : Int) ≤ 61)) := by
  unfold ans wsz
  simp [List.all_append, List.sum_append]
  have : (n + ((List.map (fun p => szD p.1) w).sum + szD d) ≤ 1000) ↔ (n + szD d + (List.map (fun p => szD p.1) w).sum ≤ 1000) := by omega
  simp only [decide_eq_decide.mpr this]
  grind
theorem ans_app {es : List D} {k : Int} : ∀ {cs : List D} {w : List (D × Int)} {n : Nat}, ans es (w ++ cs.map fun c => (c, k)) n = true ↔ ans es w (n + szs cs) = true ∧ vlds es cs = true ∧ (cs = [] ∨ k + (dps cs : Int) ≤ 61)
  | [], w, n => by simp [szs, vlds]
  | c :: cs, w, n => by
    have ih := ans_app (cs := cs) (w := w ++ [(c, k)]) (n := n) (es := es) (k := k)
    have e : w ++ (c :: cs).map (fun c => (c, k)) = w ++ [(c, k)] ++ cs.map fun c => (c, k) := by simp
    rw [e, ih, ans_snoc]
    have e2 : n + szs (c :: cs) = n + szs cs + szD c := by rw [szs]; omega
    rw [e2]
    have e3 : (c :: cs = [] ∨ k + (dps (c :: cs) : Int) ≤ 61) ↔ (k + (dpD c : Int) ≤ 61 ∧ (cs = [] ∨ k + (dps cs : Int) ≤ 61)) := by
      rw [dps]
      cases cs with
      | nil => rw [dps]; simp
      | cons a b => simp; omega
    rw [e3, vlds]
    simp only [Bool.and_eq_true, decide_eq_true_eq]
    grind
/-- a tree's own turn -/
theorem ans_step {es : List D} {w : List (D × Int)} {n : Nat} {f : Int} {cs : List D} {k : Int} (h1 : 0 ≤ f) (h2 : f < es.length) (h3 : (cs.length : Int) = arity es f.toNat) (hk : k ≤ 60) :
    ans es (w ++ [(.tup (.int f :: cs), k)]) n = ans es (w ++ cs.map fun c => (c, k + 1)) (n + 1) := by
  rw [Bool.eq_iff_iff, ans_snoc, ans_app]
  have e1 : n + szD (.tup (.int f :: cs)) = n + 1 + szs cs := by rw [szD, szT]; omega
  have e2 : vld es (.tup (.int f :: cs)) = vlds es cs := by simp [vld, vldT, h1, h2, h3]
  have e3 : k + (dpD (.tup (.int f :: cs)) : Int) ≤ 61 ↔ (cs = [] ∨ k + 1 + (dps cs : Int) ≤ 61) := by
    rw [dpD, dpT]
    cases cs with
    | nil => rw [dps]; simp; omega
    | cons a b => simp; omega
  rw [e1, e2]
  simp only [Bool.and_eq_true, decide_eq_true_eq]
  rw [e3]
  grind
theorem ans_bad {es : List D} {w : List (D × Int)} {n : Nat} {d : D} {k : Int} (h : vld es d = false ∨ 1000 < n + 1 ∨ 60 < k) : ans es (w ++ [(d, k)]) n = false := by
  rw [ans_snoc]
  rcases h with h | h | h
  · simp [h]
  · have := sz_pos d
    have : ans es w (n + szD d) = false := by
      unfold ans
      rw [decide_eq_false (show ¬ n + szD d + wsz w ≤ 1000 by omega)]
      simp
    simp [this]
  · have := dp_pos d
    rw [decide_eq_false (show ¬ k + (dpD d : Int) ≤ 61 by omega)]
    simp

theorem sig_ent {es : List D} (h : sigB (.tup es) = true) : 1 ≤ es.length ∧ es.length ≤ 12 ∧ ∀ f, f < es.length → ∃ a, es[f]? = some (.tup [.str a, .int (arity es f)]) ∧ 0 ≤ arity es f ∧ arity es f ≤ 2 := by
  simp only [sigB, Bool.and_eq_true, decide_eq_true_eq, List.all_eq_true] at h
  obtain ⟨⟨⟨⟨⟨h1, h2⟩, h3⟩, h4⟩, _⟩, _⟩ := h
  refine ⟨h1, h2, fun f hf => ?_⟩
  have he := List.getElem_mem hf
  obtain ⟨a, b, e⟩ := row2 (h3 _ he)
  have h5 := h4 _ he
  rw [e] at h5
  simp only [entB, fst, snd, Bool.and_eq_true] at h5
  obtain ⟨w1, w2, w3⟩ := within_int h5.2
  have ea : arity es f = num b := by
    unfold arity
    rw [List.getD_eq_getElem?_getD, List.getElem?_eq_getElem hf, e]
    rfl
  rw [ea]
  exact ⟨txt a, by rw [List.getElem?_eq_getElem hf, e, low_str h5.1, ← w1]; rfl, w2, w3⟩
def sp_is_small_tree : DSp := fun ds m Q _ => match ds with
  | [.tup es, d] => sigB (.tup es) = true ∧ gds es = true ∧ gd d = true ∧ Q (.bl (treeB es d)) m
  | _ => False
def t_is_small_tree : DTS :=
  dSeq (dPar 2 3 (dCons (dLst true (dCons (dTup (dCons (dVar 1) (dCons (dC (.int 1)) dNil))) dNil)) (dCons (dC (.int 0)) dNil))) <|
  dSeq (dWhile (dTest (dOp neR (dVar 2) (dLst false dNil))) (dSeq (dAsg (dBM popR (dVar 2) dNil) (dgTup 2 (dgCons (dgName 4) (dgCons (dgName 5) dgNil)))) <|
      dSeq (dAug 3 (dC (.int 1)) fun a b => a + b) <|
      dSeq (dIfS (dOrT (dTest (dOp gtR (dVar 3) (dC c_MOST_SIZE))) (dOrT (dTest (dOp gtR (dVar 5) (dC c_MOST_DEPTH))) (dOrT (dNotT (dTruth (dCall (isiR .tuple) (dCons (dVar 4) (dCons (dC (.ty (Kd.name .tuple))) dNil))))) (dTest (dOp eqR (dVar 4) (dTup dNil)))))) (dRet (dC (.bl false))) (dNext)) <|
      dSeq (dIfS (dOrT (dNotT (dTruth (dCallF 3 sp_within (dCons (dOp ixR (dVar 4) (dC (.int 0))) (dCons (dC (.int 0)) (dCons (dOp subR (dCall lenR (dCons (dVar 0) dNil)) (dC (.int 1))) dNil)))))) (dTest (dOp neR (dCall lenR (dCons (dVar 4) dNil)) (dOp addR (dOp ixR (dOp ixR (dVar 0) (dOp ixR (dVar 4) (dC (.int 0)))) (dC (.int 1))) (dC (.int 1)))))) (dRet (dC (.bl false))) (dNext)) <|
      dDrop (dBM extendR (dVar 2) (dCons (dLc false (diAny (dSl false (dVar 4) (dPart (dC (.int 1))) dNoPart)) (dgName 6) dYes (dTup (dCons (dVar 6) (dCons (dOp addR (dVar 5) (dC (.int 1))) dNil))) [6]) dNil)))) <|
  dRet (dC (.bl true))
theorem lays_of {ds : List D} (h : ∀ d ∈ ds, lay d = true) : lays ds = true := by
  induction ds with
  | nil => rfl
  | cons x r ih => simp [lays, h x List.mem_cons_self, ih fun d hd => h d (List.mem_cons_of_mem _ hd)]
theorem eqDs_nil (xs : List D) : eqDs xs [] = xs.isEmpty := by cases xs <;> rfl
theorem cut1 {α : Type} (x : α) (xs : List α) : AP.cut (x :: xs) (some 1) none = xs := by
  unfold AP.cut
  rw [HT.sIx_none]
  have : HT.sIx (x :: xs).length 0 (some 1) = 1 := by
    rw [show (some 1 : Option Int) = some ((1 : Nat) : Int) from rfl, HT.sIx_nat]; simp
  rw [this]
  simp
theorem v_is_small_tree {W : DW} {E : DEnds} {m : AH} {es : List D} {d : D} (hs : sigB (.tup es) = true) (gs : gds es = true) (g : gd d = true) (q : ∀ m', Le m m' → E.rt (.bl (treeB es d)) m') :
    t_is_small_tree W E [some (.tup es), some d, none, none, none, none, none] m := by
  obtain ⟨s1, s2, ent⟩ := sig_ent hs
  unfold t_is_small_tree
  simp only [S, SS', List.getElem?_cons_zero, List.getElem?_cons_succ, Option.some.injEq, exists_eq_left', true_and, List.length_cons, List.length_nil]
  refine ⟨by unfold sizeLine; decide, by unfold sizeLine; decide, fun p hp => ?_⟩
  simp only [List.set]
  refine ⟨fun k δ m' => ∃ (w : List (D × Int)) (n : Nat) (a b c : Option D), m' = put m p (.lst (w.map pr)) ∧ δ = [some (.tup es), some d, some (.ref p), some (.int n), a, b, c] ∧ n + k = 1000 ∧ w.length ≤ 2 * n + 1 ∧ (∀ x ∈ w, gd x.1 = true ∧ 1 ≤ x.2) ∧ ans es w n = treeB es d,
    ⟨1000, [(d, 1)], 0, none, none, none, rfl, rfl, rfl, Nat.le_refl _, by simp [g], ?_⟩, ?_⟩
  · have e : (1 + (dpD d : Int) ≤ 61) ↔ dpD d ≤ 60 := by omega
    simp [ans, treeB, wsz, e]
  · rintro k δ m' ⟨w, n, a, b, c, rfl, rfl, hn, hl, hw, ha⟩
    have ly : lays (w.map pr) = true := lays_of fun x hx => by
      obtain ⟨y, hy, rfl⟩ := List.mem_map.mp hx
      simp [pr, lay, lays, gd_lay _ (hw y hy).1]
    simp only [S, SS', List.getElem?_cons_zero, List.getElem?_cons_succ, Option.some.injEq, exists_eq_left', true_and, List.length_cons, List.length_nil, neR, val, put_same, lay, ly, lays, eqD, eqDs_nil, dep, deps]
    refine ⟨by unfold sizeLine; decide, by omega, _, rfl, ?_⟩
    rcases List.eq_nil_or_concat w with rfl | ⟨w, ⟨t, dp⟩, rfl⟩
    · simp
      have : treeB es d = true := by rw [← ha]; unfold ans wsz; simp; omega
      rw [this] at q
      exact q _ (Le.new hp)
    · have hcon : (w.concat (t, dp)) = w ++ [(t, dp)] := by simp
      rw [hcon] at hl hw ha ly
      have bad : (vld es t = false ∨ 1000 < n + 1 ∨ 60 < dp) → E.rt (.bl false) (put m p (.lst (w.map pr))) := fun h => by
        have := ans_bad (w := w) h
        rw [← ha, this] at q
        exact q _ (Le.new hp)
      have gt : gd t = true ∧ 1 ≤ dp := hw (t, dp) (by simp)
      simp [S, SS', asL, put_same, popR]
      refine ⟨_, _, ⟨rfl, rfl⟩, ?_⟩
      simp only [pr, SS', put_put, List.length_cons, List.length_nil, true_and, List.set, List.getElem?_cons_zero, List.getElem?_cons_succ, Option.some.injEq, exists_eq_left', D.int.injEq, c_MOST_SIZE, c_MOST_DEPTH, ordR, D.bl.injEq]
      by_cases c1 : ((1000 : Int) < (n : Int) + 1)
      · simp [c1]
        exact bad (.inr (.inl (by omega)))
      by_cases c2 : 60 < dp
      · simp [c1, c2]
        exact bad (.inr (.inr c2))
      simp only [decide_eq_false c1, decide_eq_false c2, Bool.false_eq_true, if_false, isiR, true_and, kd_gd gt.1]
      cases t with
      | tup xs =>
        cases xs with
        | nil =>
          simp [kd0, isKd, VL, eqR, eqD, eqDs]
          exact bad (.inl (by simp [vld, vldT]))
        | cons x cs =>
          simp only [gd, gds, Bool.and_eq_true] at gt
          have gcs := gds_mem gt.1.2
          simp [kd0, isKd, VL, eqR, eqD, eqDs, lays, gd_lay _ gt.1.1, gds_lays _ gt.1.2, ixR, atL0, lenR, subR, sp_within, gt.1.1]
          by_cases c3 : withinB 0 ((es.length : Int) - 1) x = true
          · obtain ⟨ex, f0, f1⟩ := within_int c3
            rw [ex] at bad ha hw hl ly ⊢
            generalize num x = f at *
            have hf : f.toNat < es.length := by omega
            obtain ⟨nm, e1, a0, a2⟩ := ent f.toNat hf
            have e2 : atI es f = some (.tup [.str nm, .int (arity es f.toNat)]) := by rw [atN f0 (by omega)]; exact e1
            simp [VL, withinB, f0, f1, e2, atL1, addR, eqD]
            by_cases c4 : (cs.length : Int) = arity es f.toNat
            · refine .inl ⟨c4, ⟨_, by rw [put_same]⟩, ?_⟩
              have hcl : cs.length ≤ 2 := by omega
              simp only [List.length_append, List.length_cons, List.length_nil] at hl
              have hz : cs.length ≤ sizeLine := Nat.le_trans hcl (by unfold sizeLine; decide)
              simp only [SL, S, SS', List.getElem?_cons_zero, List.getElem?_cons_succ, Option.some.injEq, exists_eq_left', D.int.injEq, slR, cut1, VL]
              refine ⟨⟨_, rfl⟩, lc_map cs (fun c => .tup [c, .int (dp + 1)]) (fun _ _ => rfl) hz (fun x hx m2 C _ hc => ?_) ?_⟩
              · simp [S, SS', wipeD, addR]
                exact ⟨by unfold sizeLine; decide, hc⟩
              · simp only [extendR]
                refine ⟨_, _, put_same, .inl rfl, ?_, k - 1, by omega, _, LeL.refl _, _, Le.refl _, w ++ cs.map fun c => (c, dp + 1), ?_, n + 1, ⟨some (.tup (.int f :: cs)), some (.int dp), c, by simp⟩, by omega, ?_, ?_, ?_⟩
                · simp
                  have : (1000000 : Nat) ≤ sizeLine := sl0
                  omega
                · rw [put_put]
                  simp [pr, Function.comp_def]
                · simp
                  omega
                · intro a b hab
                  rcases List.mem_append.mp hab with z | z
                  · exact hw (a, b) (List.mem_append_left _ z)
                  · obtain ⟨c, hc, e⟩ := List.mem_map.mp z
                    cases e
                    exact ⟨gcs _ hc, by omega⟩
                · rw [← ha, ans_step f0 (by omega) c4 (by omega)]
            · refine .inr ⟨c4, bad (.inl ?_)⟩
              simp [vld, vldT, c4]
          · have c3' : withinB 0 ((es.length : Int) - 1) x = false := by simpa using c3
            simp [c3', VL]
            refine bad (.inl ?_)
            simp only [vld, vldT]
            cases x with
            | int f =>
              simp [withinB] at c3'
              simp
              intro h1 h2
              have := c3' h1
              omega
            | _ => simp
      | _ => 
        simp [kd0, isKd, truth, S]
        exact bad (.inl (by simp [vld]))
end L2.AP
set_option Elab.async false
set_option linter.all false
set_option maxRecDepth 100000
set_option maxHeartbeats 4000000
/-! V4: size, depth, the doors. -/
namespace L2.AP
open PySem PySem.Spec PyProof.Rows
theorem asLp {m : AH} {p : Addr} {xs : List D} : asL (put m p (.lst xs)) (.ref p) = some xs := by
  simp [asL, put_same]
theorem szs_one (d : D) : szs [d] = szD d := by rw [szs, szs]; rfl
/-! ### two sources -/
def lcBody2 (mu : Bool) (g : DTG) (ui : DTI) (gu : DTG) (te : DTE) (vs us : List Nat) (δ : Dl) (Q : DQ) (it : DIt) (m1 : AH) : Prop := ∀ p, m1 p = none → ∃ I : Nat → Nat → List D → AH → Prop, (∃ k, I 0 k [] (put m1 p (.lst []))) ∧
  ∀ i k acc m, I i k acc m → m p = some (.lst acc) ∧ ∃ xs, it m = some xs ∧ match xs[i]? with
    | none => lcEnd mu p acc m Q
    | some x => g WF x (wipeD δ vs) m fun δ2 m2 => ui WF δ2 m2 fun iu m4 => ∃ J : Nat → Nat → List D → AH → Prop, (∃ l, J 0 l acc m4) ∧ ∀ j l acc m, J j l acc m → m p = some (.lst acc) ∧ ∃ ys, iu m = some ys ∧ match ys[j]? with
        | none => ∃ k' m5, k' < k ∧ Le m5 m ∧ I (i + 1) k' acc m5
        | some y => gu WF y (wipeD δ2 us) m fun δ3 m5 => te WF δ3 m5 fun d m7 => m7 p = some (.lst acc) ∧ acc.length < sizeLine ∧ ∃ l' m8, l' < l ∧ Le m8 (put m7 p (.lst (acc ++ [d]))) ∧ J (j + 1) l' (acc ++ [d]) m8
theorem dLc2_eq (mu ti g ui gu te vs us W δ m Q) : dLc2 mu ti g dYes ui gu dYes te vs us W δ m Q = ti W δ m fun it m1 => lcBody2 mu g ui gu te vs us δ Q it m1 := by
  unfold dLc2 lcBody2 dYes
  simp only [if_true] <;> rfl
theorem lc2_flat {g : DTG} {ui : DTI} {gu : DTG} {te : DTE} {vs us : List Nat} {δ : Dl} {Q : DQ} {it : DIt} {m1 : AH} (xs : List D) (kids : D → List D) (hx : ∀ m2, it m2 = some xs) (hl : (xs.flatMap kids).length ≤ sizeLine)
    (hb : ∀ x ∈ xs, ∀ (m2 : AH) (R : DIt → Dl → AH → Prop), (∀ iu δ2, (∀ m3, iu m3 = some (kids x)) → (∀ y ∈ kids x, ∀ (m3 : AH) (C : DQ), C y m3 → gu WF y (wipeD δ2 us) m3 fun δ3 m5 => te WF δ3 m5 C) → R iu δ2 m2) →
      g WF x (wipeD δ vs) m2 fun δ2 m3 => ui WF δ2 m3 fun iu m5 => R iu δ2 m5)
    (q : Q (.lst (xs.flatMap kids)) m1) : lcBody2 false g ui gu te vs us δ Q it m1 := by
  intro p hp
  refine ⟨fun i k acc m => i + k = xs.length ∧ acc = (xs.take i).flatMap kids ∧ m = put m1 p (.lst acc), ⟨xs.length, by omega, rfl, rfl⟩, fun i k acc m ⟨h1, h2, h3⟩ => ?_⟩
  subst h3
  refine ⟨put_same, xs, hx _, ?_⟩
  cases e : xs[i]? with
  | none =>
    have hi := List.getElem?_eq_none_iff.mp e
    rw [List.take_of_length_le hi] at h2
    subst h2
    unfold lcEnd
    rw [if_neg Bool.false_ne_true]
    exact ⟨m1, Le.new hp, hp, q⟩
  | some x =>
    have hi := (List.getElem?_eq_some_iff.mp e).1
    have et : (xs.take (i + 1)).flatMap kids = acc ++ kids x := by
      rw [List.take_succ, e, List.flatMap_append, h2]
      simp
    have le : (acc ++ kids x).length ≤ sizeLine := by
      have e2 : xs.flatMap kids = (xs.take (i + 1)).flatMap kids ++ (xs.drop (i + 1)).flatMap kids := by rw [← List.flatMap_append, List.take_append_drop]
      rw [e2, List.length_append, et] at hl
      omega
    refine hb x (List.mem_of_getElem? e) _ _ fun iu δ2 hk hy => ?_
    refine ⟨fun j l a m => j + l = (kids x).length ∧ a = acc ++ (kids x).take j ∧ m = put m1 p (.lst a), ⟨(kids x).length, by omega, by simp, rfl⟩, fun j l a m ⟨g1, g2, g3⟩ => ?_⟩
    subst g3
    refine ⟨put_same, kids x, hk _, ?_⟩
    cases e3 : (kids x)[j]? with
    | none =>
      have hj := List.getElem?_eq_none_iff.mp e3
      rw [List.take_of_length_le hj] at g2
      exact ⟨k - 1, _, by omega, Le.refl _, by omega, by rw [et, g2], rfl⟩
    | some y =>
      have hj := (List.getElem?_eq_some_iff.mp e3).1
      refine hy y (List.mem_of_getElem? e3) _ _ ⟨put_same, ?_, l - 1, put m1 p (.lst (a ++ [y])), by omega, ?_, by omega, ?_, rfl⟩
      · rw [g2, List.length_append, List.length_take]
        rw [List.length_append] at le
        omega
      · rw [put_put]; exact Le.refl _
      · rw [g2, List.take_succ, e3, List.append_assoc]
        rfl
/-! ### hereditary tuples -/
def kids : D → List D
  | .tup (_ :: cs) => cs
  | _ => []
mutual
def hT : D → Bool
  | .tup xs => hTT xs
  | _ => false
def hTT : List D → Bool
  | [] => false
  | _ :: cs => hTs cs
def hTs : List D → Bool
  | [] => true
  | c :: cs => hT c && hTs cs
end
theorem hTs_mem {cs : List D} (h : hTs cs = true) : ∀ c ∈ cs, hT c = true := by
  induction cs with
  | nil => intro d hd; cases hd
  | cons x r ih =>
    simp [hTs] at h
    intro d hd
    rcases List.mem_cons.mp hd with rfl | hd
    · exact h.1
    · exact ih h.2 d hd
mutual
theorem vld_hT {es : List D} : ∀ d : D, vld es d = true → hT d = true
  | .tup xs, h => by rw [hT]; exact vldT_hT xs (by rw [vld] at h; exact h)
  | .non, h => by simp [vld] at h
  | .bl _, h => by simp [vld] at h
  | .int _, h => by simp [vld] at h
  | .str _, h => by simp [vld] at h
  | .ref _, h => by simp [vld] at h
  | .ty _, h => by simp [vld] at h
  | .fn _, h => by simp [vld] at h
  | .rdl _, h => by simp [vld] at h
  | .lst _, h => by simp [vld] at h
theorem vldT_hT {es : List D} : ∀ xs : List D, vldT es xs = true → hTT xs = true
  | [], h => by simp [vldT] at h
  | x :: cs, h => by
    rw [hTT]
    cases x with
    | int f => simp only [vldT, Bool.and_eq_true] at h; exact vlds_hT cs h.2
    | _ => simp [vldT] at h
theorem vlds_hT {es : List D} : ∀ xs : List D, vlds es xs = true → hTs xs = true
  | [], h => rfl
  | c :: cs, h => by
    rw [vlds, Bool.and_eq_true] at h
    rw [hTs, vld_hT c h.1, vlds_hT cs h.2]
    rfl
end
theorem hT_tup {d : D} (h : hT d = true) : ∃ x, d = .tup (x :: kids d) ∧ hTs (kids d) = true := by
  cases d with
  | tup xs =>
    cases xs with
    | nil => simp [hT, hTT] at h
    | cons x cs => exact ⟨x, rfl, by simpa [hT, hTT, kids] using h⟩
  | _ => simp [hT] at h
theorem sz_kids {d : D} (h : hT d = true) : szD d = 1 + szs (kids d) := by
  obtain ⟨x, e, _⟩ := hT_tup h
  rw [e, szD, szT]
  rfl
theorem dp_kids {d : D} (h : hT d = true) : dpD d = 1 + dps (kids d) := by
  obtain ⟨x, e, _⟩ := hT_tup h
  rw [e, dpD, dpT]
  rfl
theorem gd_kids {d : D} (h : gd d = true) : ∀ c ∈ kids d, gd c = true := by
  cases d with
  | tup xs =>
    cases xs with
    | nil => intro c hc; cases hc
    | cons x cs =>
      simp only [gd, gds, Bool.and_eq_true] at h
      exact gds_mem h.2
  | _ => intro c hc; cases hc
theorem szs_app (xs ys : List D) : szs (xs ++ ys) = szs xs + szs ys := by
  induction xs with
  | nil => simp [szs]
  | cons x r ih => simp [szs, ih]; omega
theorem szs_len : ∀ xs : List D, xs.length ≤ szs xs
  | [] => Nat.le_refl _
  | x :: r => by
    have := szs_len r
    have := sz_pos x
    rw [szs, List.length_cons]
    omega
theorem dps_app (xs ys : List D) : dps (xs ++ ys) = max (dps xs) (dps ys) := by
  induction xs with
  | nil => simp [dps]
  | cons x r ih =>
    rw [List.cons_append, dps, dps, ih]
    omega
theorem szs_kids : ∀ xs : List D, (∀ x ∈ xs, hT x = true) → szs xs = xs.length + szs (xs.flatMap kids)
  | [], _ => by simp [szs]
  | x :: r, h => by
    have := szs_kids r fun y hy => h y (List.mem_cons_of_mem _ hy)
    rw [List.flatMap_cons, szs_app, szs, this, sz_kids (h x List.mem_cons_self), List.length_cons]
    omega
theorem dps_kids : ∀ xs : List D, xs ≠ [] → (∀ x ∈ xs, hT x = true) → dps xs = 1 + dps (xs.flatMap kids)
  | [x], _, h => by simp [dps, dp_kids (h x List.mem_cons_self)]
  | x :: y :: r, _, h => by
    have := dps_kids (y :: r) (by simp) fun z hz => h z (List.mem_cons_of_mem _ hz)
    rw [List.flatMap_cons, dps_app, dps, this, dp_kids (h x List.mem_cons_self)]
    omega
/-! ### size_of, depth_of -/
def sp_size_of : DSp := fun ds m Q _ => match ds with
  | [d] => gd d = true ∧ hT d = true ∧ szD d ≤ 2000 ∧ Q (.int (szD d)) m
  | _ => False
def t_size_of : DTS :=
  dSeq (dPar 1 2 (dCons (dLst true (dCons (dVar 0) dNil)) (dCons (dC (.int 0)) dNil))) <|
  dSeq (dWhile (dTest (dOp neR (dVar 1) (dLst false dNil))) (dSeq (dAsg (dBM popR (dVar 1) dNil) (dgName 3)) <|
      dSeq (dAug 2 (dC (.int 1)) fun a b => a + b) <|
      dDrop (dBM extendR (dVar 1) (dCons (dSl false (dVar 3) (dPart (dC (.int 1))) dNoPart) dNil)))) <|
  dRet (dVar 2)
theorem v_size_of {W : DW} {E : DEnds} {m : AH} {d : D} (g : gd d = true) (h : hT d = true) (hz : szD d ≤ 2000) (q : ∀ m', Le m m' → E.rt (.int (szD d)) m') : t_size_of W E [some d, none, none, none] m := by
  unfold t_size_of
  simp only [S, SS', List.getElem?_cons_zero, List.getElem?_cons_succ, Option.some.injEq, exists_eq_left', true_and, List.length_cons, List.length_nil]
  refine ⟨by unfold sizeLine; decide, fun p hp => ?_⟩
  simp only [List.set]
  refine ⟨fun k δ m' => ∃ (w : List D) (n : Nat) (a : Option D), m' = put m p (.lst w) ∧ δ = [some d, some (.ref p), some (.int n), a] ∧ k = szs w ∧ n + szs w = szD d ∧ ∀ x ∈ w, gd x = true ∧ hT x = true,
    ⟨szs [d], [d], 0, none, rfl, rfl, rfl, by simp [szs], by simp [g, h]⟩, ?_⟩
  rintro k δ m' ⟨w, n, a, rfl, rfl, rfl, hn, hw⟩
  have ly : lays w = true := lays_of fun x hx => gd_lay _ (hw x hx).1
  simp only [S, SS', List.getElem?_cons_zero, List.getElem?_cons_succ, Option.some.injEq, exists_eq_left', true_and, List.length_cons, List.length_nil, neR, val, put_same, lay, ly, lays, eqD, eqDs_nil, dep, deps]
  refine ⟨by unfold sizeLine; decide, by omega, _, rfl, ?_⟩
  rcases List.eq_nil_or_concat w with rfl | ⟨w, t, rfl⟩
  · simp [szs] at hn ⊢
    rw [← hn] at q
    exact q _ (Le.new hp)
  · have hcon : w.concat t = w ++ [t] := by simp
    rw [hcon] at hn hw ly ⊢
    obtain ⟨gt, ht⟩ := hw t (by simp)
    obtain ⟨x, e, hk⟩ := hT_tup ht
    have gk := gd_kids gt
    have szt := sz_kids ht
    rw [szs_app] at hn
    simp [szs] at hn
    generalize kids t = cs at *
    subst e
    have hl1 := szs_len w
    have hl2 := szs_len cs
    rw [if_pos (by simp)]
    simp only [S, SS', asLp, List.getElem?_cons_zero, List.getElem?_cons_succ, Option.some.injEq, exists_eq_left', popR]
    refine ⟨⟨_, rfl⟩, _, _, put_same, ?_⟩
    simp only [S, SS', asLp, put_put, List.set, List.getElem?_cons_zero, List.getElem?_cons_succ, Option.some.injEq, exists_eq_left', D.int.injEq, slR, cut1, extendR]
    refine ⟨⟨_, rfl⟩, _, cs, put_same, .inr rfl, ?_, ?_⟩
    · have : (1000000 : Nat) ≤ sizeLine := sl0
      omega
    · refine ⟨szs (w ++ cs), _, _, ?_, LeL.refl _, Le.refl _, w ++ cs, n + 1, some (.tup (x :: cs)), rfl, rfl, rfl, ?_, fun y hy => ?_⟩
      · rw [szs_app, szs_app, szs_one]; omega
      · rw [szs_app]; omega
      · rcases List.mem_append.mp hy with z | z
        · exact hw y (List.mem_append_left _ z)
        · exact ⟨gk y z, hTs_mem hk y z⟩
def sp_depth_of : DSp := fun ds m Q _ => match ds with
  | [d] => gd d = true ∧ hT d = true ∧ szD d ≤ 2000 ∧ Q (.int (dpD d)) m
  | _ => False
def t_depth_of : DTS :=
  dSeq (dPar 1 2 (dCons (dLst false (dCons (dVar 0) dNil)) (dCons (dC (.int 0)) dNil))) <|
  dSeq (dWhile (dTest (dOp neR (dVar 1) (dLst false dNil))) (dSeq (dAsg (dLc2 false (diAny (dVar 1)) (dgName 3) dYes (diAny (dSl false (dVar 3) (dPart (dC (.int 1))) dNoPart)) (dgName 4) dYes (dVar 4) [3, 4] [4]) (dgName 1)) <|
      dAug 2 (dC (.int 1)) fun a b => a + b)) <|
  dRet (dVar 2)
theorem v_depth_of {W : DW} {E : DEnds} {m : AH} {d : D} (g : gd d = true) (h : hT d = true) (hz : szD d ≤ 2000) (q : E.rt (.int (dpD d)) m) : t_depth_of W E [some d, none, none, none, none] m := by
  unfold t_depth_of
  simp only [S, SS', List.getElem?_cons_zero, List.getElem?_cons_succ, Option.some.injEq, exists_eq_left', true_and, List.length_cons, List.length_nil, List.set]
  refine ⟨by unfold sizeLine; decide, ?_⟩
  refine ⟨fun k δ m' => ∃ (w : List D) (n : Nat) (a b : Option D), m' = m ∧ δ = [some d, some (.lst w), some (.int n), a, b] ∧ k = dps w ∧ n + dps w = dpD d ∧ szs w ≤ 2000 ∧ ∀ x ∈ w, gd x = true ∧ hT x = true,
    ⟨dps [d], [d], 0, none, none, rfl, rfl, rfl, by simp [dps], by rw [szs_one]; exact hz, by simp [g, h]⟩, ?_⟩
  rintro k δ m' ⟨w, n, a, b, rfl, rfl, rfl, hn, hs, hw⟩
  have ly : lays w = true := lays_of fun x hx => gd_lay _ (hw x hx).1
  simp only [S, SS', List.getElem?_cons_zero, List.getElem?_cons_succ, Option.some.injEq, exists_eq_left', true_and, List.length_cons, List.length_nil, neR, VL, ly, eqD, eqDs_nil]
  refine ⟨by unfold sizeLine; decide, by omega, _, rfl, ?_⟩
  cases w with
  | nil =>
    simp only [dps] at hn
    rw [← hn] at q
    simpa using q
  | cons t w =>
    rw [if_pos (by simp)]
    have ht : ∀ x ∈ t :: w, hT x = true := fun x hx => (hw x hx).2
    have e1 := szs_kids (t :: w) ht
    have e2 := dps_kids (t :: w) (by simp) ht
    generalize t :: w = v at *
    have l2 := szs_len (v.flatMap kids)
    have : (1000000 : Nat) ≤ sizeLine := sl0
    simp only [S, SS', dLc2_eq, List.getElem?_cons_zero, List.getElem?_cons_succ, Option.some.injEq, exists_eq_left', VL]
    refine ⟨⟨_, rfl⟩, lc2_flat v kids (fun _ => rfl) (by omega) (fun x hx m2 R r => ?_) ?_⟩
    · obtain ⟨y, e, hk⟩ := hT_tup (ht x hx)
      generalize kids x = cs at *
      subst e
      simp only [S, SS', List.set, wipeD, List.getElem?_cons_zero, List.getElem?_cons_succ, Option.some.injEq, exists_eq_left', D.int.injEq, slR, cut1, VL]
      refine ⟨⟨_, rfl⟩, r _ _ (fun _ => rfl) fun z hz m3 C hc => ?_⟩
      simp [S, SS', wipeD]
      exact hc
    · simp only [S, SS', List.set, List.getElem?_cons_zero, List.getElem?_cons_succ, Option.some.injEq, exists_eq_left', D.int.injEq]
      refine ⟨dps (v.flatMap kids), _, _, ?_, LeL.refl _, Le.refl _, v.flatMap kids, n + 1, a, b, rfl, rfl, rfl, by omega, by omega, fun x hx => ?_⟩
      · omega
      · obtain ⟨y, hy, hx⟩ := List.mem_flatMap.mp hx
        obtain ⟨z, e, hk⟩ := hT_tup (ht y hy)
        exact ⟨gd_kids (hw y hy).1 x hx, hTs_mem hk x hx⟩
end L2.AP
set_option Elab.async false
set_option linter.all false
set_option maxRecDepth 100000
set_option maxHeartbeats 4000000
/-! V5: the doors. -/
namespace L2.AP
open PySem PySem.Spec PyProof.Rows
def els : D → List D
  | .tup xs => xs
  | _ => []
theorem sig_els {s : D} (h : sigB s = true) : s = .tup (els s) := by
  cases s <;> simp [sigB] at h ⊢
  rfl
theorem gd_els {s : D} (g : gd s = true) : gds (els s) = true := by
  cases s <;> simp [gd, els, gds] at g ⊢
  exact g
variable (X : Ex)
def sp_need_signature : DSp := fun ds m Q E => match ds with
  | [s] => gd s = true ∧ (sigB s = true → Q .non m) ∧ (sigB s = false → E (.ref (X.c "BadSignature")) none m)
  | _ => False
def t_need_signature : DTS :=
  dIfS (dNotT (dTruth (dCallF 1 sp_is_signature (dCons (dVar 0) dNil)))) (dRaise (X.c "BadSignature")) (dNext)
theorem v_need_signature {E : DEnds} {m : AH} {s : D} {W : DW} (g : gd s = true) (q : ∀ δ, sigB s = true → E.nx δ m) (r : ∀ δ, sigB s = false → W (.ref (X.c "BadSignature")) none δ m) : t_need_signature X W E [some s] m := by
  unfold t_need_signature
  simp only [S, SS', sp_is_signature, List.getElem?_cons_zero, Option.some.injEq, exists_eq_left', true_and, List.length_cons, List.length_nil, VL, g]
  cases h : sigB s with
  | true => simp [q _ h]
  | false => simp [r _ h]
def sp_is_tree : DSp := fun ds m Q E => match ds with
  | [s, d] => gd s = true ∧ gd d = true ∧ (sigB s = true → Q (.bl (treeB (els s) d)) m) ∧ (sigB s = false → E (.ref (X.c "BadSignature")) none m)
  | _ => False
def t_is_tree : DTS :=
  dSeq (dDrop (dCallF 1 (sp_need_signature X) (dCons (dVar 0) dNil))) <|
  dRet (dCallF 2 sp_is_small_tree (dCons (dVar 0) (dCons (dVar 1) dNil)))
theorem v_is_tree {E : DEnds} {m : AH} {s d : D} {W : DW} (g : gd s = true) (g2 : gd d = true) (q : sigB s = true → E.rt (.bl (treeB (els s) d)) m) (r : ∀ δ, sigB s = false → W (.ref (X.c "BadSignature")) none δ m) : t_is_tree X W E [some s, some d] m := by
  unfold t_is_tree
  simp only [S, SS', sp_need_signature, List.getElem?_cons_zero, List.getElem?_cons_succ, Option.some.injEq, exists_eq_left', true_and, List.length_cons, List.length_nil, g]
  refine ⟨fun h => ?_, fun h => r _ h⟩
  have e := sig_els h
  rw [e]
  simp only [sp_is_small_tree]
  rw [← e]
  exact ⟨h, gd_els g, g2, q h⟩
def sp_need_tree : DSp := fun ds m Q E => match ds with
  | [s, d] => gd s = true ∧ gd d = true ∧ (sigB s = true → treeB (els s) d = true → Q .non m) ∧ (sigB s = true → treeB (els s) d = false → E (.ref (X.c "BadTree")) none m) ∧ (sigB s = false → E (.ref (X.c "BadSignature")) none m)
  | _ => False
def t_need_tree : DTS :=
  dIfS (dNotT (dTruth (dCallF 2 (sp_is_tree X) (dCons (dVar 0) (dCons (dVar 1) dNil))))) (dRaise (X.c "BadTree")) (dNext)
theorem v_need_tree {E : DEnds} {m : AH} {s d : D} {W : DW} (g : gd s = true) (g2 : gd d = true) (q : ∀ δ, sigB s = true → treeB (els s) d = true → E.nx δ m) (r : ∀ δ, sigB s = true → treeB (els s) d = false → W (.ref (X.c "BadTree")) none δ m)
    (r2 : ∀ δ, sigB s = false → W (.ref (X.c "BadSignature")) none δ m) : t_need_tree X W E [some s, some d] m := by
  unfold t_need_tree
  simp only [S, SS', sp_is_tree, List.getElem?_cons_zero, List.getElem?_cons_succ, Option.some.injEq, exists_eq_left', true_and, List.length_cons, List.length_nil, VL, g, g2]
  refine ⟨fun h => ?_, fun h => r2 _ h⟩
  cases h2 : treeB (els s) d with
  | true => simp [q _ h h2]
  | false => simp [r _ h h2]
theorem tree_hT {es : List D} {d : D} (h : treeB es d = true) : hT d = true ∧ szD d ≤ 2000 := by
  unfold treeB at h
  simp only [Bool.and_eq_true, decide_eq_true_eq] at h
  exact ⟨vld_hT d h.1.1, by omega⟩
def sp_tree_size : DSp := fun ds m Q E => match ds with
  | [s, d] => gd s = true ∧ gd d = true ∧ (sigB s = true → treeB (els s) d = true → Q (.int (szD d)) m) ∧ (sigB s = true → treeB (els s) d = false → E (.ref (X.c "BadTree")) none m) ∧ (sigB s = false → E (.ref (X.c "BadSignature")) none m)
  | _ => False
def t_tree_size : DTS :=
  dSeq (dDrop (dCallF 2 (sp_need_tree X) (dCons (dVar 0) (dCons (dVar 1) dNil)))) <|
  dRet (dCallF 1 sp_size_of (dCons (dVar 1) dNil))
theorem v_tree_size {E : DEnds} {m : AH} {s d : D} {W : DW} (g : gd s = true) (g2 : gd d = true) (q : sigB s = true → treeB (els s) d = true → E.rt (.int (szD d)) m) (r : ∀ δ, sigB s = true → treeB (els s) d = false → W (.ref (X.c "BadTree")) none δ m)
    (r2 : ∀ δ, sigB s = false → W (.ref (X.c "BadSignature")) none δ m) : t_tree_size X W E [some s, some d] m := by
  unfold t_tree_size
  simp only [S, SS', sp_need_tree, sp_size_of, List.getElem?_cons_zero, List.getElem?_cons_succ, Option.some.injEq, exists_eq_left', true_and, List.length_cons, List.length_nil, g, g2]
  exact ⟨fun h1 h2 => ⟨(tree_hT h2).1, (tree_hT h2).2, q h1 h2⟩, fun h1 h2 => r _ h1 h2, fun h => r2 _ h⟩
def sp_tree_depth : DSp := fun ds m Q E => match ds with
  | [s, d] => gd s = true ∧ gd d = true ∧ (sigB s = true → treeB (els s) d = true → Q (.int (dpD d)) m) ∧ (sigB s = true → treeB (els s) d = false → E (.ref (X.c "BadTree")) none m) ∧ (sigB s = false → E (.ref (X.c "BadSignature")) none m)
  | _ => False
def t_tree_depth : DTS :=
  dSeq (dDrop (dCallF 2 (sp_need_tree X) (dCons (dVar 0) (dCons (dVar 1) dNil)))) <|
  dRet (dCallF 1 sp_depth_of (dCons (dVar 1) dNil))
theorem v_tree_depth {E : DEnds} {m : AH} {s d : D} {W : DW} (g : gd s = true) (g2 : gd d = true) (q : sigB s = true → treeB (els s) d = true → E.rt (.int (dpD d)) m) (r : ∀ δ, sigB s = true → treeB (els s) d = false → W (.ref (X.c "BadTree")) none δ m)
    (r2 : ∀ δ, sigB s = false → W (.ref (X.c "BadSignature")) none δ m) : t_tree_depth X W E [some s, some d] m := by
  unfold t_tree_depth
  simp only [S, SS', sp_need_tree, sp_depth_of, List.getElem?_cons_zero, List.getElem?_cons_succ, Option.some.injEq, exists_eq_left', true_and, List.length_cons, List.length_nil, g, g2]
  exact ⟨fun h1 h2 => ⟨(tree_hT h2).1, (tree_hT h2).2, q h1 h2⟩, fun h1 h2 => r _ h1 h2, fun h => r2 _ h⟩
end L2.AP
set_option Elab.async false
set_option linter.all false
set_option maxRecDepth 100000
set_option maxHeartbeats 4000000
/-! V6: the script's well. -/
namespace L2.AP
open PySem PySem.Spec PyProof.Rows
/-- what a well holds -/
def WellV (o : MO) : Prop := ∃ (cells : List Int) (b c : Int), o = .lst [.lst (cells.map D.int), .int b, .int c]
def Well (m : AH) (a : Addr) : Prop := ∃ o, m a = some o ∧ WellV o
theorem lays_ints (ns : List Int) : lays (ns.map D.int) = true := lays_of fun d hd => by
  obtain ⟨i, _, rfl⟩ := List.mem_map.mp hd
  simp [lay]
def sp__law_well : DSp := fun ds m Q _ => match ds with
  | [.rdl xs] => (∃ ns : List Int, xs = ns.map D.int ∧ ns.length ≤ 63) ∧ ∀ p o, m p = none → WellV o → Q (.ref p) (put m p o)
  | _ => False
def t__law_well : DTS :=
  dRet (dLst true (dCons (dLc false (diAny (dSl false (dVar 0) dNoPart (dPart (dC (.int 63))))) (dgName 1) dYes (dCall intR (dCons (dVar 1) dNil)) [1]) (dCons (dC (.int 0)) (dCons (dC (.int 40507)) dNil))))
theorem cut_map {α β : Type} (f : α → β) (xs : List α) (lo hi : Option Int) : AP.cut (xs.map f) lo hi = (AP.cut xs lo hi).map f := by
  unfold AP.cut
  rw [List.length_map, List.map_take, List.map_drop]
theorem cut_le {α : Type} (xs : List α) (lo hi : Option Int) : (AP.cut xs lo hi).length ≤ xs.length := by
  unfold AP.cut
  rw [List.length_take, List.length_drop]
  omega
theorem v__law_well {W : DW} {E : DEnds} {m : AH} {ns : List Int} (hn : ns.length ≤ 63) (q : ∀ p o, m p = none → WellV o → E.rt (.ref p) (put m p o)) : t__law_well W E [some (.rdl (ns.map D.int)), none] m := by
  unfold t__law_well
  simp only [S, SS', SL, List.getElem?_cons_zero, Option.some.injEq, exists_eq_left', D.int.injEq, slR, cut_map, Bool.false_eq_true, if_false, VL]
  have hc := cut_le ns none (some 63)
  generalize AP.cut ns none (some 63) = cs at *
  refine ⟨⟨_, rfl⟩, lc_map (cs.map D.int) id (fun _ _ => rfl) (by rw [List.length_map]; exact Nat.le_trans (Nat.le_trans hc hn) (by unfold sizeLine; decide)) (fun x hx m2 C _ h => ?_) ?_⟩
  · obtain ⟨i, _, rfl⟩ := List.mem_map.mp hx
    simp [S, SS', wipeD, intR]
    exact h
  · refine ⟨show 3 ≤ sizeLine by unfold sizeLine; decide, fun p hp => q p _ hp ⟨cs, 0, 40507, ?_⟩⟩
    simp
def sp__law_draw : DSp := fun ds m Q _ => match ds with
  | [.ref a, .int many] => Well m a ∧ 0 < many ∧ many < 1000000 ∧ ∀ r o, 0 ≤ r → r < many → WellV o → Q (.int r) (put m a o)
  | _ => False
def t__law_draw : DTS :=
  dSeq (dIfS (dAndT (dTest (dOp ltR (dOp ixR (dVar 0) (dC (.int 1))) (dOp powR (dC (.int 10)) (dC (.int 9))))) (dTest (dOp neR (dOp ixR (dVar 0) (dC (.int 0))) (dLst false dNil)))) (dSeq (dAsg (dOp ixR (dOp ixR (dVar 0) (dC (.int 0))) (dC (.int 0))) (dgName 2)) <|
      dSeq (dAsg (dSl false (dOp ixR (dVar 0) (dC (.int 0))) (dPart (dC (.int 1))) dNoPart) (dgSub (dVar 0) (dC (.int 0)))) <|
      dSeq (dAsg (dOp addR (dOp mulR (dC (.int 2)) (dCall absR (dCons (dVar 2) dNil))) (dCall intR (dCons (dOp ltR (dVar 2) (dC (.int 0))) dNil))) (dgName 3)) <|
      dIfS (dTest (dOp geR (dVar 3) (dOp powR (dC (.int 10)) (dC (.int 18))))) (dAsg (dVar 3) (dgSub (dVar 0) (dC (.int 1)))) (dAsg (dOp modR (dCall intR (dCons (dOp addR (dOp addR (dOp mulR (dOp ixR (dVar 0) (dC (.int 2))) (dC (.int 48271))) (dOp mulR (dVar 3) (dC (.int 69621)))) (dC (.int 17))) dNil)) (dC (.int 2147483647))) (dgSub (dVar 0) (dC (.int 2))))) (dNext)) <|
  dSeq (dIfS (dTest (dOp geR (dOp ixR (dVar 0) (dC (.int 1))) (dOp powR (dC (.int 10)) (dC (.int 9))))) (dSeq (dAsg (dOp modR (dCall intR (dCons (dOp ixR (dVar 0) (dC (.int 1))) dNil)) (dVar 1)) (dgName 4)) <|
      dSeq (dAsg (dOp fdivR (dOp ixR (dVar 0) (dC (.int 1))) (dVar 1)) (dgSub (dVar 0) (dC (.int 1)))) <|
      dRet (dVar 4)) (dNext)) <|
  dSeq (dAsg (dOp modR (dCall intR (dCons (dOp addR (dOp mulR (dOp ixR (dVar 0) (dC (.int 2))) (dC (.int 39373))) (dC (.int 101))) dNil)) (dC (.int 2147483647))) (dgSub (dVar 0) (dC (.int 2)))) <|
  dRet (dOp modR (dCall intR (dCons (dOp fdivR (dOp ixR (dVar 0) (dC (.int 2))) (dC (.int 89))) dNil)) (dVar 1))
/-- the second half -/
def t_draw2 : DTS :=
  dSeq (dIfS (dTest (dOp geR (dOp ixR (dVar 0) (dC (.int 1))) (dOp powR (dC (.int 10)) (dC (.int 9))))) (dSeq (dAsg (dOp modR (dCall intR (dCons (dOp ixR (dVar 0) (dC (.int 1))) dNil)) (dVar 1)) (dgName 4)) <|
      dSeq (dAsg (dOp fdivR (dOp ixR (dVar 0) (dC (.int 1))) (dVar 1)) (dgSub (dVar 0) (dC (.int 1)))) <|
      dRet (dVar 4)) (dNext)) <|
  dSeq (dAsg (dOp modR (dCall intR (dCons (dOp addR (dOp mulR (dOp ixR (dVar 0) (dC (.int 2))) (dC (.int 39373))) (dC (.int 101))) dNil)) (dC (.int 2147483647))) (dgSub (dVar 0) (dC (.int 2)))) <|
  dRet (dOp modR (dCall intR (dCons (dOp fdivR (dOp ixR (dVar 0) (dC (.int 2))) (dC (.int 89))) dNil)) (dVar 1))
theorem asQp {m : AH} {p : Addr} {xs : List D} (h : m p = some (.lst xs)) : asQ m (.ref p) = some xs := by simp [asQ, asL, h]
theorem ixR_w {m : AH} {p : Addr} {xs : List D} {Q : DQ} {i : Int} {x : D} (h : m p = some (.lst xs)) (e : atI xs i = some x) (q : Q x m) : ixR (.ref p) (.int i) m Q := by
  simp only [ixR]
  exact .inl ⟨xs, x, asQp h, e, q⟩
theorem mulS {i j : Int} (h : -1000000 < j ∧ j < 1000000) : MulOk i j := .inr (.inl ⟨by omega, by omega⟩)
theorem v_draw2 {W : DW} {E : DEnds} {m : AH} {a : Addr} {many : Int} {cells : List Int} {b c : Int} {x y z : Option D} (hm : m a = some (.lst [.lst (cells.map D.int), .int b, .int c])) (h1 : 0 < many) (h2 : many < 1000000)
    (q : ∀ r o, 0 ≤ r → r < many → WellV o → E.rt (.int r) (put m a o)) : t_draw2 W E [some (.ref a), some (.int many), x, y, z] m := by
  have e9 : ((10 : Int) ^ (9 : Int).toNat) = 1000000000 := by decide
  unfold t_draw2
  simp only [S, SS', List.getElem?_cons_zero, List.getElem?_cons_succ, Option.some.injEq, exists_eq_left', D.int.injEq]
  refine ixR_w hm atL1 ?_
  simp only [powR, e9, ordR, ltR, D.bl.injEq, exists_eq_left']
  refine ⟨by decide, ?_⟩
  by_cases g : 1000000000 ≤ b
  · rw [if_pos (by simpa using g)]
    refine ixR_w hm atL1 ?_
    simp only [intR, modR, fdivR]
    refine ⟨h1, ?_⟩
    simp only [S, SS', List.set, List.getElem?_cons_zero, List.getElem?_cons_succ, Option.some.injEq, exists_eq_left', D.int.injEq]
    refine ixR_w hm atL1 ?_
    refine ⟨⟨h1, by omega⟩, ?_⟩
    simp only [setR]
    refine ⟨_, 1, hm, rfl, ?_⟩
    exact q _ _ (Int.emod_nonneg _ (by omega)) (Int.emod_lt_of_pos _ h1) ⟨cells, _, _, rfl⟩
  · rw [if_neg (by simpa using g)]
    refine ixR_w hm atL2 ?_
    simp only [mulR, addR, intR, modR, fdivR]
    refine ⟨mulS (by decide), by decide, ?_⟩
    simp only [setR]
    refine ⟨_, 2, hm, rfl, ?_⟩
    simp only [List.set]
    refine ixR_w put_same atL2 ?_
    simp only [fdivR, intR, modR]
    refine ⟨by decide, h1, ?_⟩
    exact q _ _ (Int.emod_nonneg _ (by omega)) (Int.emod_lt_of_pos _ h1) ⟨cells, _, _, rfl⟩
theorem v__law_draw {W : DW} {E : DEnds} {m : AH} {a : Addr} {many : Int} (hw : Well m a) (h1 : 0 < many) (h2 : many < 1000000)
    (q : ∀ r o, 0 ≤ r → r < many → WellV o → E.rt (.int r) (put m a o)) : t__law_draw W E [some (.ref a), some (.int many), none, none, none] m := by
  obtain ⟨_, hm, cells, b, c, rfl⟩ := hw
  have e9 : ((10 : Int) ^ (9 : Int).toNat) = 1000000000 := by decide
  have e18 : ((10 : Int) ^ (18 : Int).toNat) = 1000000000000000000 := by decide
  have t2 : t__law_draw = dSeq (dIfS (dAndT (dTest (dOp ltR (dOp ixR (dVar 0) (dC (.int 1))) (dOp powR (dC (.int 10)) (dC (.int 9))))) (dTest (dOp neR (dOp ixR (dVar 0) (dC (.int 0))) (dLst false dNil)))) (dSeq (dAsg (dOp ixR (dOp ixR (dVar 0) (dC (.int 0))) (dC (.int 0))) (dgName 2)) <|
      dSeq (dAsg (dSl false (dOp ixR (dVar 0) (dC (.int 0))) (dPart (dC (.int 1))) dNoPart) (dgSub (dVar 0) (dC (.int 0)))) <|
      dSeq (dAsg (dOp addR (dOp mulR (dC (.int 2)) (dCall absR (dCons (dVar 2) dNil))) (dCall intR (dCons (dOp ltR (dVar 2) (dC (.int 0))) dNil))) (dgName 3)) <|
      dIfS (dTest (dOp geR (dVar 3) (dOp powR (dC (.int 10)) (dC (.int 18))))) (dAsg (dVar 3) (dgSub (dVar 0) (dC (.int 1)))) (dAsg (dOp modR (dCall intR (dCons (dOp addR (dOp addR (dOp mulR (dOp ixR (dVar 0) (dC (.int 2))) (dC (.int 48271))) (dOp mulR (dVar 3) (dC (.int 69621)))) (dC (.int 17))) dNil)) (dC (.int 2147483647))) (dgSub (dVar 0) (dC (.int 2))))) (dNext)) t_draw2 := rfl
  rw [t2]
  have fin : ∀ {o : MO} {x y z : Option D}, WellV o → t_draw2 W E [some (.ref a), some (.int many), x, y, z] (put m a o) := fun {o x y z} ho => by
    obtain ⟨cells, b, c, rfl⟩ := ho
    exact v_draw2 put_same h1 h2 fun r o r1 r2 ro => by rw [put_put]; exact q r o r1 r2 ro
  simp only [S, SS', List.getElem?_cons_zero, List.getElem?_cons_succ, Option.some.injEq, exists_eq_left', D.int.injEq]
  refine ixR_w hm atL1 ?_
  simp only [powR, e9, ordR, ltR, D.bl.injEq, exists_eq_left']
  refine ⟨by decide, ?_⟩
  by_cases g : b < 1000000000
  · rw [if_pos (by simpa using g)]
    refine ixR_w hm atL0 ?_
    simp only [neR, VL, lays_ints, eqD, eqDs_nil, List.length_nil, D.bl.injEq, exists_eq_left', true_and]
    refine ⟨by unfold sizeLine; decide, by omega, ?_⟩
    cases cells with
    | nil =>
      simp only [List.map_nil, List.isEmpty_nil, Bool.not_true, Bool.false_eq_true, if_false]
      exact v_draw2 hm h1 h2 q
    | cons cell cells =>
      simp only [List.map_cons, List.isEmpty_cons, Bool.not_false, if_true] at hm ⊢
      refine ixR_w hm atL0 ?_
      simp only [ixR, VL]
      refine .inl ⟨_, _, rfl, atL0, ?_⟩
      simp only [List.set, SS', S]
      simp only [List.getElem?_cons_zero, List.getElem?_cons_succ, Option.some.injEq, exists_eq_left', D.int.injEq]
      refine .inl ⟨_, _, asQp hm, atL0, ?_⟩
      simp only [slR, cut1, VL, Option.some.injEq, exists_eq_left', Bool.false_eq_true, if_false, setR]
      refine ⟨_, 0, hm, rfl, ?_⟩
      simp only [List.set, absR, mulR, intR, addR, ordR, ltR, powR, e18]
      refine ⟨.inl (by decide), ?_⟩
      refine ⟨by decide, _, rfl, ?_⟩
      generalize (2 * if cell < 0 then -cell else cell) + (if decide (cell < 0) = true then 1 else 0) = wt
      by_cases g2 : decide ((1000000000000000000 : Int) ≤ wt) = true
      · rw [if_pos g2]
        refine ⟨_, 1, put_same, rfl, ?_⟩
        rw [put_put]
        exact fin ⟨cells, _, _, rfl⟩
      · rw [if_neg g2]
        refine .inl ⟨_, _, asQp put_same, atL2, ?_⟩
        refine ⟨mulS (by decide), mulS (by decide), ?_⟩
        simp only [modR]
        refine ⟨by decide, _, 2, put_same, rfl, ?_⟩
        rw [put_put]
        exact fin ⟨cells, _, _, rfl⟩
  · rw [if_neg (by simpa using g)]
    simp only [Bool.false_eq_true, if_false]
    exact v_draw2 hm h1 h2 q
end L2.AP
set_option Elab.async false
set_option linter.all false
set_option maxRecDepth 100000
set_option maxHeartbeats 4000000
/-! V11: drawn signatures. -/
namespace L2.AP
open PySem PySem.Spec PyProof.Rows
theorem put_self {m : AH} {a : Addr} {o : MO} (h : m a = some o) : put m a o = m := by
  funext b
  unfold put
  by_cases e : b = a
  · rw [if_pos e, e, h]
  · rw [if_neg e]
theorem put_swap {m : AH} {a p : Addr} {o o' x y : MO} (h : a ≠ p) : put (put (put (put m a o) p x) a o') p y = put (put m a o') p y := by
  funext b
  unfold put
  by_cases e : b = p
  · rw [if_pos e, if_pos e]
  · rw [if_neg e, if_neg e]
    by_cases e2 : b = a
    · rw [if_pos e2, if_neg e, if_pos e2]
    · rw [if_neg e2, if_neg e2, if_neg e, if_neg e2]
theorem Well.put {m : AH} {a : Addr} {o : MO} (h : WellV o) : Well (put m a o) a := ⟨o, put_same, h⟩
theorem Well.other {m : AH} {a p : Addr} {x : MO} (h : Well m a) (n : a ≠ p) : Well (AP.put m p x) a := by
  obtain ⟨o, e, w⟩ := h
  exact ⟨o, by rw [put_ne n]; exact e, w⟩
/-- a comprehension that draws -/
theorem lc_well {g : DTG} {te : DTE} {vs : List Nat} {δ : Dl} {Q : DQ} {it : DIt} {m1 : AH} {a : Addr} (xs : List D) (P : Nat → D → Prop) (hw : Well m1 a) (hx : ∀ m2, it m2 = some xs) (hl : xs.length ≤ sizeLine)
    (hb : ∀ i x, xs[i]? = some x → ∀ (m2 : AH) (C : DQ), Well m2 a → (∀ y o, P i y → WellV o → C y (put m2 a o)) → g WF x (wipeD δ vs) m2 fun δ2 m3 => te WF δ2 m3 C)
    (q : ∀ (ys : List D) o, ys.length = xs.length → (∀ i y, ys[i]? = some y → P i y) → WellV o → Q (.lst ys) (put m1 a o)) : lcBody false g dYes te vs δ Q it m1 := by
  intro p hp
  obtain ⟨o0, ho, wo⟩ := hw
  have ne : a ≠ p := fun z => by rw [← z, ho] at hp; cases hp
  refine ⟨fun i k acc m => i + k = xs.length ∧ ∃ o, WellV o ∧ m = put (put m1 a o) p (.lst acc) ∧ acc.length = i ∧ ∀ j y, acc[j]? = some y → P j y, ⟨xs.length, by omega, o0, wo, by rw [put_self ho], rfl, fun j y e => by simp at e⟩, ?_⟩
  rintro i k acc m ⟨h1, o, w1, rfl, h2, h3⟩
  refine ⟨put_same, xs, hx _, ?_⟩
  have pn : (put m1 a o) p = none := by rw [put_ne (Ne.symm ne)]; exact hp
  cases e : xs[i]? with
  | none =>
    have hi := List.getElem?_eq_none_iff.mp e
    unfold lcEnd
    rw [if_neg Bool.false_ne_true]
    exact ⟨put m1 a o, Le.new pn, pn, q acc o (by omega) h3 w1⟩
  | some x =>
    have hi := (List.getElem?_eq_some_iff.mp e).1
    have hb' := hb i x e (put (put m1 a o) p (.lst acc)) (fun d m4 => m4 p = some (.lst acc) ∧ acc.length < sizeLine ∧ ∃ k' m5, k' < k ∧ Le m5 (put m4 p (.lst (acc ++ [d]))) ∧ (i + 1 + k' = xs.length ∧ ∃ o, WellV o ∧ m5 = put (put m1 a o) p (.lst (acc ++ [d])) ∧ (acc ++ [d]).length = i + 1 ∧ ∀ j y, (acc ++ [d])[j]? = some y → P j y))
      (Well.other (Well.put w1) ne) (fun y o' py w' => ⟨by rw [put_ne (Ne.symm ne), put_same], by omega, k - 1, put (put m1 a o') p (.lst (acc ++ [y])), by omega, by rw [put_swap ne]; exact Le.refl _, by omega, o', w', rfl, by simp [h2], fun j z ez => ?_⟩)
    · simpa [S] using hb'
    · by_cases c : j < acc.length
      · rw [List.getElem?_append_left c] at ez
        exact h3 j z ez
      · rw [List.getElem?_append_right (by omega)] at ez
        have : j - acc.length = 0 := by
          cases q0 : j - acc.length with
          | zero => rfl
          | succ n => rw [q0] at ez; simp at ez
        rw [this] at ez
        cases ez
        rw [show j = i by omega]
        exact py
/-- a list that changes later -/
theorem lc_mu {g : DTG} {tt : DTT} {te : DTE} {vs : List Nat} {δ : Dl} {Q : DQ} {it : DIt} {m1 : AH} (xs : List D) (f : D → Option D) (hx : ∀ m2, Le m1 m2 → it m2 = some xs) (hl : xs.length ≤ sizeLine)
    (hb : ∀ x ∈ xs, ∀ (m2 : AH) (C : DQ) (N : AH → Prop), Le m1 m2 → (∀ y, f x = some y → C y m2) → (f x = none → N m2) → g WF x (wipeD δ vs) m2 fun δ2 m3 => tt WF δ2 m3 fun b m4 => if b = true then te WF δ2 m4 C else N m4)
    (q : ∀ p, m1 p = none → Q (.ref p) (put m1 p (.lst (xs.filterMap f)))) : lcBody true g tt te vs δ Q it m1 := by
  intro p hp
  refine ⟨fun i k acc m => i + k = xs.length ∧ acc = (xs.take i).filterMap f ∧ m = put m1 p (.lst acc), ⟨xs.length, by omega, rfl, rfl⟩, fun i k acc m ⟨h1, h2, h3⟩ => ?_⟩
  subst h3
  refine ⟨put_same, xs, hx _ (Le.new hp), ?_⟩
  cases e : xs[i]? with
  | none =>
    have hi := List.getElem?_eq_none_iff.mp e
    rw [List.take_of_length_le hi] at h2
    subst h2
    unfold lcEnd
    rw [if_pos rfl]
    exact q p hp
  | some x =>
    have hi := (List.getElem?_eq_some_iff.mp e).1
    have et : (xs.take (i + 1)).filterMap f = (xs.take i).filterMap f ++ (match f x with | some y => [y] | none => []) := by
      rw [List.take_succ, e, List.filterMap_append]
      cases fx : f x <;> simp [fx]
    have len : acc.length < sizeLine := by
      have h4 : acc.length ≤ (xs.take i).length := by rw [h2]; exact List.length_filterMap_le f _
      rw [List.length_take] at h4
      omega
    refine hb x (List.mem_of_getElem? e) _ _ _ (Le.new hp) (fun y fy => ⟨put_same, len, k - 1, put m1 p (.lst (acc ++ [y])), by omega, ?_, by omega, ?_, rfl⟩) (fun fn => ⟨k - 1, _, by omega, Le.refl _, by omega, ?_, rfl⟩)
    · rw [put_put]; exact Le.refl _
    · rw [et, fy, h2]
    · rw [et, fn, h2, List.append_nil]
/-- a signature by its names and arities -/
def sigL (n : Nat) (nm : Nat → Str) (ar : Nat → Int) : List D := (List.range n).map fun k => .tup [.str (nm k), .int (ar k)]
theorem sigL_ok {n : Nat} {nm : Nat → Str} {ar : Nat → Int} (h1 : 1 ≤ n) (h2 : n ≤ 12) (hn : ∀ k, k < n → nameOk (nm k) = true ∧ gd1 (nm k) = true) (nd : ((List.range n).map nm).Nodup) (ha : ∀ k, k < n → 0 ≤ ar k ∧ ar k ≤ 2) (hz : ∃ k, k < n ∧ ar k = 0) :
    sigB (.tup (sigL n nm ar)) = true ∧ gd (.tup (sigL n nm ar)) = true := by
  have mem : ∀ e ∈ sigL n nm ar, ∃ k, k < n ∧ e = .tup [.str (nm k), .int (ar k)] := fun e he => by
    obtain ⟨k, hk, rfl⟩ := List.mem_map.mp he
    exact ⟨k, List.mem_range.mp hk, rfl⟩
  have len : (sigL n nm ar).length = n := by simp [sigL]
  constructor
  · simp only [sigB, Bool.and_eq_true, decide_eq_true_eq, List.all_eq_true, len]
    refine ⟨⟨⟨⟨⟨h1, h2⟩, fun e he => ?_⟩, fun e he => ?_⟩, ?_⟩, ?_⟩
    · obtain ⟨k, hk, rfl⟩ := mem e he
      simp [rowB]
    · obtain ⟨k, hk, rfl⟩ := mem e he
      simp [entB, fst, snd, lowB, withinB, (hn k hk).1, ha k hk]
    · have : (sigL n nm ar).map (fun e => txt (fst e)) = (List.range n).map nm := by
        unfold sigL
        rw [List.map_map]
        rfl
      rw [this]
      exact nd
    · obtain ⟨k, hk, z⟩ := hz
      exact ⟨_, List.mem_map.mpr ⟨k, List.mem_range.mpr hk, rfl⟩, z⟩
  · simp only [gd]
    refine gds_of fun e he => ?_
    obtain ⟨k, hk, rfl⟩ := mem e he
    simp [gd, gds, (hn k hk).2]
end L2.AP
set_option Elab.async false
set_option linter.all false
set_option maxRecDepth 100000
set_option maxHeartbeats 4000000
/-! V12: drawn signatures. -/
namespace L2.AP
open PySem PySem.Spec PyProof.Rows
theorem rng1_len (n : Nat) : (rng 0 1 n).length = n := by unfold rng; simp
theorem rng1_get {n i : Nat} {x : D} (h : (rng 0 1 n)[i]? = some x) : i < n ∧ x = D.int i := by
  have hi := (List.getElem?_eq_some_iff.mp h).1
  rw [rng1_len] at hi
  unfold rng at h
  rw [List.getElem?_map, List.getElem?_range hi] at h
  cases h
  exact ⟨hi, by simp⟩
theorem rng_mem {n : Nat} {x : D} (h : x ∈ rng 0 1 n) : ∃ i, i < n ∧ x = D.int (i : Nat) := by
  obtain ⟨i, hi, e⟩ := List.getElem_of_mem h
  obtain ⟨h1, h2⟩ := rng1_get (List.getElem?_eq_some_iff.mpr ⟨hi, e⟩)
  exact ⟨i, h1, h2⟩
theorem rng_map {β : Type} (f : D → β) (n : Nat) : (rng 0 1 n).map f = (List.range n).map fun k : Nat => f (.int (k : Nat)) := by
  unfold rng
  rw [List.map_map]
  refine List.map_congr_left fun k _ => ?_
  simp
theorem cut_from {α : Type} (xs : List α) {t : Int} (h : 0 ≤ t) : AP.cut xs (some t) none = xs.drop t.toNat := by
  obtain ⟨n, rfl⟩ := Int.eq_ofNat_of_zero_le h
  unfold AP.cut
  rw [HT.sIx_none, HT.sIx_nat, Int.toNat_natCast]
  by_cases c : n ≤ xs.length
  · rw [Nat.min_eq_left c, List.take_of_length_le (by rw [List.length_drop]; exact Nat.le_refl _)]
  · rw [Nat.min_eq_right (by omega), List.drop_of_length_le (Nat.le_refl _), List.drop_of_length_le (by omega), List.take_nil]
theorem cut_to {α : Type} (xs : List α) {t : Int} (h : 0 ≤ t) : AP.cut xs none (some t) = xs.take t.toNat := by
  obtain ⟨n, rfl⟩ := Int.eq_ofNat_of_zero_le h
  unfold AP.cut
  rw [HT.sIx_none, HT.sIx_nat, Int.toNat_natCast, List.drop_zero, Nat.sub_zero]
  by_cases c : n ≤ xs.length
  · rw [Nat.min_eq_left c]
  · rw [Nat.min_eq_right (by omega), List.take_of_length_le (Nat.le_refl _), List.take_of_length_le (by omega)]
/-- what a comprehension has drawn, as ints -/
theorem drawn_ints {lo hi : Int} : ∀ {ys : List D}, (∀ (i : Nat) (y : D), ys[i]? = some y → ∃ v : Int, y = D.int v ∧ lo ≤ v ∧ v ≤ hi) → ∃ vs : List Int, ys = vs.map D.int ∧ ∀ v ∈ vs, lo ≤ v ∧ v ≤ hi
  | [], _ => ⟨[], rfl, fun v h => by cases h⟩
  | y :: ys, h => by
    obtain ⟨v, e, hv⟩ := h 0 y rfl
    obtain ⟨vs, e2, hvs⟩ := drawn_ints (ys := ys) fun i z hz => h (i + 1) z hz
    refine ⟨v :: vs, by rw [e, e2]; rfl, fun w hw => ?_⟩
    rcases List.mem_cons.mp hw with rfl | hw
    · exact hv
    · exact hvs w hw
def sp__law_signature : DSp := fun ds m Q _ => match ds with
  | [.ref a] => Well m a ∧ ∀ s o, sigB s = true → gd s = true → WellV o → Q s (put m a o)
  | _ => False
def t__law_signature : DTS :=
  dSeq (dAsg (dOp addR (dLst false (dCons (dC (.int 0)) dNil)) (dLc false (diRange1 (dCons (dOp addR (dC (.int 1)) (dCallF 2 sp__law_draw (dCons (dVar 0) (dCons (dC (.int 5)) dNil)))) dNil)) (dgName 4) dYes (dOp ixR (dLst false (dCons (dC (.int 0)) (dCons (dC (.int 1)) (dCons (dC (.int 1)) (dCons (dC (.int 2)) (dCons (dC (.int 2)) dNil)))))) (dCallF 2 sp__law_draw (dCons (dVar 0) (dCons (dC (.int 5)) dNil)))) [4])) (dgName 1)) <|
  dSeq (dAsg (dCallF 2 sp__law_draw (dCons (dVar 0) (dCons (dCall lenR (dCons (dVar 1) dNil)) dNil))) (dgName 2)) <|
  dSeq (dAsg (dOp addR (dSl false (dVar 1) (dPart (dVar 2)) dNoPart) (dSl false (dVar 1) dNoPart (dPart (dVar 2)))) (dgName 1)) <|
  dSeq (dAsg (dLst false (dCons (dC (.str "a")) (dCons (dC (.str "f2")) (dCons (dC (.str "xyz")) (dCons (dC (.str "b")) (dCons (dC (.str "gg")) (dCons (dC (.str "c0c0c0c0c0")) dNil))))))) (dgName 3)) <|
  dRet (dCall tupleR (dCons (dLc false (diRange1 (dCons (dCall lenR (dCons (dVar 1) dNil)) dNil)) (dgName 4) dYes (dTup (dCons (dOp ixR (dVar 3) (dVar 4)) (dCons (dOp ixR (dVar 1) (dVar 4)) dNil))) [4]) dNil))
def nmA : List Str := ["a", "f2", "xyz", "b", "gg", "c0c0c0c0c0"]
theorem nmA_ok : ∀ k, k < 6 → nameOk (nmA.getD k "") = true ∧ gd1 (nmA.getD k "") = true := by
  have : ∀ k ∈ List.range 6, nameOk (nmA.getD k "") = true ∧ gd1 (nmA.getD k "") = true := by decide +kernel
  exact fun k hk => this k (List.mem_range.mpr hk)
theorem nmA_nd : ∀ n, n ≤ 6 → ((List.range n).map fun k => nmA.getD k "").Nodup := by
  have : ∀ n ∈ List.range 7, ((List.range n).map fun k => nmA.getD k "").Nodup := by decide +kernel
  exact fun n hn => this n (List.mem_range.mpr (by omega))
theorem atI_nm {k : Nat} (h : k < 6) : atI (nmA.map D.str) (k : Int) = some (.str (nmA.getD k "")) := by
  rw [atN (by omega) (by simp [nmA]; omega), Int.toNat_natCast, List.getElem?_map, List.getD_eq_getElem?_getD]
  have : k < nmA.length := by simp [nmA]; omega
  rw [List.getElem?_eq_getElem this]
  rfl
theorem v__law_signature {W : DW} {E : DEnds} {m : AH} {a : Addr} (hw : Well m a) (q : ∀ s o, sigB s = true → gd s = true → WellV o → E.rt s (put m a o)) : t__law_signature W E [some (.ref a), none, none, none, none] m := by
  have ten : 10 ≤ sizeLine := by unfold sizeLine; decide
  unfold t__law_signature
  simp only [S, SS', SL, List.getElem?_cons_zero, List.getElem?_cons_succ, Option.some.injEq, exists_eq_left', true_and, List.length_cons, List.length_nil, sp__law_draw, addR]
  refine ⟨by omega, hw, by decide, by decide, fun r o1 r0 r1 w1 => ⟨_, rfl, ⟨by omega, by omega⟩, ?_⟩⟩
  refine lc_well (rng 0 1 (1 + r).toNat) (fun _ y => ∃ v : Int, y = D.int v ∧ 0 ≤ v ∧ v ≤ 2) (Well.put w1) (fun _ => rfl) (by rw [rng1_len]; omega) (fun i x hx m2 C wm hC => ?_) (fun ys o2 hl hy w2 => ?_)
  · simp only [S, SS', wipeD, List.set, List.getElem?_cons_zero, List.getElem?_cons_succ, Option.some.injEq, exists_eq_left', true_and, List.length_cons, List.length_nil, sp__law_draw]
    refine ⟨by omega, wm, by decide, by decide, fun t o t0 t1 wo => ?_⟩
    have c : t = 0 ∨ t = 1 ∨ t = 2 ∨ t = 3 ∨ t = 4 := by omega
    have ix : ∀ v : Int, atI [D.int 0, .int 1, .int 1, .int 2, .int 2] t = some (.int v) → 0 ≤ v ∧ v ≤ 2 → ixR (.lst [.int 0, .int 1, .int 1, .int 2, .int 2]) (.int t) (put m2 a o) C := fun v e hv => by
      simp only [ixR, VL]
      exact .inl ⟨_, _, rfl, e, hC _ _ ⟨v, rfl, hv⟩ wo⟩
    rcases c with rfl | rfl | rfl | rfl | rfl
    · exact ix 0 (by rw [atN (by decide) (by decide)]; rfl) (by decide)
    · exact ix 1 (by rw [atN (by decide) (by decide)]; rfl) (by decide)
    · exact ix 1 (by rw [atN (by decide) (by decide)]; rfl) (by decide)
    · exact ix 2 (by rw [atN (by decide) (by decide)]; rfl) (by decide)
    · exact ix 2 (by rw [atN (by decide) (by decide)]; rfl) (by decide)
  · obtain ⟨vs, rfl, hv⟩ := drawn_ints hy
    rw [put_put]
    rw [List.length_map, rng1_len] at hl
    simp only [VL, Option.some.injEq, exists_eq_left', List.length_cons, List.length_nil, List.length_map]
    refine ⟨_, _, rfl, rfl, by simp only [List.length_cons, List.length_nil, List.length_map]; omega, ?_⟩
    simp only [S, SS', SL, List.set, VL, List.getElem?_cons_zero, List.getElem?_cons_succ, Option.some.injEq, exists_eq_left', true_and, List.length_cons, List.length_nil, sp__law_draw, lenR]
    have eL : [D.int 0] ++ vs.map D.int = (0 :: vs).map D.int := rfl
    rw [eL]
    have hL : ∀ v ∈ 0 :: vs, 0 ≤ v ∧ v ≤ 2 := fun v h => by
      rcases List.mem_cons.mp h with rfl | h
      · exact ⟨by decide, by decide⟩
      · exact hv v h
    have lenL : 2 ≤ (0 :: vs).length ∧ (0 :: vs).length ≤ 6 := by rw [List.length_cons]; omega
    have zL : (0 : Int) ∈ 0 :: vs := List.mem_cons_self
    generalize (0 :: vs) = L at *
    refine ⟨Well.put w2, by rw [List.length_map]; omega, by rw [List.length_map]; omega, fun t o3 t0 t1 w3 => ⟨_, rfl, ?_⟩⟩
    rw [put_put]
    simp only [slR, cut_map, VL, Option.some.injEq, exists_eq_left', Bool.false_eq_true, if_false]
    refine ⟨_, rfl, ?_⟩
    rw [cut_from L t0, cut_to L t0]
    have lenR : (L.drop t.toNat ++ L.take t.toNat).length = L.length := by rw [List.length_append, List.length_drop, List.length_take]; omega
    have memR : ∀ v, v ∈ L.drop t.toNat ++ L.take t.toNat ↔ v ∈ L := fun v => by
      rw [List.mem_append, or_comm, ← List.mem_append, List.take_append_drop]
    have eR : (L.drop t.toNat).map D.int ++ (L.take t.toNat).map D.int = (L.drop t.toNat ++ L.take t.toNat).map D.int := List.map_append.symm
    refine ⟨_, _, rfl, rfl, by rw [← List.length_append, eR, List.length_map, lenR]; omega, ?_⟩
    rw [eR]
    have hR : ∀ v ∈ L.drop t.toNat ++ L.take t.toNat, 0 ≤ v ∧ v ≤ 2 := fun v h => hL v ((memR v).mp h)
    have zR := (memR 0).mpr zL
    generalize L.drop t.toNat ++ L.take t.toNat = R at *
    refine ⟨by omega, _, rfl, ⟨by rw [List.length_map]; omega, by rw [List.length_map]; omega⟩, ?_⟩
    rw [List.length_map, Int.toNat_natCast]
    refine lc_map (rng 0 1 R.length) (fun d => .tup [.str (nmA.getD (num d).toNat ""), .int (R.getD (num d).toNat 0)]) (fun _ _ => rfl) (by rw [rng1_len]; omega) (fun x hx m2 C _ hC => ?_) ?_
    · obtain ⟨k, hk, rfl⟩ := rng_mem hx
      simp only [S, SS', wipeD, List.set, List.getElem?_cons_zero, List.getElem?_cons_succ, Option.some.injEq, exists_eq_left', true_and, List.length_cons, List.length_nil, ixR, VL]
      refine .inl ⟨_, _, rfl, atI_nm (by omega), .inl ⟨_, _, rfl, ?_, by omega, hC⟩⟩
      rw [atN (by omega) (by rw [List.length_map]; omega), Int.toNat_natCast, List.getElem?_map, List.getElem?_eq_getElem hk]
      simp [num, List.getD_eq_getElem?_getD, List.getElem?_eq_getElem hk]
    · simp only [tupleR, VL, Option.some.injEq, exists_eq_left']
      have e : (rng 0 1 R.length).map (fun d => D.tup [.str (nmA.getD (num d).toNat ""), .int (R.getD (num d).toNat 0)]) = sigL R.length (fun k => nmA.getD k "") (fun k => R.getD k 0) := by
        rw [rng_map]
        rfl
      rw [e]
      have ok := sigL_ok (n := R.length) (nm := fun k => nmA.getD k "") (ar := fun k => R.getD k 0) (by omega) (by omega) (fun k hk => nmA_ok k (by omega)) (nmA_nd _ (by omega)) (fun k hk => by
        show 0 ≤ R.getD k 0 ∧ R.getD k 0 ≤ 2
        rw [List.getD_eq_getElem?_getD, List.getElem?_eq_getElem hk]
        exact hR _ (List.getElem_mem hk)) (by
        obtain ⟨k, hk, ek⟩ := List.getElem_of_mem zR
        exact ⟨k, hk, by show R.getD k 0 = 0; rw [List.getD_eq_getElem?_getD, List.getElem?_eq_getElem hk]; exact ek⟩)
      exact q _ _ ok.1 ok.2 w3
end L2.AP
set_option Elab.async false
set_option linter.all false
set_option maxRecDepth 100000
set_option maxHeartbeats 4000000
/-! V14: drawn trees. -/
namespace L2.AP
open PySem PySem.Spec PyProof.Rows
theorem eqI (i j : Int) : eqD (.int i) (.int j) = (i == j) := by simp [eqD]
structure TG (es : List D) (i : Nat) (t : D) : Prop where
  v : vld es t = true
  g : gd t = true
  s : szD t + 1 ≤ 2 ^ (i + 1)
  d : dpD t ≤ i + 1
theorem TG.up {es : List D} {i : Nat} {t : D} (h : TG es i t) : TG es (i + 1) t := ⟨h.v, h.g, by have := h.s; rw [Nat.pow_succ]; omega, by have := h.d; omega⟩
theorem TG.one {es : List D} {i : Nat} {t : D} {f : Int} (h : TG es i t) (h0 : 0 ≤ f) (h1 : f < es.length) (ha : arity es f.toNat = 1) : TG es (i + 1) (.tup [.int f, t]) := by
  refine ⟨by simp [vld, vldT, vlds, h0, h1, ha, h.v], by simp [gd, gds, h.g], ?_, ?_⟩
  · have := h.s
    simp only [szD, szT, szs]
    rw [Nat.pow_succ]
    omega
  · have := h.d
    simp only [dpD, dpT, dps]
    omega
theorem TG.two {es : List D} {i : Nat} {t u : D} {f : Int} (h : TG es i t) (k : TG es i u) (h0 : 0 ≤ f) (h1 : f < es.length) (ha : arity es f.toNat = 2) : TG es (i + 1) (.tup [.int f, t, u]) := by
  refine ⟨by simp [vld, vldT, vlds, h0, h1, ha, h.v, k.v], by simp [gd, gds, h.g, k.g], ?_, ?_⟩
  · have := h.s
    have := k.s
    simp only [szD, szT, szs]
    rw [Nat.pow_succ]
    omega
  · have := h.d
    have := k.d
    simp only [dpD, dpT, dps]
    omega
theorem TG.leaf {es : List D} {f : Nat} (h1 : f < es.length) (ha : arity es f = 0) : TG es 0 (.tup [.int (f : Nat)]) :=
  ⟨by simp [vld, vldT, vlds, h1, ha], by simp [gd, gds], by simp [szD, szT, szs], by simp [dpD, dpT, dps]⟩
structure TreeOk (es : List D) (t : D) : Prop where
  b : treeB es t = true
  g : gd t = true
theorem TG.ok {es : List D} {i : Nat} {t : D} (h : TG es i t) (hi : i ≤ 7) : TreeOk es t := by
  have h1 := h.s
  have h2 := h.d
  have : 2 ^ (i + 1) ≤ 2 ^ 8 := Nat.pow_le_pow_right (by decide) (by omega)
  exact ⟨by unfold treeB; rw [h.v, decide_eq_true (show szD t ≤ 1000 by omega), decide_eq_true (show dpD t ≤ 60 by omega)]; rfl, h.g⟩
def sp__law_tree : DSp := fun ds m Q _ => match ds with
  | [.ref a, .tup es, .int n] => Well m a ∧ sigB (.tup es) = true ∧ gds es = true ∧ 0 ≤ n ∧ n ≤ 7 ∧ ∀ t o, TG es n.toNat t → WellV o → Q t (put m a o)
  | _ => False
def t__law_tree : DTS :=
  dSeq (dAsg (dLc true (diRange1 (dCons (dCall lenR (dCons (dVar 1) dNil)) dNil)) (dgName 3) (dTest (dOp eqR (dOp ixR (dOp ixR (dVar 1) (dVar 3)) (dC (.int 1))) (dC (.int 0)))) (dTup (dCons (dVar 3) dNil)) [3]) (dgName 4)) <|
  dSeq (dAsg (dOp ixR (dVar 4) (dCallF 2 sp__law_draw (dCons (dVar 0) (dCons (dCall lenR (dCons (dVar 4) dNil)) dNil)))) (dgName 5)) <|
  dSeq (dFor (diRange1 (dCons (dVar 2) dNil)) (dgName 6) (dSeq (dAsg (dCallF 2 sp__law_draw (dCons (dVar 0) (dCons (dCall lenR (dCons (dVar 1) dNil)) dNil))) (dgName 3)) <|
      dSeq (dAsg (dOp ixR (dVar 4) (dCallF 2 sp__law_draw (dCons (dVar 0) (dCons (dCall lenR (dCons (dVar 4) dNil)) dNil)))) (dgName 7)) <|
      dSeq (dIfS (dTest (dOp eqR (dOp ixR (dOp ixR (dVar 1) (dVar 3)) (dC (.int 1))) (dC (.int 1)))) (dAsg (dTup (dCons (dVar 3) (dCons (dVar 5) dNil))) (dgName 5)) (dIfS (dTest (dOp eqR (dOp ixR (dOp ixR (dVar 1) (dVar 3)) (dC (.int 1))) (dC (.int 2)))) (dAsg (dOp ixR (dLst false (dCons (dTup (dCons (dVar 3) (dCons (dVar 5) (dCons (dVar 7) dNil)))) (dCons (dTup (dCons (dVar 3) (dCons (dVar 7) (dCons (dVar 5) dNil)))) dNil))) (dCallF 2 sp__law_draw (dCons (dVar 0) (dCons (dC (.int 2)) dNil)))) (dgName 5)) (dNext))) <|
      dDrop (dBM appendR (dVar 4) (dCons (dVar 5) dNil)))) <|
  dRet (dVar 5)
theorem ixL {m : AH} {xs : List D} {Q : DQ} {i : Int} {x : D} (e : atI xs i = some x) (q : Q x m) : ixR (.lst xs) (.int i) m Q := by
  simp only [ixR]
  exact .inl ⟨xs, x, rfl, e, q⟩
theorem ixT {m : AH} {xs : List D} {Q : DQ} {i : Int} {x : D} (e : atI xs i = some x) (q : Q x m) : ixR (.tup xs) (.int i) m Q := by
  simp only [ixR]
  exact .inl ⟨xs, x, rfl, e, q⟩
theorem lenRp {m : AH} {p : Addr} {xs : List D} {Q : DQ} (h : m p = some (.lst xs)) (q : Q (.int xs.length) m) : lenR [.ref p] m Q := ⟨xs, asQp h, q⟩
theorem at_mem {xs : List D} {r : Int} (h0 : 0 ≤ r) (h1 : r < xs.length) : ∃ x, x ∈ xs ∧ atI xs r = some x := by
  have h2 : r.toNat < xs.length := by omega
  exact ⟨xs[r.toNat], List.getElem_mem h2, by rw [atN h0 h1]; exact List.getElem?_eq_getElem h2⟩
theorem v__law_tree {W : DW} {E : DEnds} {m : AH} {a : Addr} {es : List D} {n : Int} (hw : Well m a) (hs : sigB (.tup es) = true) (gs : gds es = true) (n0 : 0 ≤ n) (n7 : n ≤ 7) (q : ∀ t o m', TG es n.toNat t → WellV o → Le (put m a o) m' → E.rt t m') :
    t__law_tree W E [some (.ref a), some (.tup es), some (.int n), none, none, none, none, none] m := by
  have big : (1000000 : Nat) ≤ sizeLine := sl0
  obtain ⟨s1, s2, ent⟩ := sig_ent hs
  have entI : ∀ f : Int, 0 ≤ f → f < es.length → ∃ nm, atI es f = some (.tup [.str nm, .int (arity es f.toNat)]) ∧ 0 ≤ arity es f.toNat ∧ arity es f.toNat ≤ 2 := fun f f0 f1 => by
    obtain ⟨nm, e, h⟩ := ent f.toNat (by omega)
    exact ⟨nm, by rw [atN f0 f1]; exact e, h⟩
  unfold t__law_tree
  simp only [S, SS', SL, List.set, List.getElem?_cons_zero, List.getElem?_cons_succ, Option.some.injEq, exists_eq_left', true_and, lenR, VL]
  refine ⟨_, rfl, ⟨by omega, by omega⟩, ?_⟩
  rw [Int.toNat_natCast]
  refine lc_mu (rng 0 1 es.length) (fun d => if arity es (num d).toNat = 0 then some (.tup [d]) else none) (fun _ _ => rfl) (by rw [rng1_len]; omega) (fun x hx m2 C N _ hC hN => ?_) (fun p hp => ?_)
  · obtain ⟨k, hk, rfl⟩ := rng_mem hx
    obtain ⟨nm, e, _⟩ := entI k (by omega) (by omega)
    simp only [S, SS', wipeD, List.set, List.getElem?_cons_zero, List.getElem?_cons_succ, Option.some.injEq, exists_eq_left', true_and, List.length_cons, List.length_nil]
    refine ixT e (ixT atL1 ?_)
    simp only [eqR, VL, eqI, true_and]
    refine ⟨by decide, _, rfl, ?_⟩
    rw [Int.toNat_natCast]
    have ek : (num (.int (k : Nat))).toNat = k := by simp [num]
    by_cases c : arity es k = 0
    · rw [if_pos (by simpa using c)]
      exact ⟨by omega, hC _ (by simp only [ek, if_pos c])⟩
    · rw [if_neg (by simpa using c)]
      exact hN (by simp only [ek, if_neg c])
  · have ne : a ≠ p := fun z => by
      obtain ⟨o, e, _⟩ := hw
      rw [← z, e] at hp
      cases hp
    have comm : ∀ {m : AH} {o : MO} {x : MO}, put (put m p x) a o = put (put m a o) p x := fun {m o x} => AP.put_comm (Ne.symm ne)
    have pool : ∀ x ∈ (rng 0 1 es.length).filterMap (fun d => if arity es (num d).toNat = 0 then some (.tup [d]) else none), TG es 0 x := fun x hx => by
      obtain ⟨d, hd, e⟩ := List.mem_filterMap.mp hx
      obtain ⟨k, hk, rfl⟩ := rng_mem hd
      have ek : (num (.int (k : Nat))).toNat = k := by simp [num]
      rw [ek] at e
      by_cases c : arity es k = 0
      · rw [if_pos c] at e
        cases e
        exact TG.leaf hk c
      · rw [if_neg c] at e
        cases e
    have pl : ((rng 0 1 es.length).filterMap (fun d => if arity es (num d).toNat = 0 then some (D.tup [d]) else none)).length ≤ es.length := by
      have := List.length_filterMap_le (fun d => if arity es (num d).toNat = 0 then some (D.tup [d]) else none) (rng 0 1 es.length)
      rw [rng1_len] at this
      exact this
    have pn : 1 ≤ ((rng 0 1 es.length).filterMap (fun d => if arity es (num d).toNat = 0 then some (D.tup [d]) else none)).length := by
      have hz := hs
      simp only [sigB, Bool.and_eq_true, decide_eq_true_eq] at hz
      obtain ⟨_, e, he, ze⟩ := hz
      obtain ⟨k, hk, ek⟩ := List.getElem_of_mem he
      have ak : arity es k = 0 := by
        unfold arity
        rw [List.getD_eq_getElem?_getD, List.getElem?_eq_getElem hk, ek]
        exact ze
      have : D.tup [.int (k : Nat)] ∈ (rng 0 1 es.length).filterMap (fun d => if arity es (num d).toNat = 0 then some (D.tup [d]) else none) := by
        refine List.mem_filterMap.mpr ⟨.int (k : Nat), ?_, ?_⟩
        · refine List.mem_of_getElem? (i := k) ?_
          unfold rng
          rw [List.getElem?_map, List.getElem?_range hk]
          simp
        · have ek : (num (.int (k : Nat))).toNat = k := by simp [num]
          rw [ek, if_pos ak]
      exact List.length_pos_of_mem this
    generalize (rng 0 1 es.length).filterMap (fun d => if arity es (num d).toNat = 0 then some (D.tup [d]) else none) = ps at *
    simp only [S, SS', SL, List.set, List.getElem?_cons_zero, List.getElem?_cons_succ, Option.some.injEq, exists_eq_left', true_and, List.length_cons, List.length_nil]
    refine ⟨_, asQp put_same, ?_⟩
    simp only [sp__law_draw]
    refine ⟨Well.other hw ne, by omega, by omega, fun r o1 r0 r1 w1 => ?_⟩
    rw [comm]
    obtain ⟨t, mt, et⟩ := at_mem r0 r1
    refine ixR_w put_same et ?_
    refine ⟨_, rfl, ⟨by omega, by omega⟩, ?_⟩
    refine for_fix (rng 0 1 n.toNat) (fun i δ m' => ∃ o ps t f s w, WellV o ∧ m' = put (put m a o) p (.lst ps) ∧ δ = [some (.ref a), some (.tup es), some (.int n), f, some (.ref p), some t, s, w] ∧ TG es i t ∧ (∀ x ∈ ps, TG es i x) ∧ 1 ≤ ps.length ∧ ps.length ≤ 12 + i) (fun _ _ _ _ => rfl)
      ⟨o1, ps, t, none, none, none, w1, rfl, rfl, pool t mt, pool, pn, by omega⟩ ?_ ?_
    · clear mt et pool pl pn r0 r1
      rintro i k x δ m' hx hi hl ⟨o, ps, t, f, s, w, wo, rfl, rfl, ht, hp', l1, l2⟩
      rw [rng1_len] at hl
      have fin : ∀ (o' : MO) (t' : D) (f' s' w' : Option D), WellV o' → TG es (i + 1) t' → (∃ xs, asL (put (put m a o') p (.lst ps)) (.ref p) = some xs) ∧ appendR (.ref p) [t'] (put (put m a o') p (.lst ps)) fun _ m1 =>
          fN (rng 0 1 n.toNat) (fun i δ m' => ∃ o ps t f s w, WellV o ∧ m' = put (put m a o) p (.lst ps) ∧ δ = [some (.ref a), some (.tup es), some (.int n), f, some (.ref p), some t, s, w] ∧ TG es i t ∧ (∀ x ∈ ps, TG es i x) ∧ 1 ≤ ps.length ∧ ps.length ≤ 12 + i) i k
            [some (.ref a), some (.tup es), some (.int n), f', some (.ref p), some t', s', w'] m1 := fun o' t' f' s' w' wo' ht' => by
        refine ⟨⟨_, asLp⟩, _, put_same, by omega, ?_⟩
        rw [put_put]
        refine fN_intro hi (by rw [rng1_len]; exact hl) ⟨o', ps ++ [t'], t', f', s', w', wo', rfl, rfl, ht', fun x hx => ?_, by simp, by simp; omega⟩
        rcases List.mem_append.mp hx with z | z
        · exact (hp' x z).up
        · rw [List.mem_singleton.mp z]
          exact ht'
      simp only [S, SS', List.set, List.getElem?_cons_zero, List.getElem?_cons_succ, Option.some.injEq, exists_eq_left', true_and, List.length_cons, List.length_nil, sp__law_draw, lenR, VL]
      refine ⟨Well.other (Well.put wo) ne, by omega, by omega, fun r1 o1 r0 r1' w1 => ?_⟩
      rw [comm, put_put]
      refine ⟨_, asQp put_same, Well.other (Well.put w1) ne, by omega, by omega, fun r2 o2 r20 r21 w2 => ?_⟩
      rw [comm, put_put]
      obtain ⟨u, mu, eu⟩ := at_mem r20 r21
      obtain ⟨nm, en, a0, a2⟩ := entI r1 r0 r1'
      refine ixR_w put_same eu (ixT en (ixT atL1 ?_))
      simp only [eqR, VL, eqI, true_and]
      refine ⟨by decide, _, rfl, ?_⟩
      by_cases c1 : arity es r1.toNat = 1
      · rw [if_pos (by simpa using c1)]
        exact ⟨by omega, fin o2 _ _ _ _ w2 (ht.one r0 r1' c1)⟩
      · rw [if_neg (by simpa using c1)]
        refine ixT en (ixT atL1 ?_)
        simp only [eqR, VL, eqI, true_and]
        refine ⟨by decide, _, rfl, ?_⟩
        by_cases c2 : arity es r1.toNat = 2
        · rw [if_pos (by simpa using c2)]
          refine ⟨by omega, by omega, by omega, Well.other (Well.put w2) ne, by decide, by decide, fun r3 o3 r30 r31 w3 => ?_⟩
          rw [comm, put_put]
          have c3 : r3 = 0 ∨ r3 = 1 := by omega
          rcases c3 with rfl | rfl
          · exact ixL atL0 (fin o3 _ _ _ _ w3 (ht.two (hp' u mu) r0 r1' c2))
          · exact ixL atL1 (fin o3 _ _ _ _ w3 ((hp' u mu).two ht r0 r1' c2))
        · rw [if_neg (by simpa using c2)]
          exact fin o2 t _ _ _ w2 ht.up
    · rintro δ m' ⟨o, ps, t, f, s, w, wo, rfl, rfl, ht, _⟩
      rw [rng1_len] at ht
      have pn : (put m a o) p = none := by rw [put_ne (Ne.symm ne)]; exact hp
      exact ⟨t, rfl, q t o _ ht wo (Le.new pn)⟩
end L2.AP
set_option Elab.async false
set_option linter.all false
set_option maxRecDepth 100000
set_option maxHeartbeats 4000000
/-! VA: each common def's reading keeps its promise. -/
namespace L2.AP
open PySem PySem.Spec PyProof.Rows
theorem rt {Q : DQ} {d : D} {m : AH} (q : Q d m) : ∃ m', Le m' m ∧ Q d m' := ⟨m, Le.refl _, q⟩
theorem V_is_int : ∀ ds m Q E, ds.length = 1 → sp_is_int ds m Q E → t_is_int (fun cls d _ m' => E cls d m') (bodyEnds Q) (startD ["thing"] ds) m := by
  intro ds m Q E hl q
  unfold sp_is_int at q
  split at q
  · exact v_is_int q.1 (rt q.2)
  · exact q.elim
theorem V_within : ∀ ds m Q E, ds.length = 3 → sp_within ds m Q E → t_within (fun cls d _ m' => E cls d m') (bodyEnds Q) (startD ["thing", "low", "high"] ds) m := by
  intro ds m Q E hl q
  unfold sp_within at q
  split at q
  · exact v_within q.1 (rt q.2)
  · exact q.elim
theorem V_is_row : ∀ ds m Q E, ds.length = 3 → sp_is_row ds m Q E → t_is_row (fun cls d _ m' => E cls d m') (bodyEnds Q) (startD ["thing", "low", "high"] ds) m := by
  intro ds m Q E hl q
  unfold sp_is_row at q
  split at q
  · exact v_is_row q.1 (rt q.2)
  · exact q.elim
theorem V_is_low_name : ∀ ds m Q E, ds.length = 1 → sp_is_low_name ds m Q E → t_is_low_name (fun cls d _ m' => E cls d m') (bodyEnds Q) (startD ["thing", "sign"] ds) m := by
  intro ds m Q E hl q
  unfold sp_is_low_name at q
  split at q
  · exact v_is_low_name q.1 (rt q.2)
  · exact q.elim
theorem V_is_signature : ∀ ds m Q E, ds.length = 1 → sp_is_signature ds m Q E → t_is_signature (fun cls d _ m' => E cls d m') (bodyEnds Q) (startD ["thing", "names", "entry", "name", "arity"] ds) m := by
  intro ds m Q E hl q
  unfold sp_is_signature at q
  split at q
  · exact v_is_signature q.1 (rt q.2)
  · exact q.elim
theorem V_need_signature (X : Ex) : ∀ ds m Q E, ds.length = 1 → sp_need_signature X ds m Q E → t_need_signature X (fun cls d _ m' => E cls d m') (bodyEnds Q) (startD ["signature"] ds) m := by
  intro ds m Q E hl q
  unfold sp_need_signature at q
  split at q
  · exact v_need_signature X q.1 (fun δ h => rt (q.2.1 h)) fun δ h => q.2.2 h
  · exact q.elim
theorem V_is_small_tree : ∀ ds m Q E, ds.length = 2 → sp_is_small_tree ds m Q E → t_is_small_tree (fun cls d _ m' => E cls d m') (bodyEnds Q) (startD ["signature", "thing", "waiting", "size", "part", "depth", "child"] ds) m := by
  intro ds m Q E hl q
  unfold sp_is_small_tree at q
  split at q
  · exact v_is_small_tree q.1 q.2.1 q.2.2.1 fun m' l => ⟨_, l, q.2.2.2⟩
  · exact q.elim
theorem V_is_tree (X : Ex) : ∀ ds m Q E, ds.length = 2 → sp_is_tree X ds m Q E → t_is_tree X (fun cls d _ m' => E cls d m') (bodyEnds Q) (startD ["signature", "thing"] ds) m := by
  intro ds m Q E hl q
  unfold sp_is_tree at q
  split at q
  · exact v_is_tree X q.1 q.2.1 (fun h => rt (q.2.2.1 h)) fun δ h => q.2.2.2 h
  · exact q.elim
theorem V_need_tree (X : Ex) : ∀ ds m Q E, ds.length = 2 → sp_need_tree X ds m Q E → t_need_tree X (fun cls d _ m' => E cls d m') (bodyEnds Q) (startD ["signature", "tree"] ds) m := by
  intro ds m Q E hl q
  unfold sp_need_tree at q
  split at q
  · exact v_need_tree X q.1 q.2.1 (fun δ h1 h2 => rt (q.2.2.1 h1 h2)) (fun δ h1 h2 => q.2.2.2.1 h1 h2) fun δ h => q.2.2.2.2 h
  · exact q.elim
theorem V_size_of : ∀ ds m Q E, ds.length = 1 → sp_size_of ds m Q E → t_size_of (fun cls d _ m' => E cls d m') (bodyEnds Q) (startD ["tree", "waiting", "size", "part"] ds) m := by
  intro ds m Q E hl q
  unfold sp_size_of at q
  split at q
  · exact v_size_of q.1 q.2.1 q.2.2.1 fun m' l => ⟨_, l, q.2.2.2⟩
  · exact q.elim
theorem V_depth_of : ∀ ds m Q E, ds.length = 1 → sp_depth_of ds m Q E → t_depth_of (fun cls d _ m' => E cls d m') (bodyEnds Q) (startD ["tree", "level", "depth", "part", "child"] ds) m := by
  intro ds m Q E hl q
  unfold sp_depth_of at q
  split at q
  · exact v_depth_of q.1 q.2.1 q.2.2.1 (rt q.2.2.2)
  · exact q.elim
theorem V_tree_size (X : Ex) : ∀ ds m Q E, ds.length = 2 → sp_tree_size X ds m Q E → t_tree_size X (fun cls d _ m' => E cls d m') (bodyEnds Q) (startD ["signature", "tree"] ds) m := by
  intro ds m Q E hl q
  unfold sp_tree_size at q
  split at q
  · exact v_tree_size X q.1 q.2.1 (fun h1 h2 => rt (q.2.2.1 h1 h2)) (fun δ h1 h2 => q.2.2.2.1 h1 h2) fun δ h => q.2.2.2.2 h
  · exact q.elim
theorem V_tree_depth (X : Ex) : ∀ ds m Q E, ds.length = 2 → sp_tree_depth X ds m Q E → t_tree_depth X (fun cls d _ m' => E cls d m') (bodyEnds Q) (startD ["signature", "tree"] ds) m := by
  intro ds m Q E hl q
  unfold sp_tree_depth at q
  split at q
  · exact v_tree_depth X q.1 q.2.1 (fun h1 h2 => rt (q.2.2.1 h1 h2)) (fun δ h1 h2 => q.2.2.2.1 h1 h2) fun δ h => q.2.2.2.2 h
  · exact q.elim
theorem V__law_well : ∀ ds m Q E, ds.length = 1 → sp__law_well ds m Q E → t__law_well (fun cls d _ m' => E cls d m') (bodyEnds Q) (startD ["script", "cell"] ds) m := by
  intro ds m Q E hl q
  unfold sp__law_well at q
  split at q
  · obtain ⟨⟨ns, e, hn⟩, q⟩ := q
    subst e
    exact v__law_well hn fun p o hp wo => rt (q p o hp wo)
  · exact q.elim
theorem V__law_draw : ∀ ds m Q E, ds.length = 2 → sp__law_draw ds m Q E → t__law_draw (fun cls d _ m' => E cls d m') (bodyEnds Q) (startD ["well", "many", "cell", "weight", "found"] ds) m := by
  intro ds m Q E hl q
  unfold sp__law_draw at q
  split at q
  · exact v__law_draw q.1 q.2.1 q.2.2.1 fun r o r0 r1 wo => rt (q.2.2.2 r o r0 r1 wo)
  · exact q.elim
theorem V__law_signature : ∀ ds m Q E, ds.length = 1 → sp__law_signature ds m Q E → t__law_signature (fun cls d _ m' => E cls d m') (bodyEnds Q) (startD ["well", "arities", "turn", "names", "k"] ds) m := by
  intro ds m Q E hl q
  unfold sp__law_signature at q
  split at q
  · exact v__law_signature q.1 fun s o h1 h2 wo => rt (q.2 s o h1 h2 wo)
  · exact q.elim
theorem V__law_tree : ∀ ds m Q E, ds.length = 3 → sp__law_tree ds m Q E → t__law_tree (fun cls d _ m' => E cls d m') (bodyEnds Q) (startD ["well", "signature", "steps", "f", "pool", "tree", "step", "other"] ds) m := by
  intro ds m Q E hl q
  unfold sp__law_tree at q
  split at q
  · exact v__law_tree q.1 q.2.1 q.2.2.1 q.2.2.2.1 q.2.2.2.2.1 fun t o m' ht wo l => ⟨_, l, q.2.2.2.2.2 t o ht wo⟩
  · exact q.elim
end L2.AP
set_option Elab.async false
set_option linter.all false
set_option maxRecDepth 100000
set_option maxHeartbeats 4000000
/-! R1: rules. -/
namespace L2.AP
open PySem PySem.Spec PyProof.Rows
/-- the usual rows for simp -/
theorem SB : (∀ {α : Type} (a : α) (l : List α), (a :: l)[0]? = some a) ∧ (∀ {α : Type} (a : α) (l : List α) (i : Nat), (a :: l)[i + 1]? = l[i]?) ∧ (∀ {α : Type} (a b : α), (some a = some b) = (a = b)) ∧ (∀ p, (True ∧ p) = p) ∧
    (∀ {α : Type} (a : α) (l : List α), (a :: l).length = l.length + 1) ∧ (∀ {α : Type}, ([] : List α).length = 0) ∧ (∀ i j, (D.int i = D.int j) = (i = j)) ∧ (∀ i j, (D.bl i = D.bl j) = (i = j)) ∧ (∀ {α : Type} (a : α) (p : α → Prop), (∃ x, a = x ∧ p x) = p a) ∧
    (∀ {α : Type} (a b : α) (l : List α), (a :: l).set 0 b = b :: l) ∧ (∀ {α : Type} (a b : α) (l : List α) (n : Nat), (a :: l).set (n + 1) b = a :: l.set n b) :=
  ⟨by intros; simp, by intros; simp, by intros; simp, by intros; simp, by intros; simp, by intros; simp, by intros; simp, by intros; simp, by intros; simp, by intros; simp, by intros; simp⟩
theorem KDT : isKd .int .int = true ∧ isKd .int .bool = false ∧ isKd .int .str = false ∧ isKd .int .none = false ∧ isKd .int .tuple = false ∧ isKd .int .list = false ∧ isKd .bool .int = true ∧ isKd .bool .bool = true ∧ isKd .bool .str = false ∧ isKd .bool .none = false ∧ isKd .bool .tuple = false ∧ isKd .bool .list = false ∧ isKd .str .int = false ∧ isKd .str .bool = false ∧ isKd .str .str = true ∧ isKd .str .none = false ∧ isKd .str .tuple = false ∧ isKd .str .list = false ∧ isKd .none .int = false ∧ isKd .none .bool = false ∧ isKd .none .str = false ∧ isKd .none .none = true ∧ isKd .none .tuple = false ∧ isKd .none .list = false ∧ isKd .tuple .int = false ∧ isKd .tuple .bool = false ∧ isKd .tuple .str = false ∧ isKd .tuple .none = false ∧ isKd .tuple .tuple = true ∧ isKd .tuple .list = false ∧ isKd .list .int = false ∧ isKd .list .bool = false ∧ isKd .list .str = false ∧ isKd .list .none = false ∧ isKd .list .tuple = false ∧ isKd .list .list = true := by decide
/-- truths of known things -/
theorem TR : (∀ (m : AH) (b : Bool) (P : Bool → Prop) (R : Str → Prop), ((∃ k, truth m (.bl b) = some k ∧ P k) ∨ ∃ x, D.bl b = .str x ∧ R x) = P b) ∧
    (∀ (m : AH) (i : Int) (P : Bool → Prop) (R : Str → Prop), ((∃ k, truth m (.int i) = some k ∧ P k) ∨ ∃ x, D.int i = .str x ∧ R x) = P (i != 0)) ∧
    (∀ (m : AH) (xs : List D) (P : Bool → Prop) (R : Str → Prop), ((∃ k, truth m (.tup xs) = some k ∧ P k) ∨ ∃ x, D.tup xs = .str x ∧ R x) = P (!xs.isEmpty)) ∧
    (∀ (m : AH) (xs : List D) (P : Bool → Prop) (R : Str → Prop), ((∃ k, truth m (.lst xs) = some k ∧ P k) ∨ ∃ x, D.lst xs = .str x ∧ R x) = P (!xs.isEmpty)) ∧
    (∀ (m : AH) (P : Bool → Prop) (R : Str → Prop), ((∃ k, truth m .non = some k ∧ P k) ∨ ∃ x, D.non = .str x ∧ R x) = P false) :=
  ⟨by intros; simp [truth], by intros; simp [truth], (fun m xs P R => by cases xs <;> simp [truth]), (fun m xs P R => by cases xs <;> simp [truth]), by intros; simp [truth]⟩
/-! ### trees as keys -/
mutual
theorem tree_key {es : List D} : ∀ d : D, vld es d = true → ∃ k, keyD d = some k ∧ k.depth = dpD d
  | .tup xs, h => by
    obtain ⟨ks, e, hd⟩ := treeT_key xs (by simpa [vld] using h)
    refine ⟨.tup ks, by simp [keyD, e], ?_⟩
    simp only [NestedKey.depth, dpD, hd]
  | .non, h => by simp [vld] at h
  | .bl _, h => by simp [vld] at h
  | .int _, h => by simp [vld] at h
  | .str _, h => by simp [vld] at h
  | .ref _, h => by simp [vld] at h
  | .ty _, h => by simp [vld] at h
  | .fn _, h => by simp [vld] at h
  | .rdl _, h => by simp [vld] at h
  | .lst _, h => by simp [vld] at h
theorem treeT_key {es : List D} : ∀ xs : List D, vldT es xs = true → ∃ ks, keysD xs = some ks ∧ NestedKey.depthAll ks + 1 = dpT xs
  | [], h => by simp [vldT] at h
  | x :: cs, h => by
    simp only [vldT, Bool.and_eq_true] at h
    obtain ⟨h1, h2⟩ := h
    obtain ⟨ks, e, hd⟩ := trees_key cs h2
    cases x with
    | int f =>
      refine ⟨.num f :: ks, by simp [keysD, keyD, e], ?_⟩
      simp only [NestedKey.depthAll, NestedKey.depth, dpT, hd]
      omega
    | _ => simp at h1
theorem trees_key {es : List D} : ∀ cs : List D, vlds es cs = true → ∃ ks, keysD cs = some ks ∧ NestedKey.depthAll ks = dps cs
  | [], _ => ⟨[], rfl, rfl⟩
  | c :: cs, h => by
    simp only [vlds, Bool.and_eq_true] at h
    obtain ⟨k, e1, d1⟩ := tree_key c h.1
    obtain ⟨ks, e2, d2⟩ := trees_key cs h.2
    exact ⟨k :: ks, by simp [keysD, e1, e2], by simp only [NestedKey.depthAll, dps, d1, d2]⟩
end
mutual
theorem eqD_key : ∀ (d e : D) (k l : NestedKey), keyD d = some k → keyD e = some l → eqD d e = NestedKey.beq k l
  | .non, e, k, l, h1, h2 => by
    cases h1
    cases e <;> first | (cases h2; first | rfl | (simp [eqD, NestedKey.beq]; done) | (simp [eqD, NestedKey.beq]; exact Bool.eq_iff_iff.mpr (by first | (simp; done) | (rename_i c; revert c; revert b; decide)))) | (simp only [keyD] at h2; obtain ⟨_, _, rfl⟩ := Option.map_eq_some_iff.mp h2; simp [eqD, NestedKey.beq]) | cases h2
  | .bl b, e, k, l, h1, h2 => by
    cases h1
    cases e <;> first | (cases h2; first | rfl | (simp [eqD, NestedKey.beq]; done) | (simp [eqD, NestedKey.beq]; exact Bool.eq_iff_iff.mpr (by first | (simp; done) | (rename_i c; revert c; revert b; decide)))) | (simp only [keyD] at h2; obtain ⟨_, _, rfl⟩ := Option.map_eq_some_iff.mp h2; simp [eqD, NestedKey.beq]) | cases h2
  | .int i, e, k, l, h1, h2 => by
    cases h1
    cases e <;> first | (cases h2; first | rfl | (simp [eqD, NestedKey.beq]; done) | (simp [eqD, NestedKey.beq]; exact Bool.eq_iff_iff.mpr (by first | (simp; done) | (rename_i c; revert c; revert b; decide)))) | (simp only [keyD] at h2; obtain ⟨_, _, rfl⟩ := Option.map_eq_some_iff.mp h2; simp [eqD, NestedKey.beq]) | cases h2
  | .str z, e, k, l, h1, h2 => by
    cases h1
    cases e <;> first | (cases h2; first | rfl | (simp [eqD, NestedKey.beq]; done) | (simp [eqD, NestedKey.beq]; exact Bool.eq_iff_iff.mpr (by first | (simp; done) | (rename_i c; revert c; revert b; decide)))) | (simp only [keyD] at h2; obtain ⟨_, _, rfl⟩ := Option.map_eq_some_iff.mp h2; simp [eqD, NestedKey.beq]) | cases h2
  | .ref _, _, _, _, h1, _ => by cases h1
  | .ty _, _, _, _, h1, _ => by cases h1
  | .fn _, _, _, _, h1, _ => by cases h1
  | .rdl _, _, _, _, h1, _ => by cases h1
  | .lst _, _, _, _, h1, _ => by cases h1
  | .tup xs, e, k, l, h1, h2 => by
    simp only [keyD] at h1
    obtain ⟨ks, e1, rfl⟩ := Option.map_eq_some_iff.mp h1
    cases e with
    | tup ys =>
      simp only [keyD] at h2
      obtain ⟨ls, e2, rfl⟩ := Option.map_eq_some_iff.mp h2
      rw [eqD, NestedKey.beq]
      exact eqDs_key xs ys ks ls e1 e2
    | _ => first | (cases h2; simp [eqD, NestedKey.beq]) | cases h2
theorem eqDs_key : ∀ (xs ys : List D) (ks ls : List NestedKey), keysD xs = some ks → keysD ys = some ls → eqDs xs ys = NestedKey.beqAll ks ls
  | [], [], _, _, h1, h2 => by cases h1; cases h2; rfl
  | [], y :: ys, _, _, h1, h2 => by
    cases h1
    obtain ⟨l, ls, rfl, _, _⟩ := keysD_cons h2
    rfl
  | x :: xs, [], _, _, h1, h2 => by
    cases h2
    obtain ⟨l, ls, rfl, _, _⟩ := keysD_cons h1
    rfl
  | x :: xs, y :: ys, _, _, h1, h2 => by
    obtain ⟨k, ks, rfl, a1, a2⟩ := keysD_cons h1
    obtain ⟨l, ls, rfl, b1, b2⟩ := keysD_cons h2
    rw [eqDs, NestedKey.beqAll, eqD_key x y k l a1 b1, eqDs_key xs ys ks ls a2 b2]
end
mutual
theorem dep_dp {es : List D} : ∀ d : D, vld es d = true → dep d = dpD d
  | .tup xs, h => by
    rw [dep, dpD]
    exact depT_dp xs (by simpa [vld] using h)
  | .non, h => by simp [vld] at h
  | .bl _, h => by simp [vld] at h
  | .int _, h => by simp [vld] at h
  | .str _, h => by simp [vld] at h
  | .ref _, h => by simp [vld] at h
  | .ty _, h => by simp [vld] at h
  | .fn _, h => by simp [vld] at h
  | .rdl _, h => by simp [vld] at h
  | .lst _, h => by simp [vld] at h
theorem depT_dp {es : List D} : ∀ xs : List D, vldT es xs = true → deps xs + 1 = dpT xs
  | [], h => by simp [vldT] at h
  | x :: cs, h => by
    simp only [vldT, Bool.and_eq_true] at h
    have := deps_dp cs h.2
    cases x with
    | int f =>
      simp only [deps, dep, dpT, this]
      omega
    | _ => simp at h
theorem deps_dp {es : List D} : ∀ cs : List D, vlds es cs = true → deps cs = dps cs
  | [], _ => rfl
  | c :: cs, h => by
    simp only [vlds, Bool.and_eq_true] at h
    rw [deps, dps, dep_dp c h.1, deps_dp cs h.2]
end
theorem tree_parts {es : List D} {d : D} (h : treeB es d = true) : vld es d = true ∧ szD d ≤ 1000 ∧ dpD d ≤ 60 := by
  unfold treeB at h
  simpa [and_assoc] using h
/-! ### rules -/
def c_MOST_RULES : D := .int 30
def ruleB (es : List D) : D → Bool
  | .tup [l, r] => treeB es l && treeB es r && !eqD l r
  | _ => false
def keysL (xs : List D) : List NestedKey := (keysD xs).getD []
def rulesB (es : List D) : D → Bool
  | .tup xs => decide (xs.length ≤ 30) && xs.all (ruleB es) && decide (keysL xs).Nodup
  | _ => false
theorem rule_two {es : List D} {d : D} (h : ruleB es d = true) : ∃ l r, d = .tup [l, r] ∧ treeB es l = true ∧ treeB es r = true ∧ eqD l r = false := by
  unfold ruleB at h
  split at h
  · rename_i l r
    simp only [Bool.and_eq_true, Bool.not_eq_true'] at h
    exact ⟨l, r, rfl, h.1.1, h.1.2, h.2⟩
  · cases h
theorem rule_key {es : List D} {d : D} (h : ruleB es d = true) : ∃ k, keyD d = some k ∧ k.depth = dep d ∧ dep d ≤ 61 ∧ isTupD d = true := by
  obtain ⟨l, r, rfl, h1, h2, _⟩ := rule_two h
  obtain ⟨v1, _, d1⟩ := tree_parts h1
  obtain ⟨v2, _, d2⟩ := tree_parts h2
  obtain ⟨k1, e1, f1⟩ := tree_key l v1
  obtain ⟨k2, e2, f2⟩ := tree_key r v2
  refine ⟨.tup [k1, k2], by simp [keyD, keysD, e1, e2], ?_, ?_, rfl⟩
  · simp only [NestedKey.depth, NestedKey.depthAll, dep, deps, f1, f2, dep_dp l v1, dep_dp r v2]
  · simp only [dep, deps, dep_dp l v1, dep_dp r v2]
    omega
theorem rules_key {es : List D} : ∀ {xs : List D}, xs.all (ruleB es) = true → ∃ ks, keysD xs = some ks ∧ ks.length = xs.length ∧ (∀ k ∈ ks, ∃ d ∈ xs, keyD d = some k) ∧ xs.all isTupD = true
  | [], _ => ⟨[], rfl, rfl, (fun _ h => by cases h), rfl⟩
  | x :: xs, h => by
    rw [List.all_cons, Bool.and_eq_true] at h
    obtain ⟨k, e, _, _, t⟩ := rule_key h.1
    obtain ⟨ks, e2, l, m, t2⟩ := rules_key h.2
    refine ⟨k :: ks, by simp [keysD, e, e2], by simp [l], fun q hq => ?_, by rw [List.all_cons, t, t2]; rfl⟩
    rcases List.mem_cons.mp hq with z | z
    · exact ⟨x, List.mem_cons_self, by rw [z, e]⟩
    · obtain ⟨d, hd, ed⟩ := m q z
      exact ⟨d, List.mem_cons_of_mem _ hd, ed⟩
/-- the set of these may be asked -/
def tameR (es : List D) (d : D) : Prop := ∀ xs, d = .tup xs → xs.length ≤ 30 → xs.all (ruleB es) = true → ∀ w, Tame w (keysL xs)
theorem tame_low {es : List D} {d : D} (h : ∀ xs, d = .tup xs → ∀ x ∈ xs, dep x ≤ 8) : tameR es d := fun xs e _ hr w => by
  obtain ⟨ks, e1, _, m, _⟩ := rules_key hr
  refine .inl fun k hk => ?_
  have ek : keysL xs = ks := by unfold keysL; rw [e1]; rfl
  rw [ek] at hk
  obtain ⟨x, hx, ex⟩ := m k hk
  obtain ⟨k', e', d', _⟩ := rule_key (List.all_eq_true.mp hr x hx)
  rw [ex] at e'
  cases e'
  rw [d']
  exact h xs e x hx
def sp_is_rule : DSp := fun ds m Q _ => match ds with
  | [.tup es, d] => sigB (.tup es) = true ∧ gds es = true ∧ gd d = true ∧ Q (.bl (ruleB es d)) m
  | _ => False
def t_is_rule : DTS :=
  dRet (dAnd (dCallF 3 sp_is_row (dCons (dVar 1) (dCons (dC (.int 2)) (dCons (dC (.int 2)) dNil)))) (dAnd (dCall allR (dCons (dLc false (diAny (dVar 1)) (dgName 2) dYes (dCallF 2 sp_is_small_tree (dCons (dVar 0) (dCons (dVar 2) dNil))) [2]) dNil)) (dOp neR (dOp ixR (dVar 1) (dC (.int 0))) (dOp ixR (dVar 1) (dC (.int 1))))))
theorem v_is_rule {W : DW} {E : DEnds} {m : AH} {es : List D} {d : D} (hs : sigB (.tup es) = true) (gs : gds es = true) (g : gd d = true) (q : E.rt (.bl (ruleB es d)) m) : t_is_rule W E [some (.tup es), some d, none] m := by
  have base : ∀ b, ruleB es d = b → E.rt (.bl b) m := fun b e => by rw [← e]; exact q
  unfold t_is_rule
  simp only [S, SS', SL, SB, sp_is_row, g]
  by_cases h1 : rowB 2 2 d = true
  · obtain ⟨a, b, rfl⟩ := row2 h1
    simp [gd, gds] at g
    rw [if_pos h1]
    refine ⟨⟨_, rfl⟩, lc_map [a, b] (fun e => .bl (treeB es e)) (fun _ _ => rfl) (Nat.le_trans (by simp : [a, b].length ≤ 1000000) sl0) (fun x hx m2 C _ hc => ?_) ?_⟩
    · have gx : gd x = true := by
        rcases List.mem_cons.mp hx with rfl | hx
        · exact g.1
        · rw [List.mem_singleton.mp hx]; exact g.2
      simp only [S, SS', SB, wipeD, sp_is_small_tree, hs, gs, gx]
      exact hc
    · simp only [allR]
      refine ⟨[treeB es a, treeB es b], rfl, _, rfl, ?_⟩
      by_cases c : (treeB es a && treeB es b) = true
      · have c2 := c
        rw [Bool.and_eq_true] at c2
        rw [if_pos (show [treeB es a, treeB es b].all id = true by simpa using c)]
        refine ixT atL0 (ixT atL1 ?_)
        obtain ⟨v1, _, d1⟩ := tree_parts c2.1
        obtain ⟨v2, _, d2⟩ := tree_parts c2.2
        have n1 : ∀ {d m}, vld es d = true → val m d = d := fun {d m} h => by cases d <;> simp [vld] at h <;> rfl
        simp only [neR, n1 v1, n1 v2]
        refine ⟨gd_lay _ g.1, gd_lay _ g.2, ?_, base _ ?_⟩
        · rw [dep_dp a v1, dep_dp b v2]
          omega
        · simp [ruleB, c2]
      · rw [if_neg (show ¬ ([treeB es a, treeB es b].all id = true) by simpa using c)]
        refine base _ ?_
        simp only [ruleB]
        have c' : (treeB es a && treeB es b) = false := by simpa using c
        rw [c']
        rfl
  · rw [if_neg h1]
    refine base _ ?_
    unfold ruleB
    split
    · exact absurd rfl h1
    · rfl
theorem two_le {n : Nat} (h : n ≤ 1000000) : n ≤ sizeLine := Nat.le_trans h sl0
def sp_are_right_rules : DSp := fun ds m Q _ => match ds with
  | [.tup es, d] => sigB (.tup es) = true ∧ gds es = true ∧ gd d = true ∧ tameR es d ∧ Q (.bl (rulesB es d)) m
  | _ => False
def t_are_right_rules : DTS :=
  dSeq (dIfS (dOrT (dNotT (dTruth (dCallF 3 sp_is_row (dCons (dVar 1) (dCons (dC (.int 0)) (dCons (dC c_MOST_RULES) dNil)))))) (dNotT (dTruth (dCall allR (dCons (dLc false (diAny (dVar 1)) (dgName 2) dYes (dCallF 2 sp_is_rule (dCons (dVar 0) (dCons (dVar 2) dNil))) [2]) dNil))))) (dRet (dC (.bl false))) (dNext)) <|
  dRet (dOp eqR (dLenSet (dVar 1)) (dCall lenR (dCons (dVar 1) dNil)))
theorem v_are_right_rules {W : DW} {E : DEnds} {m : AH} {es : List D} {d : D} (hs : sigB (.tup es) = true) (gs : gds es = true) (g : gd d = true) (tm : tameR es d) (q : E.rt (.bl (rulesB es d)) m) : t_are_right_rules W E [some (.tup es), some d, none] m := by
  have base : ∀ b, rulesB es d = b → E.rt (.bl b) m := fun b e => by rw [← e]; exact q
  unfold t_are_right_rules
  simp only [S, SS', SL, SB, sp_is_row, g, c_MOST_RULES, VL]
  by_cases h1 : rowB 0 30 d = true
  · cases d with
    | tup xs =>
      have l1 : xs.length ≤ 30 := by
        simp [rowB] at h1
        omega
      simp only [gd] at g
      have gm := gds_mem g
      simp only [h1, Bool.not_true, Bool.false_eq_true, if_false]
      refine .inl ⟨⟨_, rfl⟩, lc_map xs (fun e => .bl (ruleB es e)) (fun _ _ => rfl) (two_le (by omega)) (fun x hx m2 C _ hc => ?_) ?_⟩
      · simp only [S, SS', SB, wipeD, sp_is_rule, hs, gs, gm x hx]
        exact hc
      · simp only [allR]
        refine ⟨xs.map (ruleB es), by simp [asL, Function.comp_def], ?_⟩
        by_cases h2 : xs.all (ruleB es) = true
        · refine .inl ⟨_, rfl, ?_⟩
          have e2 : (xs.map (ruleB es)).all id = true := by simpa [List.all_map, Function.comp_def] using h2
          simp only [e2, Bool.not_true, Bool.false_eq_true, if_false]
          obtain ⟨ks, e1, lk, mk, tk⟩ := rules_key h2
          have ek : keysL xs = ks := by unfold keysL; rw [e1]; rfl
          refine .inr ⟨xs, ks, rfl, e1, tk, by omega, fun k hk => ?_, fun w => by rw [← ek]; exact tm xs rfl l1 h2 w, fun L nd hm => ?_⟩
          · obtain ⟨x, hx, ex⟩ := mk k hk
            obtain ⟨k', e', d', l', _⟩ := rule_key (List.all_eq_true.mp h2 x hx)
            rw [ex] at e'
            cases e'
            omega
          · refine ⟨xs, rfl, ?_⟩
            simp only [eqR, VL, eqI, true_and]
            refine ⟨by decide, base _ ?_⟩
            simp only [rulesB, h2, ek, Bool.and_true, decide_eq_true l1, Bool.true_and]
            have nl := nodup_len nd hm
            rw [lk] at nl
            by_cases c : ks.Nodup
            · have := nl.mpr c
              simp [c, this]
            · have : ¬ L.length = xs.length := fun z => c (nl.mp z)
              simp [c]
              omega
        · refine .inl ⟨_, rfl, ?_⟩
          have h2' : xs.all (ruleB es) = false := by simpa using h2
          have e2 : (xs.map (ruleB es)).all id = false := by rw [List.all_map]; simpa [Function.comp_def] using h2'
          simp only [e2, Bool.not_false, if_true]
          exact base _ (by simp only [rulesB, h2']; simp)
    | _ => simp [rowB] at h1
  · have h1' : rowB 0 30 d = false := by simpa using h1
    simp only [h1', Bool.not_false, if_true]
    refine .inl (base _ ?_)
    cases d with
    | tup xs =>
      simp [rowB] at h1'
      simp only [rulesB]
      rw [decide_eq_false (by omega)]
      rfl
    | _ => rfl
variable (X : Ex)
def sp_are_rules : DSp := fun ds m Q E => match ds with
  | [s, d] => gd s = true ∧ gd d = true ∧ (sigB s = true → tameR (els s) d ∧ Q (.bl (rulesB (els s) d)) m) ∧ (sigB s = false → E (.ref (X.c "BadSignature")) none m)
  | _ => False
def t_are_rules : DTS :=
  dSeq (dDrop (dCallF 1 (sp_need_signature X) (dCons (dVar 0) dNil))) <|
  dRet (dCallF 2 sp_are_right_rules (dCons (dVar 0) (dCons (dVar 1) dNil)))
theorem v_are_rules {E : DEnds} {m : AH} {s d : D} {W : DW} (g : gd s = true) (g2 : gd d = true) (q : sigB s = true → tameR (els s) d ∧ E.rt (.bl (rulesB (els s) d)) m) (r : ∀ δ, sigB s = false → W (.ref (X.c "BadSignature")) none δ m) : t_are_rules X W E [some s, some d] m := by
  unfold t_are_rules
  simp only [S, SS', SB, sp_need_signature, g]
  refine ⟨fun h => ?_, fun h => r _ h⟩
  have e := sig_els h
  rw [e]
  simp only [sp_are_right_rules]
  rw [← e]
  exact ⟨h, gd_els g, g2, (q h).1, (q h).2⟩
def sp_need_rules : DSp := fun ds m Q E => match ds with
  | [s, d] => gd s = true ∧ gd d = true ∧ (sigB s = true → tameR (els s) d) ∧ (sigB s = true → rulesB (els s) d = true → Q .non m) ∧ (sigB s = true → rulesB (els s) d = false → E (.ref (X.c "BadRules")) none m) ∧ (sigB s = false → E (.ref (X.c "BadSignature")) none m)
  | _ => False
def t_need_rules : DTS :=
  dIfS (dNotT (dTruth (dCallF 2 (sp_are_rules X) (dCons (dVar 0) (dCons (dVar 1) dNil))))) (dRaise (X.c "BadRules")) (dNext)
theorem v_need_rules {E : DEnds} {m : AH} {s d : D} {W : DW} (g : gd s = true) (g2 : gd d = true) (tm : sigB s = true → tameR (els s) d) (q : ∀ δ, sigB s = true → rulesB (els s) d = true → E.nx δ m) (r : ∀ δ, sigB s = true → rulesB (els s) d = false → W (.ref (X.c "BadRules")) none δ m)
    (r2 : ∀ δ, sigB s = false → W (.ref (X.c "BadSignature")) none δ m) : t_need_rules X W E [some s, some d] m := by
  unfold t_need_rules
  simp only [S, SS', SB, sp_are_rules, VL, g, g2]
  refine ⟨fun h => ⟨tm h, ?_⟩, fun h => r2 _ h⟩
  cases h2 : rulesB (els s) d with
  | true => simp [q _ h h2]
  | false => simp [r _ h h2]
/-- sides exchanged -/
def swapD : D → D
  | .tup [l, r] => .tup [r, l]
  | d => d
def sp_turned : DSp := fun ds m Q _ => match ds with
  | [.tup xs] => xs.all (rowB 2 2) = true ∧ xs.length ≤ 1000 ∧ Q (.tup (xs.map swapD)) m
  | _ => False
def t_turned : DTS :=
  dRet (dCall tupleR (dCons (dLc false (diAny (dVar 0)) (dgTup 2 (dgCons (dgName 1) (dgCons (dgName 2) dgNil))) dYes (dTup (dCons (dVar 2) (dCons (dVar 1) dNil))) [1, 2]) dNil))
theorem v_turned {E : DEnds} {m : AH} {xs : List D} {W : DW} (h : xs.all (rowB 2 2) = true) (l : xs.length ≤ 1000) (q : E.rt (.tup (xs.map swapD)) m) : t_turned W E [some (.tup xs), none, none] m := by
  unfold t_turned
  simp only [S, SS', SL, SB]
  refine ⟨⟨_, rfl⟩, lc_map xs swapD (fun _ _ => rfl) (two_le (by omega)) (fun x hx m2 C _ hc => ?_) ⟨_, rfl, q⟩⟩
  obtain ⟨a, b, rfl⟩ := row2 (List.all_eq_true.mp h x hx)
  simp only [S, SS', SB, wipeD]
  exact ⟨two_le (by omega), hc⟩
theorem rule_row {es : List D} {xs : List D} (h : xs.all (ruleB es) = true) : xs.all (rowB 2 2) = true := by
  rw [List.all_eq_true] at h ⊢
  intro x hx
  obtain ⟨l, r, rfl, _⟩ := rule_two (h x hx)
  rfl
theorem rules_parts {es : List D} {d : D} (h : rulesB es d = true) : ∃ xs, d = .tup xs ∧ xs.length ≤ 30 ∧ xs.all (ruleB es) = true ∧ (keysL xs).Nodup := by
  cases d with
  | tup xs =>
    simp only [rulesB, Bool.and_eq_true, decide_eq_true_eq] at h
    exact ⟨xs, rfl, h.1.1, h.1.2, h.2⟩
  | _ => simp [rulesB] at h
/-- turned about -/
def turnD : D → D
  | .tup xs => .tup (xs.map swapD)
  | d => d
def sp_turned_about : DSp := fun ds m Q E => match ds with
  | [s, d] => gd s = true ∧ gd d = true ∧ (sigB s = true → tameR (els s) d) ∧ (sigB s = true → rulesB (els s) d = true → Q (turnD d) m) ∧ (sigB s = true → rulesB (els s) d = false → E (.ref (X.c "BadRules")) none m) ∧ (sigB s = false → E (.ref (X.c "BadSignature")) none m)
  | _ => False
def t_turned_about : DTS :=
  dSeq (dDrop (dCallF 2 (sp_need_rules X) (dCons (dVar 0) (dCons (dVar 1) dNil)))) <|
  dRet (dCallF 1 sp_turned (dCons (dVar 1) dNil))
theorem v_turned_about {E : DEnds} {m : AH} {s d : D} {W : DW} (g : gd s = true) (g2 : gd d = true) (tm : sigB s = true → tameR (els s) d) (q : sigB s = true → rulesB (els s) d = true → E.rt (turnD d) m) (r : ∀ δ, sigB s = true → rulesB (els s) d = false → W (.ref (X.c "BadRules")) none δ m)
    (r2 : ∀ δ, sigB s = false → W (.ref (X.c "BadSignature")) none δ m) : t_turned_about X W E [some s, some d] m := by
  unfold t_turned_about
  simp only [S, SS', SB, sp_need_rules, g, g2]
  refine ⟨tm, fun h1 h2 => ?_, fun h1 h2 => r _ h1 h2, fun h => r2 _ h⟩
  have q := q h1 h2
  obtain ⟨xs, rfl, l, ha, _⟩ := rules_parts h2
  simp only [sp_turned]
  exact ⟨rule_row ha, by omega, q⟩
end L2.AP
set_option Elab.async false
set_option linter.all false
set_option maxRecDepth 100000
set_option maxHeartbeats 4000000
/-! R2: the laws' own rules, and the look at what is told. -/
namespace L2.AP
open PySem PySem.Spec PyProof.Rows
theorem TG.mono {es : List D} {i j : Nat} {t : D} (h : TG es i t) (l : i ≤ j) : TG es j t := by
  induction j with
  | zero =>
    obtain rfl : i = 0 := by omega
    exact h
  | succ j ih =>
    by_cases c : i = j + 1
    · rw [← c]; exact h
    · exact (ih (by omega)).up
theorem vld_tup {es : List D} {d : D} (h : vld es d = true) : ∃ xs, d = .tup xs := by cases d <;> simp [vld] at h; exact ⟨_, rfl⟩
theorem val_vld {es : List D} {d : D} {m : AH} (h : vld es d = true) : val m d = d := by
  obtain ⟨xs, rfl⟩ := vld_tup h
  rfl
theorem TG.key {es : List D} {i : Nat} {t : D} (h : TG es i t) : ∃ k, keyD t = some k ∧ k.depth ≤ i + 1 := by
  obtain ⟨k, e, d⟩ := tree_key t h.v
  exact ⟨k, e, by rw [d]; exact h.d⟩
theorem TG.dep {es : List D} {i : Nat} {t : D} (h : TG es i t) : dep t ≤ i + 1 := by rw [dep_dp t h.v]; exact h.d
/-- a rule between drawn trees -/
def RuleG (es : List D) (n : Nat) (x : D) : Prop := ∃ l r, x = .tup [l, r] ∧ TG es n l ∧ TG es n r ∧ eqD l r = false
structure RulesG (es : List D) (n most : Nat) (xs : List D) : Prop where
  len : xs.length ≤ most
  all : ∀ x ∈ xs, RuleG es n x
  nd : (keysL xs).Nodup
theorem RuleG.b {es : List D} {n : Nat} {x : D} (h : RuleG es n x) (hn : n ≤ 7) : ruleB es x = true := by
  obtain ⟨l, r, rfl, h1, h2, h3⟩ := h
  simp [ruleB, (h1.ok hn).b, (h2.ok hn).b, h3]
theorem RuleG.g {es : List D} {n : Nat} {x : D} (h : RuleG es n x) : gd x = true := by
  obtain ⟨l, r, rfl, h1, h2, h3⟩ := h
  simp [gd, gds, h1.g, h2.g]
theorem RuleG.dep {es : List D} {n : Nat} {x : D} (h : RuleG es n x) : dep x ≤ n + 2 := by
  obtain ⟨l, r, rfl, h1, h2, h3⟩ := h
  have := h1.dep
  have := h2.dep
  simp only [AP.dep, deps]
  omega
theorem RulesG.b {es : List D} {n most : Nat} {xs : List D} (h : RulesG es n most xs) (hn : n ≤ 7) (hm : most ≤ 30) : rulesB es (.tup xs) = true := by
  have := h.len
  simp only [rulesB, Bool.and_eq_true, decide_eq_true_eq, List.all_eq_true]
  exact ⟨⟨by omega, fun x hx => (h.all x hx).b hn⟩, h.nd⟩
theorem RulesG.g {es : List D} {n most : Nat} {xs : List D} (h : RulesG es n most xs) : gd (.tup xs) = true := by
  simp only [gd]
  exact gds_of fun x hx => (h.all x hx).g
theorem RulesG.tame {es : List D} {n most : Nat} {xs : List D} (h : RulesG es n most xs) (hn : n ≤ 6) : tameR es (.tup xs) := tame_low fun ys e x hx => by
  cases e
  have := (h.all x hx).dep
  omega
theorem keysD_app {xs ys : List D} {ks ls : List NestedKey} : keysD xs = some ks → keysD ys = some ls → keysD (xs ++ ys) = some (ks ++ ls) := by
  induction xs generalizing ks with
  | nil => intro h1 h2; cases h1; exact h2
  | cons x xs ih =>
    intro h1 h2
    obtain ⟨k, ks', rfl, a1, a2⟩ := keysD_cons h1
    simp only [List.cons_append, keysD, a1, ih a2 h2]
theorem keysL_of {xs : List D} {ks : List NestedKey} (h : keysD xs = some ks) : keysL xs = ks := by unfold keysL; rw [h]; rfl
theorem keysD_mem : ∀ {xs : List D} {ks : List NestedKey}, keysD xs = some ks → ∀ k ∈ ks, ∃ d ∈ xs, keyD d = some k
  | [], _, h, k, hk => by cases h; cases hk
  | x :: xs, _, h, k, hk => by
    obtain ⟨k', ks', rfl, a1, a2⟩ := keysD_cons h
    rcases List.mem_cons.mp hk with z | z
    · exact ⟨x, List.mem_cons_self, by rw [z, a1]⟩
    · obtain ⟨d, hd, ed⟩ := keysD_mem a2 k z
      exact ⟨d, List.mem_cons_of_mem _ hd, ed⟩
theorem keysD_of : ∀ {xs : List D}, (∀ x ∈ xs, ∃ k, keyD x = some k) → ∃ ks, keysD xs = some ks ∧ ks.length = xs.length
  | [], _ => ⟨[], rfl, rfl⟩
  | x :: xs, h => by
    obtain ⟨k, e⟩ := h x List.mem_cons_self
    obtain ⟨ks, e2, l⟩ := keysD_of fun y hy => h y (List.mem_cons_of_mem _ hy)
    exact ⟨k :: ks, by simp [keysD, e, e2], by simp [l]⟩
theorem eqD_iff {d e : D} {k l : NestedKey} (h1 : keyD d = some k) (h2 : keyD e = some l) : eqD d e = true ↔ k = l := by
  rw [eqD_key d e k l h1 h2, ← NestedKey.decide_eq, decide_eq_true_eq]
theorem RuleG.key {es : List D} {n : Nat} {x : D} (h : RuleG es n x) : ∃ k, keyD x = some k := by
  obtain ⟨l, r, rfl, h1, h2, h3⟩ := h
  obtain ⟨k1, e1, _⟩ := h1.key
  obtain ⟨k2, e2, _⟩ := h2.key
  exact ⟨.tup [k1, k2], by simp [keyD, keysD, e1, e2]⟩
theorem RulesG.snoc {es : List D} {n most : Nat} {xs : List D} {x : D} (h : RulesG es n most xs) (hx : RuleG es n x) (hn : (xs.any fun z => eqD z x) = false) : RulesG es n (most + 1) (xs ++ [x]) := by
  obtain ⟨k, e⟩ := hx.key
  obtain ⟨ks, e2, _⟩ := keysD_of fun y hy => (h.all y hy).key
  refine ⟨by simp [h.len], fun y hy => ?_, ?_⟩
  · rcases List.mem_append.mp hy with z | z
    · exact h.all y z
    · rw [List.mem_singleton.mp z]; exact hx
  · rw [keysL_of (keysD_app e2 (show keysD [x] = some [k] by simp [keysD, e])), List.nodup_append]
    have nd := h.nd
    rw [keysL_of e2] at nd
    refine ⟨nd, by simp, fun a ha b hb => ?_⟩
    rw [List.mem_singleton.mp hb]
    rintro rfl
    obtain ⟨d, hd, ed⟩ := keysD_mem e2 a ha
    have := (eqD_iff ed e).mpr rfl
    have h3 := List.any_eq_false.mp hn d hd
    exact h3 this
def sp__law_rules : DSp := fun ds m Q _ => match ds with
  | [.ref a, .tup es, .int most, .int n] => Well m a ∧ sigB (.tup es) = true ∧ gds es = true ∧ 0 ≤ most ∧ most ≤ 1000 ∧ 0 ≤ n ∧ n ≤ 7 ∧ ∀ xs o, RulesG es n.toNat most.toNat xs → WellV o → Q (.tup xs) (put m a o)
  | _ => False
def t__law_rules : DTS :=
  dSeq (dAsg (dLc false (diRange1 (dCons (dC (.int 5)) dNil)) (dgName 4) dYes (dCallF 3 sp__law_tree (dCons (dVar 0) (dCons (dVar 1) (dCons (dCallF 2 sp__law_draw (dCons (dVar 0) (dCons (dOp addR (dVar 3) (dC (.int 1))) dNil))) dNil)))) [4]) (dgName 5)) <|
  dSeq (dAsg (dLst true dNil) (dgName 6)) <|
  dSeq (dFor (diRange1 (dCons (dCallF 2 sp__law_draw (dCons (dVar 0) (dCons (dOp addR (dVar 2) (dC (.int 1))) dNil))) dNil)) (dgName 4) (dSeq (dAsg (dTup (dCons (dOp ixR (dVar 5) (dCallF 2 sp__law_draw (dCons (dVar 0) (dCons (dC (.int 5)) dNil)))) (dCons (dOp ixR (dVar 5) (dCallF 2 sp__law_draw (dCons (dVar 0) (dCons (dC (.int 5)) dNil)))) dNil))) (dgName 7)) <|
      dIfS (dAndT (dTest (dOp neR (dOp ixR (dVar 7) (dC (.int 0))) (dOp ixR (dVar 7) (dC (.int 1))))) (dTest (dOp (inR true) (dVar 7) (dVar 6)))) (dDrop (dBM appendR (dVar 6) (dCons (dVar 7) dNil))) (dNext))) <|
  dRet (dCall tupleR (dCons (dVar 6) dNil))
theorem v__law_rules {W : DW} {E : DEnds} {m : AH} {a : Addr} {es : List D} {most n : Int} (hw : Well m a) (hs : sigB (.tup es) = true) (gs : gds es = true) (m0 : 0 ≤ most) (m1 : most ≤ 1000) (n0 : 0 ≤ n) (n7 : n ≤ 7)
    (q : ∀ xs o m', RulesG es n.toNat most.toNat xs → WellV o → Le (put m a o) m' → E.rt (.tup xs) m') : t__law_rules W E [some (.ref a), some (.tup es), some (.int most), some (.int n), none, none, none, none] m := by
  have big : (1000000 : Nat) ≤ sizeLine := sl0
  unfold t__law_rules
  simp only [S, SS', SL, SB]
  refine ⟨5, rfl, ⟨by decide, by decide⟩, lc_well (rng 0 1 5) (fun _ y => TG es n.toNat y) hw (fun _ => rfl) (by rw [rng1_len]; omega) (fun i x hx m2 C wm hC => ?_) (fun ss o1 hl hy w1 => ?_)⟩
  · simp only [S, SS', SB, wipeD, List.set, sp__law_draw, addR]
    refine ⟨wm, by omega, by omega, fun r o r0 r1 w2 => ?_⟩
    simp only [sp__law_tree]
    refine ⟨Well.put w2, hs, gs, r0, by omega, fun t o2 ht w3 => ?_⟩
    rw [put_put]
    exact hC t o2 (ht.mono (by omega)) w3
  · rw [rng1_len] at hl
    have ys : ∀ r : Int, 0 ≤ r → r < 5 → ∃ y, atI ss r = some y ∧ TG es n.toNat y := fun r r0 r1 => by
      have h2 : r.toNat < ss.length := by omega
      exact ⟨ss[r.toNat], by rw [atN r0 (by omega)]; exact List.getElem?_eq_getElem h2, hy _ _ (List.getElem?_eq_getElem h2)⟩
    refine ⟨by omega, fun p hp => ?_⟩
    have ne : a ≠ p := fun z => by
      rw [← z, put_same] at hp
      cases hp
    have pn : ∀ {o : MO}, (put m a o) p = none := fun {o} => by
      rw [put_ne (Ne.symm ne)] at hp ⊢
      exact hp
    have comm : ∀ {m : AH} {o : MO} {x : MO}, put (put m p x) a o = put (put m a o) p x := fun {m o x} => AP.put_comm (Ne.symm ne)
    simp only [sp__law_draw, addR]
    refine ⟨Well.other (Well.put w1) ne, by omega, by omega, fun r o2 r0 r1 w2 => ?_⟩
    rw [comm, put_put]
    refine ⟨r, rfl, ⟨by omega, by omega⟩, ?_⟩
    refine for_fix (rng 0 1 r.toNat) (fun i δ m' => ∃ o xs k x, WellV o ∧ m' = put (put m a o) p (.lst xs) ∧ δ = [some (.ref a), some (.tup es), some (.int most), some (.int n), k, some (.lst ss), some (.ref p), x] ∧ RulesG es n.toNat i xs) (fun _ _ _ _ => rfl)
      ⟨o2, [], none, none, w2, rfl, rfl, ⟨by simp, (fun x hx => by cases hx), List.nodup_nil⟩⟩ ?_ ?_
    · rintro i k x δ m' hx hi hl2 ⟨o, xs, kk, xx, wo, rfl, rfl, hR⟩
      rw [rng1_len] at hl2
      have l2 := hR.len
      simp only [S, SS', SB, List.set, sp__law_draw]
      refine ⟨Well.other (Well.put wo) ne, by decide, by decide, fun a1 o3 a10 a11 w3 => ?_⟩
      obtain ⟨y1, e1, g1⟩ := ys a1 a10 a11
      refine ixL e1 ?_
      rw [comm, put_put]
      refine ⟨Well.other (Well.put w3) ne, by decide, by decide, fun a2 o4 a20 a21 w4 => ?_⟩
      obtain ⟨y2, e2, g2⟩ := ys a2 a20 a21
      refine ixL e2 ?_
      rw [comm, put_put]
      refine ⟨by omega, ixT atL0 (ixT atL1 ?_)⟩
      simp only [neR, val_vld g1.v, val_vld g2.v, SB]
      have d1 := g1.dep
      have d2 := g2.dep
      refine ⟨gd_lay _ g1.g, gd_lay _ g2.g, by omega, ?_⟩
      have keep : ∀ x : Option D, fN (rng 0 1 r.toNat) (fun i δ m' => ∃ o xs k x, WellV o ∧ m' = put (put m a o) p (.lst xs) ∧ δ = [some (.ref a), some (.tup es), some (.int most), some (.int n), k, some (.lst ss), some (.ref p), x] ∧ RulesG es n.toNat i xs) i k
          [some (.ref a), some (.tup es), some (.int most), some (.int n), some (x.getD .non), some (.lst ss), some (.ref p), some (.tup [y1, y2])] (put (put m a o4) p (.lst xs)) := fun x =>
        fN_intro hi (by rw [rng1_len]; exact hl2) ⟨o4, xs, _, _, w4, rfl, rfl, ⟨by omega, hR.all, hR.nd⟩⟩
      cases c1 : eqD y1 y2 with
      | true =>
        simp only [Bool.not_true, Bool.false_eq_true, if_false]
        exact keep (some x)
      | false =>
        simp only [Bool.not_false, if_true]
        have hr : RuleG es n.toNat (.tup [y1, y2]) := ⟨y1, y2, rfl, g1, g2, c1⟩
        have ly : lays xs = true := lays_of fun z hz => gd_lay _ (hR.all z hz).g
        refine ⟨xs, .inl (by simp only [val, put_same]), ly, gd_lay _ hr.g, ?_, ?_⟩
        · have := hr.dep
          show min (deps xs) (dep (.tup [y1, y2])) ≤ 64
          omega
        · have ev : val (put (put m a o4) p (.lst xs)) (.tup [y1, y2]) = .tup [y1, y2] := rfl
          rw [ev]
          refine ⟨_, rfl, ?_⟩
          cases c2 : xs.any fun z => eqD z (.tup [y1, y2]) with
          | true => exact keep (some x)
          | false =>
            simp only [show ((false != true) = true) by decide, if_true]
            refine ⟨⟨_, asLp⟩, xs, put_same, by omega, ?_⟩
            rw [put_put]
            exact fN_intro hi (by rw [rng1_len]; exact hl2) ⟨o4, xs ++ [.tup [y1, y2]], _, _, w4, rfl, rfl, hR.snoc hr c2⟩
    · rintro δ m' ⟨o, xs, k, x, wo, rfl, rfl, hR⟩
      rw [rng1_len] at hR
      simp only [S, SS', SB]
      refine ⟨xs, asQp put_same, q xs o _ ⟨by have := hR.len; omega, hR.all, hR.nd⟩ wo (Le.new pn)⟩
/-! ### alike -/
mutual
def ndD : D → Nat
  | .tup xs => ndDs xs + 1
  | _ => 1
def ndDs : List D → Nat
  | [] => 0
  | d :: ds => ndD d + ndDs ds
end
theorem nd_pos (d : D) : 1 ≤ ndD d := by cases d <;> simp [ndD]
theorem nd_len : ∀ ds : List D, ds.length ≤ ndDs ds
  | [] => Nat.le_refl _
  | d :: ds => by
    have := nd_len ds
    have := nd_pos d
    rw [ndDs, List.length_cons]
    omega
theorem nd_app : ∀ xs ys : List D, ndDs (xs ++ ys) = ndDs xs + ndDs ys
  | [], ys => by simp [ndDs]
  | x :: xs, ys => by rw [List.cons_append, ndDs, ndDs, nd_app xs ys]; omega
def isKey (d : D) : Bool := (keyD d).isSome
theorem isKeys : ∀ {xs : List D}, isKey (.tup xs) = true → ∀ x ∈ xs, isKey x = true
  | xs, h, x, hx => by
    unfold isKey at h ⊢
    simp only [keyD, Option.isSome_map] at h
    induction xs with
    | nil => cases hx
    | cons y ys ih =>
      simp only [keysD] at h
      split at h
      · rename_i k ks a1 a2
        rcases List.mem_cons.mp hx with rfl | z
        · rw [a1]; rfl
        · exact ih z (by rw [a2]; rfl)
      · cases h
theorem Le.put_new {m m1 : AH} {p : Addr} {o : MO} (h : Le m m1) (n : m p = none) : Le m (AP.put m1 p o) := fun a u e => by
  by_cases c : a = p
  · subst c; rw [n] at e; cases e
  · rw [put_ne c]; exact h a u e
theorem Le.none {m m1 : AH} {p : Addr} (h : Le m m1) (n : m1 p = none) : m p = none := by
  cases c : m p with
  | none => rfl
  | some o => rw [h p o c] at n; cases n
def twin (d : D) : D := .tup [d, d]
theorem eqD_self : ∀ {d : D}, isKey d = true → eqD d d = true := fun {d} h => by
  obtain ⟨k, e⟩ := Option.isSome_iff_exists.mp h
  exact (eqD_iff e e).mpr rfl
def sp__law_alike : DSp := fun ds m Q _ => match ds with
  | [d, e] => d = e ∧ gd d = true ∧ isKey d = true ∧ ndD d ≤ 1000000 ∧ Q (.bl true) m
  | _ => False
def t_alikeB : DTS := dSeq (dAsg (dBM popR (dVar 2) dNil) (dgTup 2 (dgCons (dgName 3) (dgCons (dgName 4) dgNil)))) <|
      dIfS (dTruth (dCall (isiR .tuple) (dCons (dVar 4) (dCons (dC (.ty (Kd.name .tuple))) dNil)))) (dSeq (dIfS (dOrT (dNotT (dTruth (dCall (isiR .tuple) (dCons (dVar 3) (dCons (dC (.ty (Kd.name .tuple))) dNil))))) (dTest (dOp neR (dCall lenR (dCons (dVar 3) dNil)) (dCall lenR (dCons (dVar 4) dNil))))) (dRet (dC (.bl false))) (dNext)) <|
        dAsg (dOp addMR (dVar 2) (dLc false (diRange1 (dCons (dCall lenR (dCons (dVar 4) dNil)) dNil)) (dgName 5) dYes (dTup (dCons (dOp ixR (dVar 3) (dVar 5)) (dCons (dOp ixR (dVar 4) (dVar 5)) dNil))) [5])) (dgName 2)) (dIfS (dOrT (dTruth (dCall (isiR .tuple) (dCons (dVar 3) (dCons (dC (.ty (Kd.name .tuple))) dNil)))) (dOrT (dTest (dOp neR (dCall (isiR .bool) (dCons (dVar 3) (dCons (dC (.ty (Kd.name .bool))) dNil))) (dCall (isiR .bool) (dCons (dVar 4) (dCons (dC (.ty (Kd.name .bool))) dNil))))) (dTest (dOp neR (dCall (isiR .str) (dCons (dVar 3) (dCons (dC (.ty (Kd.name .str))) dNil))) (dCall (isiR .str) (dCons (dVar 4) (dCons (dC (.ty (Kd.name .str))) dNil))))))) (dRet (dC (.bl false))) (dIfS (dOrT (dTest (dOp neR (dOp isR (dVar 3) (dC .non)) (dOp isR (dVar 4) (dC .non)))) (dTest (dOp neR (dVar 3) (dVar 4)))) (dRet (dC (.bl false))) (dNext)))
def t__law_alike : DTS :=
  dSeq (dAsg (dLst true (dCons (dTup (dCons (dVar 0) (dCons (dVar 1) dNil))) dNil)) (dgName 2)) <|
  dSeq (dWhile (dTest (dOp neR (dVar 2) (dLst false dNil))) t_alikeB) <|
  dRet (dC (.bl true))
theorem map_rng (xs : List D) : (rng 0 1 xs.length).map (fun d => twin (xs.getD (num d).toNat .non)) = xs.map twin := by
  apply List.ext_getElem?
  intro i
  rw [List.getElem?_map, List.getElem?_map]
  by_cases c : i < xs.length
  · have e : (rng 0 1 xs.length)[i]? = some (.int (i : Nat)) := by
      unfold rng
      rw [List.getElem?_map, List.getElem?_range c]
      simp
    rw [e, List.getElem?_eq_getElem c]
    have e2 : (num (.int (i : Nat))).toNat = i := by simp [num]
    simp only [Option.map_some, e2]
    rw [List.getD_eq_getElem?_getD, List.getElem?_eq_getElem c]
    rfl
  · rw [List.getElem?_eq_none (by rw [rng1_len]; omega), List.getElem?_eq_none (by omega)]
    rfl
theorem neR_ii {i j : Int} {m : AH} {Q : DQ} (q : Q (.bl (!(i == j))) m) : neR (.int i) (.int j) m Q := ⟨rfl, rfl, Nat.zero_le _, by simpa [val, eqI] using q⟩
theorem neR_bb {i j : Bool} {m : AH} {Q : DQ} (q : Q (.bl (!(i == j))) m) : neR (.bl i) (.bl j) m Q := ⟨rfl, rfl, Nat.zero_le _, by simpa [val, eqD] using q⟩
theorem v_alike_tup {W : DW} {E : DEnds} {m : AH} {p : Addr} {ws ts : List D} {x0 x1 x3 x4 x5 : Option D} (hz : ws.length + ts.length ≤ 1000000)
    (q : ∀ p' x5, (put m p (.lst ws)) p' = none → E.nx [x0, x1, some (.ref p'), some (.tup ts), some (.tup ts), x5] (put (put m p (.lst ws)) p' (.lst (ws ++ ts.map twin)))) :
    t_alikeB W E [x0, x1, some (.ref p), x3, x4, x5] (put m p (.lst (ws ++ [twin (.tup ts)]))) := by
  have big : (1000000 : Nat) ≤ sizeLine := sl0
  unfold t_alikeB
  simp only [S, SS', SB]
  refine ⟨⟨_, asLp⟩, ws, twin (.tup ts), put_same, ?_⟩
  simp only [twin, SS', SB, put_put, List.set]
  simp only [S, SL, SB, isiR, kd, KDT, TR, if_true, Bool.not_true, Bool.false_eq_true, if_false]
  refine ⟨ts, rfl, ts, rfl, neR_ii ?_⟩
  simp only [SB, beq_self_eq_true, Bool.not_true, Bool.false_eq_true, if_false]
  simp only [S, SS', SB]
  refine ⟨ts, rfl, _, rfl, ⟨by omega, by omega⟩, ?_⟩
  rw [Int.toNat_natCast]
  refine lc_map (rng 0 1 ts.length) (fun d => twin (ts.getD (num d).toNat .non)) (fun _ _ => rfl) (by rw [rng1_len]; omega) (fun x hx m2 C _ hC => ?_) ?_
  · obtain ⟨k, hk, rfl⟩ := rng_mem hx
    simp only [S, SS', SB, wipeD, List.set]
    have e : atI ts (k : Nat) = some (ts.getD k .non) := by
      rw [atN (by omega) (by omega), Int.toNat_natCast, List.getD_eq_getElem?_getD, List.getElem?_eq_getElem hk]
      rfl
    exact ixT e (ixT e ⟨by omega, by simpa [num, twin] using hC⟩)
  · rw [map_rng]
    refine ⟨ws, ts.map twin, asLp, rfl, by rw [List.length_map]; omega, fun p' hp => ?_⟩
    exact q p' _ hp
theorem v_alike_leaf {W : DW} {E : DEnds} {m : AH} {p : Addr} {ws : List D} {t : D} {x0 x1 x3 x4 x5 : Option D} (hk : isKey t = true) (g : gd t = true) (hn : ∀ ts, t ≠ .tup ts)
    (q : E.nx [x0, x1, some (.ref p), some t, some t, x5] (put m p (.lst ws))) :
    t_alikeB W E [x0, x1, some (.ref p), x3, x4, x5] (put m p (.lst (ws ++ [twin t]))) := by
  unfold t_alikeB
  simp only [S, SS', SB]
  refine ⟨⟨_, asLp⟩, ws, twin t, put_same, ?_⟩
  simp only [twin, SS', SB, put_put, List.set]
  have leaf : ∀ {m Q}, val m t = t → dep t = 0 → Q (.bl false) m → neR t t m Q := fun {m Q} e1 e2 h => by
    refine ⟨by rw [e1]; exact gd_lay _ g, by rw [e1]; exact gd_lay _ g, by rw [e1, e2]; decide, ?_⟩
    rw [e1, eqD_self hk]
    exact h
  cases t with
  | tup ts => exact absurd rfl (hn ts)
  | lst ts => simp [isKey, keyD] at hk
  | ref _ => simp [gd] at g
  | ty _ => simp [gd] at g
  | fn _ => simp [gd] at g
  | rdl _ => simp [gd] at g
  | _ =>
    simp only [S, SL, SB, isiR, kd, KDT, TR, if_true, Bool.not_true, Bool.false_eq_true, if_false, isR]
    refine neR_bb ?_
    simp only [SB, beq_self_eq_true, Bool.not_true, Bool.false_eq_true, if_false]
    refine neR_bb ?_
    simp only [SB, beq_self_eq_true, Bool.not_true, Bool.false_eq_true, if_false]
    refine neR_bb ?_
    simp only [SB, beq_self_eq_true, Bool.not_true, Bool.false_eq_true, if_false]
    refine leaf rfl rfl ?_
    simp only [SB, Bool.false_eq_true, if_false]
    exact q
theorem v__law_alike {W : DW} {E : DEnds} {m : AH} {d : D} (g : gd d = true) (hk : isKey d = true) (hn : ndD d ≤ 1000000) (q : ∀ m', Le m m' → E.rt (.bl true) m') : t__law_alike W E [some d, some d, none, none, none, none] m := by
  have big : (1000000 : Nat) ≤ sizeLine := sl0
  unfold t__law_alike
  simp only [S, SS', SB]
  refine ⟨by omega, by omega, fun p hp => ?_⟩
  refine ⟨fun k δ m' => ∃ (m1 : AH) (p : Addr) (w : List D) (x3 x4 x5 : Option D), m' = put m1 p (.lst (w.map twin)) ∧ Le m m1 ∧ m p = none ∧ δ = [some d, some d, some (.ref p), x3, x4, x5] ∧ (∀ x ∈ w, gd x = true ∧ isKey x = true) ∧ k = ndDs w ∧ ndDs w ≤ 1000000,
    ⟨_, m, p, [d], none, none, none, rfl, Le.refl _, hp, rfl, by simp [g, hk], rfl, by simp [ndDs]; exact hn⟩, ?_⟩
  rintro k δ m' ⟨m1, p, w, x3, x4, x5, rfl, le, pn, rfl, hw, rfl, hz⟩
  have ly : lays (w.map twin) = true := lays_of fun x hx => by
    obtain ⟨y, hy, rfl⟩ := List.mem_map.mp hx
    simp [twin, lay, lays, gd_lay _ (hw y hy).1]
  simp only [S, SS', SB, neR, val, put_same, lay, ly, lays, eqD, eqDs_nil, dep, deps]
  refine ⟨by omega, by omega, ?_⟩
  rcases List.eq_nil_or_concat w with rfl | ⟨w, t, rfl⟩
  · simp only [List.map_nil, List.isEmpty_nil, Bool.not_true, Bool.false_eq_true, if_false]
    exact q _ (le.put_new pn)
  · have hcon : w.concat t = w ++ [t] := by simp
    rw [hcon] at hw hz ly ⊢
    have gt := hw t (by simp)
    have hw' : ∀ x ∈ w, gd x = true ∧ isKey x = true := fun x hx => hw x (List.mem_append_left _ hx)
    rw [nd_app] at hz ⊢
    simp only [ndDs] at hz ⊢
    have tp := nd_pos t
    have wl := nd_len w
    rw [List.map_append, if_pos (by simp)]
    by_cases c : ∃ ts, t = .tup ts
    · obtain ⟨ts, rfl⟩ := c
      simp only [ndD] at hz ⊢
      have tl := nd_len ts
      simp only [gd] at gt
      refine v_alike_tup (by rw [List.length_map]; omega) fun p' x5 hp' => ?_
      refine ⟨ndDs (w ++ ts), _, _, by rw [nd_app]; omega, LeL.refl _, Le.refl _, put m1 p (.lst (w.map twin)), p', w ++ ts, _, _, _, by rw [List.map_append], le.put_new pn, (le.put_new pn).none hp', rfl, fun x hx => ?_, rfl, by rw [nd_app]; omega⟩
      rcases List.mem_append.mp hx with z | z
      · exact hw' x z
      · exact ⟨gds_mem gt.1 x z, isKeys gt.2 x z⟩
    · refine v_alike_leaf gt.2 gt.1 (fun ts e => c ⟨ts, e⟩) ?_
      exact ⟨ndDs w, _, _, by omega, LeL.refl _, Le.refl _, m1, p, w, _, _, _, rfl, le, pn, rfl, hw', rfl, by omega⟩
end L2.AP
set_option Elab.async false
set_option linter.all false
set_option maxRecDepth 100000
set_option maxHeartbeats 4000000
/-! VR: rules. -/
namespace L2.AP
open PySem PySem.Spec PyProof.Rows
theorem V_is_rule : ∀ ds m Q E, ds.length = 2 → sp_is_rule ds m Q E → t_is_rule (fun cls d _ m' => E cls d m') (bodyEnds Q) (startD ["signature", "thing", "side"] ds) m := by
  intro ds m Q E hl q
  unfold sp_is_rule at q
  split at q
  · exact v_is_rule q.1 q.2.1 q.2.2.1 (rt q.2.2.2)
  · exact q.elim
theorem V_are_right_rules : ∀ ds m Q E, ds.length = 2 → sp_are_right_rules ds m Q E → t_are_right_rules (fun cls d _ m' => E cls d m') (bodyEnds Q) (startD ["signature", "thing", "rule"] ds) m := by
  intro ds m Q E hl q
  unfold sp_are_right_rules at q
  split at q
  · exact v_are_right_rules q.1 q.2.1 q.2.2.1 q.2.2.2.1 (rt q.2.2.2.2)
  · exact q.elim
theorem V_are_rules (X : Ex) : ∀ ds m Q E, ds.length = 2 → sp_are_rules X ds m Q E → t_are_rules X (fun cls d _ m' => E cls d m') (bodyEnds Q) (startD ["signature", "thing"] ds) m := by
  intro ds m Q E hl q
  unfold sp_are_rules at q
  split at q
  · exact v_are_rules X q.1 q.2.1 (fun h => ⟨(q.2.2.1 h).1, rt (q.2.2.1 h).2⟩) fun δ h => q.2.2.2 h
  · exact q.elim
theorem V_need_rules (X : Ex) : ∀ ds m Q E, ds.length = 2 → sp_need_rules X ds m Q E → t_need_rules X (fun cls d _ m' => E cls d m') (bodyEnds Q) (startD ["signature", "rules"] ds) m := by
  intro ds m Q E hl q
  unfold sp_need_rules at q
  split at q
  · exact v_need_rules X q.1 q.2.1 q.2.2.1 (fun δ h1 h2 => rt (q.2.2.2.1 h1 h2)) (fun δ h1 h2 => q.2.2.2.2.1 h1 h2) fun δ h => q.2.2.2.2.2 h
  · exact q.elim
theorem V_turned : ∀ ds m Q E, ds.length = 1 → sp_turned ds m Q E → t_turned (fun cls d _ m' => E cls d m') (bodyEnds Q) (startD ["rules", "left", "right"] ds) m := by
  intro ds m Q E hl q
  unfold sp_turned at q
  split at q
  · exact v_turned q.1 q.2.1 (rt q.2.2)
  · exact q.elim
theorem V_turned_about (X : Ex) : ∀ ds m Q E, ds.length = 2 → sp_turned_about X ds m Q E → t_turned_about X (fun cls d _ m' => E cls d m') (bodyEnds Q) (startD ["signature", "rules"] ds) m := by
  intro ds m Q E hl q
  unfold sp_turned_about at q
  split at q
  · exact v_turned_about X q.1 q.2.1 q.2.2.1 (fun h1 h2 => rt (q.2.2.2.1 h1 h2)) (fun δ h1 h2 => q.2.2.2.2.1 h1 h2) fun δ h => q.2.2.2.2.2 h
  · exact q.elim
theorem V__law_rules : ∀ ds m Q E, ds.length = 4 → sp__law_rules ds m Q E → t__law_rules (fun cls d _ m' => E cls d m') (bodyEnds Q) (startD ["well", "signature", "most", "steps", "k", "sides", "found", "rule"] ds) m := by
  intro ds m Q E hl q
  unfold sp__law_rules at q
  split at q
  · exact v__law_rules q.1 q.2.1 q.2.2.1 q.2.2.2.1 q.2.2.2.2.1 q.2.2.2.2.2.1 q.2.2.2.2.2.2.1 fun xs o m' hR wo l => ⟨_, l, q.2.2.2.2.2.2.2 xs o hR wo⟩
  · exact q.elim
theorem V__law_alike : ∀ ds m Q E, ds.length = 2 → sp__law_alike ds m Q E → t__law_alike (fun cls d _ m' => E cls d m') (bodyEnds Q) (startD ["told", "due", "waiting", "one", "two", "k"] ds) m := by
  intro ds m Q E hl q
  unfold sp__law_alike at q
  split at q
  · obtain ⟨rfl, q⟩ := q
    exact v__law_alike q.1 q.2.1 q.2.2.1 fun m' l => ⟨_, l, q.2.2.2⟩
  · exact q.elim
end L2.AP
set_option Elab.async false
set_option linter.all false
set_option maxRecDepth 100000
set_option maxHeartbeats 4000000
/-! P1: places of trees, in plain. -/
namespace L2.AP
open PySem PySem.Spec PyProof.Rows
/-! ### parts -/
def kidAt (t : D) (i : Int) : Option D := if 0 ≤ i then (kids t)[i.toNat]? else none
def partD : List Int → D → Option D
  | [], t => some t
  | i :: r, t => (kidAt t i).bind (partD r)
def setK (t : D) (i : Int) (u : D) : D := match t with
  | .tup (f :: cs) => .tup (f :: cs.set i.toNat u)
  | t => t
def putD : List Int → D → D → D
  | [], _, u => u
  | i :: r, t, u => setK t i (putD r ((kids t).getD i.toNat .non) u)
theorem partD_cons {i : Int} {r : List Int} {t w : D} (h : partD (i :: r) t = some w) : ∃ c, 0 ≤ i ∧ (kids t)[i.toNat]? = some c ∧ (kids t).getD i.toNat .non = c ∧ partD r c = some w := by
  rw [partD, kidAt] at h
  split at h
  · rename_i h0
    obtain ⟨c, e, hc⟩ := Option.bind_eq_some_iff.mp h
    exact ⟨c, h0, e, by rw [List.getD_eq_getElem?_getD, e]; rfl, hc⟩
  · cases h
theorem partD_app : ∀ (p q : List Int) (t : D), partD (p ++ q) t = (partD p t).bind (partD q)
  | [], q, t => rfl
  | i :: p, q, t => by
    rw [List.cons_append, partD, partD, Option.bind_assoc]
    congr 1
    funext c
    exact partD_app p q c
theorem vlds_all {es : List D} : ∀ cs : List D, vlds es cs = true ↔ ∀ c ∈ cs, vld es c = true
  | [] => by simp [vlds]
  | c :: cs => by rw [vlds, Bool.and_eq_true, vlds_all cs]; simp
theorem vld_iff {es : List D} {t : D} (h : vld es t = true) : ∃ (f : Int) (cs : List D), t = .tup (.int f :: cs) ∧ 0 ≤ f ∧ f < es.length ∧ (cs.length : Int) = arity es f.toNat ∧ ∀ c ∈ cs, vld es c = true := by
  obtain ⟨xs, rfl⟩ := vld_tup h
  rw [vld] at h
  cases xs with
  | nil => simp [vldT] at h
  | cons x cs =>
    cases x with
    | int f =>
      simp only [vldT, Bool.and_eq_true, decide_eq_true_eq] at h
      exact ⟨f, cs, rfl, h.1.1.1, h.1.1.2, h.1.2, (vlds_all cs).mp h.2⟩
    | _ => simp [vldT] at h
theorem vld_of {es : List D} {f : Int} {cs : List D} (h0 : 0 ≤ f) (h1 : f < es.length) (ha : (cs.length : Int) = arity es f.toNat) (hc : ∀ c ∈ cs, vld es c = true) : vld es (.tup (.int f :: cs)) = true := by
  rw [vld, vldT, (vlds_all cs).mpr hc]
  simp [h0, h1, ha]
theorem szs_get : ∀ {cs : List D} {i : Nat} {c : D}, cs[i]? = some c → szD c ≤ szs cs
  | c :: cs, 0, _, h => by
    cases h
    rw [szs]; omega
  | c :: cs, i + 1, d, h => by
    have := szs_get (cs := cs) (i := i) (c := d) (by simpa using h)
    rw [szs]; omega
theorem dps_get : ∀ {cs : List D} {i : Nat} {c : D}, cs[i]? = some c → dpD c ≤ dps cs
  | c :: cs, 0, _, h => by
    cases h
    rw [dps]; omega
  | c :: cs, i + 1, d, h => by
    have := dps_get (cs := cs) (i := i) (c := d) (by simpa using h)
    rw [dps]; omega
theorem gd_kid {t c : D} {i : Nat} (g : gd t = true) (h : (kids t)[i]? = some c) : gd c = true := gd_kids g c (List.mem_of_getElem? h)
/-- what holds of a part -/
theorem part_ok {es : List D} : ∀ (q : List Int) {t u : D}, partD q t = some u → vld es t = true → gd t = true → vld es u = true ∧ gd u = true ∧ szD u ≤ szD t ∧ dpD u + q.length ≤ dpD t
  | [], t, u, h, v, g => by cases h; exact ⟨v, g, Nat.le_refl _, Nat.le_refl _⟩
  | i :: r, t, u, h, v, g => by
    obtain ⟨c, _, e, _, hc⟩ := partD_cons h
    obtain ⟨f, cs, rfl, _, _, _, hv⟩ := vld_iff v
    simp only [kids] at e
    have gc := gd_kid (t := .tup (.int f :: cs)) g e
    obtain ⟨v1, g1, s1, d1⟩ := part_ok r hc (hv c (List.mem_of_getElem? e)) gc
    have := szs_get e
    have := dps_get e
    refine ⟨v1, g1, ?_, ?_⟩
    · simp only [szD, szT]; omega
    · simp only [dpD, dpT, List.length_cons]; omega
theorem szs_set : ∀ {cs : List D} {i : Nat} {c y : D}, cs[i]? = some c → szs (cs.set i y) + szD c = szs cs + szD y
  | c :: cs, 0, _, y, h => by
    cases h
    simp only [List.set_cons_zero, szs]; omega
  | c :: cs, i + 1, d, y, h => by
    have := szs_set (cs := cs) (i := i) (c := d) (y := y) (by simpa using h)
    simp only [List.set_cons_succ, szs]; omega
theorem dps_set : ∀ {cs : List D} {i : Nat} {y : D}, dps (cs.set i y) ≤ max (dps cs) (dpD y)
  | [], i, y => by simp [dps]
  | c :: cs, 0, y => by
    simp only [List.set_cons_zero, dps]; omega
  | c :: cs, i + 1, y => by
    have := dps_set (cs := cs) (i := i) (y := y)
    simp only [List.set_cons_succ, dps]; omega
/-- what holds behind an exchange -/
theorem put_ok {es : List D} : ∀ (q : List Int) {t u w : D}, partD q t = some w → vld es t = true → gd t = true → vld es u = true → gd u = true → vld es (putD q t u) = true ∧ gd (putD q t u) = true ∧ szD (putD q t u) ≤ szD t + szD u ∧ dpD (putD q t u) ≤ q.length + max (dpD t) (dpD u)
  | [], t, u, w, h, v, g, v', g' => ⟨v', g', by simp only [putD]; omega, by simp only [putD, List.length_nil]; omega⟩
  | i :: r, t, u, w, h, v, g, v', g' => by
    obtain ⟨c, _, e, eg, hc⟩ := partD_cons h
    rw [putD, eg]
    obtain ⟨f, cs, rfl, f0, f1, ha, hv⟩ := vld_iff v
    simp only [kids] at e
    have gc := gd_kid (t := .tup (.int f :: cs)) g e
    obtain ⟨v1, g1, s1, d1⟩ := put_ok r hc (hv c (List.mem_of_getElem? e)) gc v' g'
    have z1 := szs_set (y := putD r c u) e
    have z2 := dps_set (cs := cs) (i := i.toNat) (y := putD r c u)
    have z3 := dps_get e
    simp only [setK]
    refine ⟨vld_of f0 f1 (by rw [List.length_set]; exact ha) fun x hx => ?_, ?_, ?_, ?_⟩
    · rcases List.mem_or_eq_of_mem_set hx with z | z
      · exact hv x z
      · rw [z]; exact v1
    · simp only [gd, gds] at g ⊢
      exact gds_of fun x hx => by
        rcases List.mem_or_eq_of_mem_set hx with z | z
        · exact gds_mem (by simpa using g) x z
        · rw [z]; exact g1
    · simp only [szD, szT] at s1 ⊢; omega
    · simp only [dpD, dpT, List.length_cons]; omega
/-! ### all places -/
mutual
def spotsD (pl : List Int) : D → List (List Int × D)
  | .tup xs => (pl, .tup xs) :: spotsT pl xs
  | d => [(pl, d)]
def spotsT (pl : List Int) : List D → List (List Int × D)
  | [] => []
  | _ :: cs => spotsK pl 0 cs
def spotsK (pl : List Int) (i : Nat) : List D → List (List Int × D)
  | [] => []
  | c :: cs => spotsD (pl ++ [(i : Int)]) c ++ spotsK pl (i + 1) cs
end
def kidsK (pl : List Int) (i : Nat) : List D → List (List Int × D)
  | [] => []
  | c :: cs => (pl ++ [(i : Int)], c) :: kidsK pl (i + 1) cs
def spotsX (x : List Int × D) : List (List Int × D) := spotsD x.1 x.2
def kidsX (x : List Int × D) : List (List Int × D) := kidsK x.1 0 (kids x.2)
theorem spotsK_flat (pl : List Int) : ∀ (cs : List D) (i : Nat), spotsK pl i cs = (kidsK pl i cs).flatMap spotsX
  | [], i => by simp [spotsK, kidsK]
  | c :: cs, i => by rw [spotsK, kidsK, List.flatMap_cons, spotsK_flat pl cs (i + 1)]; rfl
theorem spotsX_eq : ∀ x : List Int × D, spotsX x = x :: (kidsX x).flatMap spotsX
  | (pl, .tup []) => by simp [spotsX, spotsD, spotsT, kidsX, kids, kidsK]
  | (pl, .tup (f :: cs)) => by
    rw [spotsX, spotsD, spotsT, spotsK_flat]
    rfl
  | (pl, .non) => by simp [spotsX, spotsD, kidsX, kids, kidsK]
  | (pl, .bl _) => by simp [spotsX, spotsD, kidsX, kids, kidsK]
  | (pl, .int _) => by simp [spotsX, spotsD, kidsX, kids, kidsK]
  | (pl, .str _) => by simp [spotsX, spotsD, kidsX, kids, kidsK]
  | (pl, .ref _) => by simp [spotsX, spotsD, kidsX, kids, kidsK]
  | (pl, .ty _) => by simp [spotsX, spotsD, kidsX, kids, kidsK]
  | (pl, .fn _) => by simp [spotsX, spotsD, kidsX, kids, kidsK]
  | (pl, .rdl _) => by simp [spotsX, spotsD, kidsX, kids, kidsK]
  | (pl, .lst _) => by simp [spotsX, spotsD, kidsX, kids, kidsK]
mutual
theorem spots_len : ∀ (d : D) (pl : List Int), (spotsD pl d).length = szD d
  | .tup xs, pl => by rw [spotsD, szD, List.length_cons]; exact spotsT_len xs pl
  | .non, _ => by simp [spotsD, szD]
  | .bl _, _ => by simp [spotsD, szD]
  | .int _, _ => by simp [spotsD, szD]
  | .str _, _ => by simp [spotsD, szD]
  | .ref _, _ => by simp [spotsD, szD]
  | .ty _, _ => by simp [spotsD, szD]
  | .fn _, _ => by simp [spotsD, szD]
  | .rdl _, _ => by simp [spotsD, szD]
  | .lst _, _ => by simp [spotsD, szD]
theorem spotsT_len : ∀ (xs : List D) (pl : List Int), (spotsT pl xs).length + 1 = szT xs
  | [], _ => by simp [spotsT, szT]
  | _ :: cs, pl => by rw [spotsT, szT, spotsK_len cs pl 0]; omega
theorem spotsK_len : ∀ (cs : List D) (pl : List Int) (i : Nat), (spotsK pl i cs).length = szs cs
  | [], _, _ => by simp [spotsK, szs]
  | c :: cs, pl, i => by rw [spotsK, szs, List.length_append, spots_len c, spotsK_len cs]
end
mutual
theorem spots_mem : ∀ (d : D) (pl : List Int) (x : List Int × D), x ∈ spotsD pl d → ∃ q, x.1 = pl ++ q ∧ partD q d = some x.2
  | .tup xs, pl, x, h => by
    rw [spotsD] at h
    rcases List.mem_cons.mp h with rfl | h
    · exact ⟨[], by simp, rfl⟩
    · obtain ⟨j, q, c, e1, e2, e3⟩ := spotsT_mem xs pl x h
      refine ⟨(j : Int) :: q, e1, ?_⟩
      have : kidAt (.tup xs) (j : Int) = some c := by
        rw [kidAt, if_pos (by omega), Int.toNat_natCast]
        cases xs with
        | nil => simp at e2
        | cons f cs => simpa [kids] using e2
      rw [partD, this]
      exact e3
  | .non, pl, x, h => by simp only [spotsD] at h; rw [List.mem_singleton.mp h]; exact ⟨[], by simp, rfl⟩
  | .bl _, pl, x, h => by simp only [spotsD] at h; rw [List.mem_singleton.mp h]; exact ⟨[], by simp, rfl⟩
  | .int _, pl, x, h => by simp only [spotsD] at h; rw [List.mem_singleton.mp h]; exact ⟨[], by simp, rfl⟩
  | .str _, pl, x, h => by simp only [spotsD] at h; rw [List.mem_singleton.mp h]; exact ⟨[], by simp, rfl⟩
  | .ref _, pl, x, h => by simp only [spotsD] at h; rw [List.mem_singleton.mp h]; exact ⟨[], by simp, rfl⟩
  | .ty _, pl, x, h => by simp only [spotsD] at h; rw [List.mem_singleton.mp h]; exact ⟨[], by simp, rfl⟩
  | .fn _, pl, x, h => by simp only [spotsD] at h; rw [List.mem_singleton.mp h]; exact ⟨[], by simp, rfl⟩
  | .rdl _, pl, x, h => by simp only [spotsD] at h; rw [List.mem_singleton.mp h]; exact ⟨[], by simp, rfl⟩
  | .lst _, pl, x, h => by simp only [spotsD] at h; rw [List.mem_singleton.mp h]; exact ⟨[], by simp, rfl⟩
theorem spotsT_mem : ∀ (xs : List D) (pl : List Int) (x : List Int × D), x ∈ spotsT pl xs → ∃ (j : Nat) (q : List Int) (c : D), x.1 = pl ++ (j : Int) :: q ∧ (xs.drop 1)[j]? = some c ∧ partD q c = some x.2
  | [], pl, x, h => by rw [spotsT] at h; cases h
  | f :: cs, pl, x, h => by
    rw [spotsT] at h
    obtain ⟨j, q, c, _, e1, e2, e3⟩ := spotsK_mem cs pl 0 x h
    exact ⟨j, q, c, e1, by simpa using e2, e3⟩
theorem spotsK_mem : ∀ (cs : List D) (pl : List Int) (i : Nat) (x : List Int × D), x ∈ spotsK pl i cs → ∃ (j : Nat) (q : List Int) (c : D), i ≤ j ∧ x.1 = pl ++ (j : Int) :: q ∧ cs[j - i]? = some c ∧ partD q c = some x.2
  | [], pl, i, x, h => by rw [spotsK] at h; cases h
  | c :: cs, pl, i, x, h => by
    rw [spotsK] at h
    rcases List.mem_append.mp h with h | h
    · obtain ⟨q, e1, e2⟩ := spots_mem c _ x h
      exact ⟨i, q, c, Nat.le_refl _, by rw [e1, List.append_assoc]; rfl, by simp, e2⟩
    · obtain ⟨j, q, d, h1, e1, e2, e3⟩ := spotsK_mem cs pl (i + 1) x h
      refine ⟨j, q, d, by omega, e1, ?_, e3⟩
      rw [show j - i = (j - (i + 1)) + 1 by omega, List.getElem?_cons_succ]
      exact e2
end
/-! ### their order -/
def ltP (p q : List Int) : Bool := ltKs (p.map NestedKey.num) (q.map NestedKey.num)
theorem ltP_pre : ∀ (p a b : List Int), ltP (p ++ a) (p ++ b) = ltP a b
  | [], _, _ => rfl
  | i :: p, a, b => by
    have := ltP_pre p a b
    simp only [ltP, List.cons_append, List.map_cons, ltKs, if_true] at this ⊢
    exact this
theorem ltP_head {i j : Nat} {a b : List Int} (h : i < j) : ltP ((i : Int) :: a) ((j : Int) :: b) = true := by
  have ne : ¬ (NestedKey.num (i : Int) = NestedKey.num (j : Int)) := fun z => by
    injection z with z
    omega
  simp only [ltP, List.map_cons, ltKs]
  rw [if_neg ne]
  simp [ltK]
  omega
def BefP (x y : List Int × D) : Prop := ltP x.1 y.1 = true
mutual
theorem spots_pw : ∀ (d : D) (pl : List Int), (spotsD pl d).Pairwise BefP
  | .tup xs, pl => by
    rw [spotsD]
    refine List.Pairwise.cons (fun y hy => ?_) (spotsT_pw xs pl)
    obtain ⟨j, q, c, e1, _, _⟩ := spotsT_mem xs pl y hy
    have := ltP_pre pl [] ((j : Int) :: q)
    rw [List.append_nil] at this
    show ltP pl y.1 = true
    rw [e1, this]
    simp [ltP, ltKs]
  | .non, _ => by simp [spotsD]
  | .bl _, _ => by simp [spotsD]
  | .int _, _ => by simp [spotsD]
  | .str _, _ => by simp [spotsD]
  | .ref _, _ => by simp [spotsD]
  | .ty _, _ => by simp [spotsD]
  | .fn _, _ => by simp [spotsD]
  | .rdl _, _ => by simp [spotsD]
  | .lst _, _ => by simp [spotsD]
theorem spotsT_pw : ∀ (xs : List D) (pl : List Int), (spotsT pl xs).Pairwise BefP
  | [], _ => by simp [spotsT]
  | _ :: cs, pl => by rw [spotsT]; exact spotsK_pw cs pl 0
theorem spotsK_pw : ∀ (cs : List D) (pl : List Int) (i : Nat), (spotsK pl i cs).Pairwise BefP
  | [], _, _ => by simp [spotsK]
  | c :: cs, pl, i => by
    rw [spotsK, List.pairwise_append]
    refine ⟨spots_pw c _, spotsK_pw cs pl (i + 1), fun x hx y hy => ?_⟩
    obtain ⟨q, e1, _⟩ := spots_mem c _ x hx
    obtain ⟨j, q', _, h, e2, _, _⟩ := spotsK_mem cs pl (i + 1) y hy
    show ltP x.1 y.1 = true
    rw [e1, e2, List.append_assoc, ltP_pre]
    exact ltP_head (by omega)
end
/-! ### what may be sorted -/
mutual
theorem tree_cmp {es : List D} : ∀ (d e : D) (k l : NestedKey), vld es d = true → vld es e = true → keyD d = some k → keyD e = some l → cmpOk k l = true
  | .tup xs, e, k, l, h1, h2, e1, e2 => by
    obtain ⟨ys, rfl⟩ := vld_tup h2
    simp only [keyD] at e1 e2
    obtain ⟨ks, a1, rfl⟩ := Option.map_eq_some_iff.mp e1
    obtain ⟨ls, a2, rfl⟩ := Option.map_eq_some_iff.mp e2
    rw [cmpOk]
    exact treeT_cmp xs ys ks ls (by simpa [vld] using h1) (by simpa [vld] using h2) a1 a2
  | .non, _, _, _, h, _, _, _ => by simp [vld] at h
  | .bl _, _, _, _, h, _, _, _ => by simp [vld] at h
  | .int _, _, _, _, h, _, _, _ => by simp [vld] at h
  | .str _, _, _, _, h, _, _, _ => by simp [vld] at h
  | .ref _, _, _, _, h, _, _, _ => by simp [vld] at h
  | .ty _, _, _, _, h, _, _, _ => by simp [vld] at h
  | .fn _, _, _, _, h, _, _, _ => by simp [vld] at h
  | .rdl _, _, _, _, h, _, _, _ => by simp [vld] at h
  | .lst _, _, _, _, h, _, _, _ => by simp [vld] at h
theorem treeT_cmp {es : List D} : ∀ (xs ys : List D) (ks ls : List NestedKey), vldT es xs = true → vldT es ys = true → keysD xs = some ks → keysD ys = some ls → cmpOks ks ls = true
  | [], _, _, _, h, _, _, _ => by simp [vldT] at h
  | _ :: _, [], _, _, _, h, _, _ => by simp [vldT] at h
  | x :: xs, y :: ys, ks, ls, h1, h2, e1, e2 => by
    simp only [vldT, Bool.and_eq_true] at h1 h2
    obtain ⟨k, ks', rfl, a1, a2⟩ := keysD_cons e1
    obtain ⟨l, ls', rfl, b1, b2⟩ := keysD_cons e2
    rw [cmpOks, trees_cmp xs ys ks' ls' h1.2 h2.2 a2 b2, Bool.and_true]
    cases x <;> first | (simp at h1; done) | skip
    cases y <;> first | (simp at h2; done) | skip
    cases a1
    cases b1
    simp [cmpOk]
theorem trees_cmp {es : List D} : ∀ (xs ys : List D) (ks ls : List NestedKey), vlds es xs = true → vlds es ys = true → keysD xs = some ks → keysD ys = some ls → cmpOks ks ls = true
  | [], _, _, _, _, _, e, _ => by cases e; rw [cmpOks]
  | x :: xs, [], _, _, _, _, e1, e2 => by
    obtain ⟨k, ks', rfl, a1, a2⟩ := keysD_cons e1
    cases e2
    rw [cmpOks]
  | x :: xs, y :: ys, ks, ls, h1, h2, e1, e2 => by
    simp only [vlds, Bool.and_eq_true] at h1 h2
    obtain ⟨k, ks', rfl, a1, a2⟩ := keysD_cons e1
    obtain ⟨l, ls', rfl, b1, b2⟩ := keysD_cons e2
    rw [cmpOks, trees_cmp xs ys ks' ls' h1.2 h2.2 a2 b2, tree_cmp x y k l h1.1 h2.1 a1 b1]
    simp
end
mutual
theorem vld_noBl {es : List D} : ∀ d : D, vld es d = true → noBl d = true
  | .tup xs, h => by rw [noBl]; exact vldT_noBl xs (by simpa [vld] using h)
  | .non, h => by simp [vld] at h
  | .bl _, h => by simp [vld] at h
  | .int _, h => by simp [vld] at h
  | .str _, h => by simp [vld] at h
  | .ref _, h => by simp [vld] at h
  | .ty _, h => by simp [vld] at h
  | .fn _, h => by simp [vld] at h
  | .rdl _, h => by simp [vld] at h
  | .lst _, h => by simp [vld] at h
theorem vldT_noBl {es : List D} : ∀ xs : List D, vldT es xs = true → noBls xs = true
  | [], h => by simp [vldT] at h
  | x :: cs, h => by
    simp only [vldT, Bool.and_eq_true] at h
    rw [noBls, vlds_noBl cs h.2, Bool.and_true]
    cases x <;> first | rfl | (simp at h; done)
theorem vlds_noBl {es : List D} : ∀ cs : List D, vlds es cs = true → noBls cs = true
  | [], _ => rfl
  | c :: cs, h => by
    simp only [vlds, Bool.and_eq_true] at h
    rw [noBls, vld_noBl c h.1, vlds_noBl cs h.2]
    rfl
end
theorem noBls_all : ∀ {xs : List D}, (∀ x ∈ xs, noBl x = true) → noBls xs = true
  | [], _ => rfl
  | x :: xs, h => by rw [noBls, h x List.mem_cons_self, noBls_all fun y hy => h y (List.mem_cons_of_mem _ hy)]; rfl
def plD (pl : List Int) : D := .tup (pl.map D.int)
def spotD (x : List Int × D) : D := .tup [plD x.1, x.2]
theorem keys_ints : ∀ ns : List Int, keysD (ns.map D.int) = some (ns.map NestedKey.num)
  | [] => rfl
  | n :: ns => by simp [keysD, keyD, keys_ints ns]
theorem depth_ints : ∀ ns : List Int, NestedKey.depthAll (ns.map NestedKey.num) = 0
  | [] => rfl
  | n :: ns => by simp [NestedKey.depthAll, NestedKey.depth, depth_ints ns]
theorem cmp_ints : ∀ (ns ms : List Int), cmpOks (ns.map NestedKey.num) (ms.map NestedKey.num) = true
  | [], _ => by simp [cmpOks]
  | n :: ns, [] => by simp [cmpOks]
  | n :: ns, m :: ms => by
    have := cmp_ints ns ms
    simp [cmpOks, cmpOk, this]
theorem pl_key (pl : List Int) : keyD (plD pl) = some (.tup (pl.map NestedKey.num)) := by simp [plD, keyD, keys_ints]
theorem spot_key {es : List D} {x : List Int × D} (h : vld es x.2 = true) : ∃ k, keyD x.2 = some k ∧ k.depth = dpD x.2 ∧ keyD (spotD x) = some (.tup [.tup (x.1.map NestedKey.num), k]) := by
  obtain ⟨k, e, d⟩ := tree_key x.2 h
  exact ⟨k, e, d, by simp [spotD, keyD, keysD, pl_key, e]⟩
theorem keyL_of {d : D} {k : NestedKey} (h : keyD d = some k) : keyL d = k := by simp [keyL, h]
theorem spot_lt {es : List D} {x y : List Int × D} (h1 : vld es x.2 = true) (h2 : vld es y.2 = true) (h : BefP x y) : ltD (spotD x) (spotD y) = true := by
  obtain ⟨k, e1, _, f1⟩ := spot_key h1
  obtain ⟨l, e2, _, f2⟩ := spot_key h2
  have h : ltKs (x.1.map NestedKey.num) (y.1.map NestedKey.num) = true := h
  simp only [ltD, keyL_of f1, keyL_of f2, ltK, ltKs]
  rw [if_neg]
  · exact h
  · intro z
    injection z with z
    rw [z, ltKs_irr] at h
    cases h
theorem noBl_ints : ∀ ns : List Int, noBls (ns.map D.int) = true
  | [] => rfl
  | n :: ns => by simp [noBls, noBl, noBl_ints ns]
theorem spots_sort {es : List D} {xs : List (List Int × D)} (h : ∀ x ∈ xs, vld es x.2 = true ∧ dpD x.2 ≤ 170) : SortOk false (xs.map spotD) := by
  refine ⟨noBls_all fun y hy => ?_, fun y hy => ?_, fun y hy z hz => ?_⟩
  · obtain ⟨x, hx, rfl⟩ := List.mem_map.mp hy
    simp only [spotD, plD, noBl, noBls, noBl_ints, vld_noBl _ (h x hx).1]
    rfl
  · obtain ⟨x, hx, rfl⟩ := List.mem_map.mp hy
    obtain ⟨k, e1, d1, f1⟩ := spot_key (h x hx).1
    refine ⟨_, f1, ⟨_, _, rfl, (fun z => by cases z), fun _ => ⟨_, rfl⟩⟩, ?_⟩
    have := (h x hx).2
    simp only [NestedKey.depth, NestedKey.depthAll, depth_ints, d1]
    omega
  · obtain ⟨x, hx, rfl⟩ := List.mem_map.mp hy
    obtain ⟨w, hw, rfl⟩ := List.mem_map.mp hz
    obtain ⟨k, e1, _, f1⟩ := spot_key (h x hx).1
    obtain ⟨l, e2, _, f2⟩ := spot_key (h w hw).1
    rw [keyL_of f1, keyL_of f2, cmpOk]
    simp only [cmpOks, cmpOk, cmp_ints, tree_cmp _ _ _ _ (h x hx).1 (h w hw).1 e1 e2, Bool.or_true, Bool.and_true]
/-- two rows in order with the same things are the same -/
theorem lt_one : ∀ {zs : List D}, zs.Pairwise (fun x y => ltD x y = true) → ∀ a ∈ zs, ∀ b ∈ zs, ltD a b = false → ltD b a = false → a = b
  | [], _, a, ha, _, _, _, _ => by cases ha
  | z :: zs, h, a, ha, b, hb, h1, h2 => by
    rw [List.pairwise_cons] at h
    rcases List.mem_cons.mp ha with e | ha'
    · rcases List.mem_cons.mp hb with e2 | hb'
      · rw [e, e2]
      · rw [e, h.1 b hb'] at h1; cases h1
    · rcases List.mem_cons.mp hb with e2 | hb'
      · rw [e2, h.1 a ha'] at h2; cases h2
      · exact lt_one h.2 a ha' b hb' h1 h2
theorem sorted_uniq {ys zs : List D} (p : ys.Perm zs) (h1 : ys.Pairwise fun x y => ltD y x = false) (h2 : zs.Pairwise fun x y => ltD x y = true) : ys = zs := by
  refine List.Perm.eq_of_pairwise (le := fun x y => ltD y x = false) (fun a b ha hb c1 c2 => lt_one h2 a (p.subset ha) b hb c2 c1) h1 (h2.imp fun {x y} h => ?_) p
  cases c : ltD y x with
  | false => rfl
  | true =>
    have := ltK_tr _ _ _ h c
    rw [ltK_irr] at this
    cases this
theorem spots_all {es : List D} {t : D} (v : vld es t = true) (g : gd t = true) {x : List Int × D} (hx : x ∈ spotsD [] t) : partD x.1 t = some x.2 ∧ vld es x.2 = true ∧ gd x.2 = true ∧ szD x.2 ≤ szD t ∧ dpD x.2 + x.1.length ≤ dpD t := by
  obtain ⟨q, e1, e2⟩ := spots_mem t [] x hx
  rw [List.nil_append] at e1
  rw [e1]
  exact ⟨e2, part_ok q e2 v g⟩
theorem spots_pairs {es : List D} {t : D} (v : vld es t = true) (g : gd t = true) : ((spotsD [] t).map spotD).Pairwise fun x y => ltD x y = true := by
  rw [List.pairwise_map]
  exact (spots_pw t []).imp_of_mem fun {a b} ha hb h => spot_lt (spots_all v g ha).2.1 (spots_all v g hb).2.1 h
end L2.AP
set_option Elab.async false
set_option linter.all false
set_option maxRecDepth 100000
set_option maxHeartbeats 4000000
/-! P2: part_on, put_at, and the laws' own places. -/
namespace L2.AP
open PySem PySem.Spec PyProof.Rows
def partA : List D → D → D
  | [], t => t
  | x :: r, t => match x with
    | .int i => if 0 ≤ i ∧ i < (kids t).length then partA r ((kids t).getD i.toNat .non) else .non
    | _ => .non
def partOn (t d : D) : D := match d with
  | .tup xs => partA xs t
  | _ => .non
theorem hT_kid {t c : D} {i : Nat} (h : hT t = true) (e : (kids t)[i]? = some c) : hT c = true := hTs_mem (hT_tup h).choose_spec.2 c (List.mem_of_getElem? e)
def sp_part_on : DSp := fun ds m Q _ => match ds with
  | [t, d] => hT t = true ∧ gd d = true ∧ Q (partOn t d) m
  | _ => False
def t_part_on : DTS :=
  dSeq (dIfS (dNotT (dTruth (dCall (isiR .tuple) (dCons (dVar 1) (dCons (dC (.ty (Kd.name .tuple))) dNil))))) (dRet (dC .non)) (dNext)) <|
  dSeq (dFor (diAny (dVar 1)) (dgName 2) (dSeq (dIfS (dNotT (dTruth (dCallF 3 sp_within (dCons (dVar 2) (dCons (dC (.int 0)) (dCons (dOp subR (dCall lenR (dCons (dVar 0) dNil)) (dC (.int 2))) dNil)))))) (dRet (dC .non)) (dNext)) <|
      dAsg (dOp ixR (dVar 0) (dOp addR (dVar 2) (dC (.int 1)))) (dgName 0))) <|
  dRet (dVar 0)
theorem at_kid {f : D} {cs : List D} {j : Int} {c : D} (h0 : 0 ≤ j) (e : cs[j.toNat]? = some c) : atI (f :: cs) (j + 1) = some c := by
  have h1 := (List.getElem?_eq_some_iff.mp e).1
  rw [atN (by omega) (by rw [List.length_cons]; omega), show (j + 1).toNat = j.toNat + 1 by omega, List.getElem?_cons_succ]
  exact e
theorem v_part_on {W : DW} {E : DEnds} {m : AH} {t d : D} (h : hT t = true) (g : gd d = true) (q : E.rt (partOn t d) m) : t_part_on W E [some t, some d, none] m := by
  unfold t_part_on
  cases d with
  | tup xs =>
    simp only [S, SS', SL, SB, isiR, kd, KDT, TR, Bool.not_true, Bool.false_eq_true, if_false]
    refine ⟨⟨_, rfl⟩, for_fix xs (fun i δ m' => ∃ t' k, m' = m ∧ δ = [some t', some (.tup xs), k] ∧ hT t' = true ∧ partA (xs.drop i) t' = partA xs t) (fun _ _ _ _ => rfl) ⟨t, none, rfl, rfl, h, rfl⟩ ?_ ?_⟩
    · rintro i k x δ m' hx hi hl ⟨t', kk, rfl, rfl, ht, e⟩
      simp only [gd] at g
      have gx := gds_mem g x (List.mem_of_getElem? hx)
      obtain ⟨f, et, hk⟩ := hT_tup ht
      generalize ek : kids t' = cs at et hk
      subst et
      have ed : xs.drop i = x :: xs.drop (i + 1) := by
        rw [List.drop_eq_getElem_cons hl]
        rw [List.getElem?_eq_getElem hl] at hx
        cases hx
        rfl
      rw [ed] at e
      simp only [S, SS', SB, List.set, sp_within, lenR, subR, gx, TR]
      simp only [VL, SB]
      cases c : withinB 0 (((cs.length + 1 : Nat) : Int) - 2) x with
      | false =>
        simp only [Bool.not_false, if_true]
        have z : partA (x :: xs.drop (i + 1)) (.tup (f :: cs)) = .non := by
          cases x with
          | int j =>
            rw [partA]
            simp only [withinB, Bool.and_eq_false_iff, decide_eq_false_iff_not] at c
            rw [if_neg]
            simp only [kids]
            omega
          | _ => rfl
        rw [z] at e
        rw [partOn, ← e] at q
        exact q
      | true =>
        simp only [Bool.not_true, Bool.false_eq_true, if_false]
        obtain ⟨ex, c0, c1⟩ := within_int c
        generalize num x = j at ex c0 c1
        subst ex
        have hj : j.toNat < cs.length := by omega
        have ej : cs[j.toNat]? = some cs[j.toNat] := List.getElem?_eq_getElem hj
        simp only [addR]
        refine ixT (at_kid c0 ej) (fN_intro hi hl ⟨cs[j.toNat], _, rfl, rfl, hTs_mem hk _ (List.getElem_mem hj), ?_⟩)
        rw [partA, if_pos ⟨c0, by simp only [kids]; omega⟩] at e
        rw [← e, kids, List.getD_eq_getElem?_getD, ej]
        rfl
    · rintro δ m' ⟨t', kk, rfl, rfl, ht, e⟩
      simp only [S, SS', SB]
      rw [List.drop_length, partA] at e
      rw [partOn, ← e] at q
      exact q
  | ref _ => simp [gd] at g
  | ty _ => simp [gd] at g
  | fn _ => simp [gd] at g
  | rdl _ => simp [gd] at g
  | _ =>
    simp only [S, SS', SL, SB, isiR, kd, KDT, TR, Bool.not_false, if_true]
    exact q
theorem partA_partD : ∀ (q : List Int) {t w : D}, partD q t = some w → partA (q.map D.int) t = w
  | [], t, w, h => by cases h; rfl
  | i :: r, t, w, h => by
    obtain ⟨c, h0, e1, e2, hc⟩ := partD_cons h
    have h1 := (List.getElem?_eq_some_iff.mp e1).1
    rw [List.map_cons, partA, if_pos ⟨h0, by omega⟩, e2]
    exact partA_partD r hc
/-! ### put -/
def wayL : List Int → D → List D
  | [], _ => []
  | i :: r, t => t :: wayL r ((kids t).getD i.toNat .non)
theorem wayL_len : ∀ (q : List Int) (t : D), (wayL q t).length = q.length
  | [], _ => rfl
  | i :: r, t => by rw [wayL, List.length_cons, List.length_cons, wayL_len r]
def stK (x : Int × D) (o : D) : D := setK x.2 x.1 o
theorem put_fold : ∀ (q : List Int) (t u : D), putD q t u = (q.zip (wayL q t)).foldr stK u
  | [], _, _ => rfl
  | i :: r, t, u => by
    rw [putD, wayL, List.zip_cons_cons, List.foldr_cons, put_fold r]
    rfl
/-- a place of a tree on the way -/
def OnWay (x : Int × D) : Prop := ∃ f cs, x.2 = .tup (f :: cs) ∧ 0 ≤ x.1 ∧ x.1 < cs.length ∧ cs.length ≤ 10000
theorem way_ok : ∀ (q : List Int) {t w : D}, partD q t = some w → hT t = true → szD t ≤ 10000 → ∀ x ∈ q.zip (wayL q t), OnWay x
  | [], _, _, _, _, _, x, hx => by cases hx
  | i :: r, t, w, h, ht, hs, x, hx => by
    obtain ⟨c, h0, e1, e2, hc⟩ := partD_cons h
    have h1 := (List.getElem?_eq_some_iff.mp e1).1
    obtain ⟨f, et, hk⟩ := hT_tup ht
    have sk := sz_kids ht
    have sl := szs_len (kids t)
    rw [wayL, List.zip_cons_cons] at hx
    rcases List.mem_cons.mp hx with rfl | hx
    · exact ⟨f, kids t, et, h0, by show i < _; omega, by omega⟩
    · rw [e2] at hx
      have := szs_get e1
      exact way_ok r hc (hTs_mem hk c (List.mem_of_getElem? e1)) (by omega) x hx
/-- one exchange, as the code writes it -/
theorem cut_put {f : D} {cs : List D} {i : Int} {u : D} (h0 : 0 ≤ i) (h1 : i < cs.length) : AP.cut (f :: cs) none (some (i + 1)) ++ [u] ++ AP.cut (f :: cs) (some (i + 2)) none = f :: cs.set i.toNat u := by
  rw [cut_to _ (by omega), cut_from _ (by omega), show (i + 1).toNat = i.toNat + 1 by omega, show (i + 2).toNat = i.toNat + 2 by omega, List.take_succ_cons, List.drop_succ_cons, List.set_eq_take_append_cons_drop, if_pos (by omega)]
  simp
def itK (x : Int × D) : D := .tup [.int x.1, x.2]
theorem zipD_map : ∀ (q : List Int) (ws : List D), zipD (q.map D.int) ws = (q.zip ws).map itK
  | [], _ => by simp [zipD]
  | _ :: _, [] => by simp [zipD]
  | i :: q, w :: ws => by
    rw [List.map_cons, zipD, zipD_map q ws]
    rfl
theorem zip_rev {α β : Type} : ∀ (xs : List α) (ys : List β), xs.length = ys.length → xs.reverse.zip ys.reverse = (xs.zip ys).reverse
  | [], [], _ => rfl
  | x :: xs, y :: ys, h => by
    simp only [List.length_cons, Nat.add_right_cancel_iff] at h
    rw [List.reverse_cons, List.reverse_cons, List.zip_append (by simp [h]), zip_rev xs ys h]
    simp [List.zip_cons_cons]
def sp_put_at : DSp := fun ds m Q _ => match ds with
  | [t, d, u] => ∃ q w, d = plD q ∧ partD q t = some w ∧ hT t = true ∧ szD t ≤ 10000 ∧ q.length ≤ 10000 ∧ Q (putD q t u) m
  | _ => False
def t_put_at : DTS :=
  dSeq (dAsg (dLst true dNil) (dgName 3)) <|
  dSeq (dFor (diAny (dVar 1)) (dgName 4) (dSeq (dDrop (dBM appendR (dVar 3) (dCons (dVar 0) dNil))) <|
      dAsg (dOp ixR (dVar 0) (dOp addR (dVar 4) (dC (.int 1)))) (dgName 0))) <|
  dSeq (dFor (diZip (dCons (dRevG false (dVar 1)) (dCons (dRevG false (dVar 3)) dNil))) (dgTup 2 (dgCons (dgName 4) (dgCons (dgName 5) dgNil))) (dAsg (dOp addR (dOp addR (dSl false (dVar 5) dNoPart (dPart (dOp addR (dVar 4) (dC (.int 1))))) (dTup (dCons (dVar 2) dNil))) (dSl false (dVar 5) (dPart (dOp addR (dVar 4) (dC (.int 2)))) dNoPart)) (dgName 2))) <|
  dRet (dVar 2)
theorem v_put_at {W : DW} {E : DEnds} {m : AH} {t u w : D} {q : List Int} (hp : partD q t = some w) (ht : hT t = true) (hs : szD t ≤ 10000) (hl : q.length ≤ 10000) (qq : ∀ m', Le m m' → E.rt (putD q t u) m') : t_put_at W E [some t, some (plD q), some u, none, none, none] m := by
  have big : (1000000 : Nat) ≤ sizeLine := sl0
  unfold t_put_at
  simp only [S, SS', SL, SB, VL, plD]
  refine ⟨by omega, fun p hpn => ⟨⟨_, rfl⟩, ?_⟩⟩
  refine for_fix (q.map D.int) (fun i δ m' => ∃ t' acc k, m' = put m p (.lst acc) ∧ δ = [some t', some (.tup (q.map D.int)), some u, some (.ref p), k, none] ∧ acc ++ wayL (q.drop i) t' = wayL q t ∧ acc.length = i ∧ hT t' = true ∧ (∃ w, partD (q.drop i) t' = some w)) (fun _ _ _ _ => rfl)
    ⟨t, [], none, rfl, rfl, rfl, rfl, ht, w, hp⟩ ?_ ?_
  · rintro i k x δ m' hx hi hl2 ⟨t', acc, kk, rfl, rfl, ea, la, ht', w', hw'⟩
    rw [List.length_map] at hl2
    rw [List.getElem?_map, List.getElem?_eq_getElem hl2] at hx
    cases hx
    rw [List.drop_eq_getElem_cons hl2] at hw' ea
    generalize q[i] = j at hw' ea ⊢
    obtain ⟨c, h0, e1, e2, hc⟩ := partD_cons hw'
    obtain ⟨f, et, hk⟩ := hT_tup ht'
    simp only [S, SS', SB, List.set, addR]
    refine ⟨⟨_, asLp⟩, acc, put_same, by omega, ?_⟩
    rw [put_put, et]
    refine ixT (at_kid h0 e1) (fN_intro hi (by rw [List.length_map]; exact hl2) ⟨c, acc ++ [t'], _, by rw [← et], rfl, ?_, by simp [la], hTs_mem hk c (List.mem_of_getElem? e1), w', hc⟩)
    rw [wayL, e2] at ea
    rw [List.append_assoc]
    exact ea
  · rintro δ m' ⟨t', acc, kk, rfl, rfl, ea, la, ht', _⟩
    rw [List.length_map, List.drop_length, wayL, List.append_nil] at ea
    subst ea
    have wl := wayL_len q t
    have ok := way_ok q hp ht hs
    simp only [S, SS', SB, diZip, asLp]
    refine .inl ⟨_, rfl, .inr ⟨_, _, _, _, _, _, rfl, rfl, rfl, ?_⟩⟩
    simp only [revC, Bool.false_eq_true, if_false]
    rw [← List.map_reverse, zipD_map, zip_rev _ _ wl.symm]
    refine for_fix ((q.zip (wayL q t)).reverse.map itK) (fun i δ m' => ∃ a b, m' = put m p (.lst (wayL q t)) ∧ δ = [some t', some (.tup (q.map D.int)), some (((q.zip (wayL q t)).reverse.take i).foldl (fun o x => stK x o) u), some (.ref p), a, b]) (fun _ _ _ _ => rfl)
      ⟨_, _, rfl, rfl⟩ ?_ ?_
    · rintro i k x δ m' hx hi hl2 ⟨a, b, rfl, rfl⟩
      have hl3 : i < (q.zip (wayL q t)).reverse.length := by simpa using hl2
      rw [List.getElem?_map, List.getElem?_eq_getElem hl3] at hx
      cases hx
      have hz : (q.zip (wayL q t)).reverse[i] ∈ q.zip (wayL q t) := List.mem_reverse.mp (List.getElem_mem hl3)
      obtain ⟨f, cs, ex, x0, x1, x2⟩ := ok _ hz
      have et : (q.zip (wayL q t)).reverse.take (i + 1) = (q.zip (wayL q t)).reverse.take i ++ [(q.zip (wayL q t)).reverse[i]] := by rw [List.take_succ, List.getElem?_eq_getElem hl3]; rfl
      have goal : ∀ z, z = (((q.zip (wayL q t)).reverse.take (i + 1)).foldl (fun o x => stK x o) u) → fN ((q.zip (wayL q t)).reverse.map itK) (fun i δ m' => ∃ a b, m' = put m p (.lst (wayL q t)) ∧ δ = [some t', some (.tup (q.map D.int)), some (((q.zip (wayL q t)).reverse.take i).foldl (fun o x => stK x o) u), some (.ref p), a, b]) i k
          [some t', some (.tup (q.map D.int)), some z, some (.ref p), some (.int ((q.zip (wayL q t)).reverse[i]).1), some ((q.zip (wayL q t)).reverse[i]).2] (put m p (.lst (wayL q t))) := fun z e => by
        rw [e]
        exact fN_intro hi hl2 ⟨_, _, rfl, rfl⟩
      rw [et, List.foldl_append] at goal
      generalize (q.zip (wayL q t)).reverse[i] = y at hz ex x0 x1 goal ⊢
      obtain ⟨j, part⟩ := y
      simp only at ex x0 x1 goal
      subst ex
      generalize ((q.zip (wayL q t)).reverse.take i).foldl (fun o x => stK x o) u = o at goal ⊢
      simp only [itK, S, SS', SB]
      simp only [addR, slR, SB]
      have lc := cut_le (f :: cs) none (some (j + 1))
      have lc2 := cut_le (f :: cs) (some (j + 2)) none
      simp only [List.length_cons, List.length_append, List.length_nil] at lc lc2 ⊢
      refine ⟨by omega, by omega, by omega, ?_⟩
      rw [cut_put x0 x1]
      exact goal _ rfl
    · rintro δ m' ⟨a, b, rfl, rfl⟩
      simp only [S, SS', SB]
      rw [List.take_of_length_le (by simp)]
      rw [List.foldl_reverse] at *
      have := qq _ (Le.new hpn (o := .lst (wayL q t)))
      rw [put_fold] at this
      exact this
end L2.AP
set_option Elab.async false
set_option linter.all false
set_option maxRecDepth 100000
set_option maxHeartbeats 4000000
/-! P3: the laws' own places. -/
namespace L2.AP
open PySem PySem.Spec PyProof.Rows
/-! ### _law_put -/
def lastP : List Int → D → D
  | [], t => t
  | i :: r, t => lastP r ((kids t).getD i.toNat .non)
theorem lastP_part : ∀ (q : List Int) {t w : D}, partD q t = some w → lastP q t = w
  | [], _, _, h => by cases h; rfl
  | i :: r, t, w, h => by
    obtain ⟨c, _, _, e, hc⟩ := partD_cons h
    rw [lastP, e]
    exact lastP_part r hc
def sp__law_put : DSp := fun ds m Q _ => match ds with
  | [t, d, u] => ∃ q w, d = plD q ∧ partD q t = some w ∧ hT t = true ∧ szD t ≤ 10000 ∧ q.length ≤ 10000 ∧ Q (putD q t u) m
  | _ => False
def t__law_put : DTS :=
  dSeq (dAsg (dLst true (dCons (dVar 0) dNil)) (dgName 3)) <|
  dSeq (dFor (diAny (dVar 1)) (dgName 4) (dDrop (dBM appendR (dVar 3) (dCons (dOp ixR (dOp ixR (dVar 3) (dUn negR (dC (.int 1)))) (dOp addR (dVar 4) (dC (.int 1)))) dNil)))) <|
  dSeq (dFor (diRange3 (dCons (dOp subR (dCall lenR (dCons (dVar 1) dNil)) (dC (.int 1))) (dCons (dUn negR (dC (.int 1))) (dCons (dUn negR (dC (.int 1))) dNil)))) (dgName 5) (dSeq (dAsg (dOp ixR (dVar 1) (dVar 5)) (dgName 4)) <|
      dAsg (dOp addR (dOp addR (dSl false (dOp ixR (dVar 3) (dVar 5)) dNoPart (dPart (dOp addR (dVar 4) (dC (.int 1))))) (dTup (dCons (dVar 2) dNil))) (dSl false (dOp ixR (dVar 3) (dVar 5)) (dPart (dOp addR (dVar 4) (dC (.int 2)))) dNoPart)) (dgName 2))) <|
  dRet (dVar 2)
theorem at_last {α : Type} (xs : List α) (x : α) : atI (xs ++ [x]) (-1) = some x := by
  have : ixN (xs ++ [x]).length (-1) = some xs.length := by
    simp [ixN]
    omega
  simp only [atI, this]
  simp
theorem rgc_down (n : Nat) (h : n ≤ 1000000) : RgC ((n : Int) - 1) (-1) (-1) n := by
  have := RgC.neg (i := (n : Int) - 1) (j := -1) (by omega) (by omega) (by omega) (by omega)
  rwa [show ((n : Int) - 1 - -1).toNat = n by omega] at this
theorem rngd_get {n i : Nat} {x : D} (h : (rng ((n : Int) - 1) (-1) n)[i]? = some x) : i < n ∧ x = .int ((n - 1 - i : Nat) : Int) := by
  obtain ⟨h1, h2⟩ := rng_get h
  exact ⟨h1, by rw [h2]; congr 1; omega⟩
theorem v__law_put {W : DW} {E : DEnds} {m : AH} {t u w : D} {q : List Int} (hp : partD q t = some w) (ht : hT t = true) (hs : szD t ≤ 10000) (hl : q.length ≤ 10000) (qq : ∀ m', Le m m' → E.rt (putD q t u) m') : t__law_put W E [some t, some (plD q), some u, none, none, none] m := by
  have big : (1000000 : Nat) ≤ sizeLine := sl0
  unfold t__law_put
  simp only [S, SS', SL, SB, VL, plD]
  refine ⟨by omega, fun p hpn => ⟨⟨_, rfl⟩, ?_⟩⟩
  refine for_fix (q.map D.int) (fun i δ m' => ∃ t' acc k, m' = put m p (.lst (acc ++ [t'])) ∧ δ = [some t, some (.tup (q.map D.int)), some u, some (.ref p), k, none] ∧ acc ++ wayL (q.drop i) t' = wayL q t ∧ acc.length = i ∧ hT t' = true ∧ (∃ w, partD (q.drop i) t' = some w)) (fun _ _ _ _ => rfl)
    ⟨t, [], none, rfl, rfl, rfl, rfl, ht, w, hp⟩ ?_ ?_
  · rintro i k x δ m' hx hi hl2 ⟨t', acc, kk, rfl, rfl, ea, la, ht', w', hw'⟩
    rw [List.length_map] at hl2
    rw [List.getElem?_map, List.getElem?_eq_getElem hl2] at hx
    cases hx
    rw [List.drop_eq_getElem_cons hl2] at hw' ea
    generalize q[i] = j at hw' ea ⊢
    obtain ⟨c, h0, e1, e2, hc⟩ := partD_cons hw'
    obtain ⟨f, et, hk⟩ := hT_tup ht'
    simp only [S, SS', SB, addR, negR]
    refine ⟨⟨_, asLp⟩, ixR_w put_same (at_last acc t') ?_⟩
    rw [et]
    refine ixT (at_kid h0 e1) ?_
    rw [← et]
    refine ⟨acc ++ [t'], put_same, by simp; omega, ?_⟩
    rw [put_put]
    refine fN_intro hi (by rw [List.length_map]; exact hl2) ⟨c, acc ++ [t'], _, rfl, rfl, ?_, by simp [la], hTs_mem hk c (List.mem_of_getElem? e1), w', hc⟩
    rw [wayL, e2] at ea
    rw [List.append_assoc]
    exact ea
  · rintro δ m' ⟨t', acc, kk, rfl, rfl, ea, la, ht', _⟩
    rw [List.length_map] at la
    rw [List.length_map, List.drop_length, wayL, List.append_nil] at ea
    subst ea
    have wl := wayL_len q t
    have ok := way_ok q hp ht hs
    simp only [S, SS', SB, diRange3, lenR, VL, subR, negR, List.length_map]
    refine ⟨_, _, _, q.length, rfl, rgc_down q.length (by omega), ?_⟩
    refine for_fix (rng ((q.length : Int) - 1) (-1) q.length) (fun i δ m' => ∃ a b, m' = put m p (.lst (wayL q t ++ [t'])) ∧ δ = [some t, some (.tup (q.map D.int)), some (((q.zip (wayL q t)).reverse.take i).foldl (fun o x => stK x o) u), some (.ref p), a, b]) (fun _ _ _ _ => rfl)
      ⟨_, _, rfl, rfl⟩ ?_ ?_
    · rintro i k x δ m' hx hi hl2 ⟨a, b, rfl, rfl⟩
      obtain ⟨hq, rfl⟩ := rngd_get hx
      have lz : (q.zip (wayL q t)).length = q.length := by rw [List.length_zip, wl, Nat.min_self]
      have hl3 : i < (q.zip (wayL q t)).reverse.length := by rw [List.length_reverse, lz]; exact hq
      have hz : (q.zip (wayL q t)).reverse[i] ∈ q.zip (wayL q t) := List.mem_reverse.mp (List.getElem_mem hl3)
      obtain ⟨f, cs, ex, x0, x1, x2⟩ := ok _ hz
      have et : (q.zip (wayL q t)).reverse.take (i + 1) = (q.zip (wayL q t)).reverse.take i ++ [(q.zip (wayL q t)).reverse[i]] := by rw [List.take_succ, List.getElem?_eq_getElem hl3]; rfl
      have hj : q.length - 1 - i < q.length := by omega
      have hj2 : q.length - 1 - i < (wayL q t).length := by omega
      have eg : (q.zip (wayL q t)).reverse[i] = (q[q.length - 1 - i], (wayL q t)[q.length - 1 - i]) := by
        rw [List.getElem_reverse]
        simp only [lz, List.getElem_zip]
      have goal : ∀ z, z = (((q.zip (wayL q t)).reverse.take (i + 1)).foldl (fun o x => stK x o) u) → fN (rng ((q.length : Int) - 1) (-1) q.length) (fun i δ m' => ∃ a b, m' = put m p (.lst (wayL q t ++ [t'])) ∧ δ = [some t, some (.tup (q.map D.int)), some (((q.zip (wayL q t)).reverse.take i).foldl (fun o x => stK x o) u), some (.ref p), a, b]) i k
          [some t, some (.tup (q.map D.int)), some z, some (.ref p), some (.int (q[q.length - 1 - i])), some (.int ((q.length - 1 - i : Nat) : Int))] (put m p (.lst (wayL q t ++ [t']))) := fun z e => by
        rw [e]
        exact fN_intro hi hl2 ⟨_, _, rfl, rfl⟩
      rw [et, List.foldl_append] at goal
      generalize ((q.zip (wayL q t)).reverse.take i).foldl (fun o x => stK x o) u = o at goal ⊢
      have a1 : atI (q.map D.int) ((q.length - 1 - i : Nat) : Int) = some (.int q[q.length - 1 - i]) := by
        rw [atN (by omega) (by rw [List.length_map]; omega), Int.toNat_natCast, List.getElem?_map, List.getElem?_eq_getElem hj]; rfl
      have a2 : atI (wayL q t ++ [t']) ((q.length - 1 - i : Nat) : Int) = some (wayL q t)[q.length - 1 - i] := by
        rw [atN (by omega) (by rw [List.length_append]; simp; omega), Int.toNat_natCast, List.getElem?_append_left hj2, List.getElem?_eq_getElem hj2]
      rw [eg] at ex x0 x1 goal
      simp only at ex x0 x1
      simp only [S, SS', SB]
      refine ixT a1 ?_
      generalize q[q.length - 1 - i] = j at ex x0 x1 goal ⊢
      rw [ex] at goal a2
      refine ixR_w put_same a2 ?_
      simp only [addR, slR, SB]
      refine ⟨by omega, ?_⟩
      have lc := cut_le (f :: cs) none (some (j + 1))
      have lc2 := cut_le (f :: cs) (some (j + 2)) none
      simp only [List.length_cons, List.length_append, List.length_nil] at lc lc2 ⊢
      refine ⟨by omega, ?_⟩
      refine ixR_w put_same a2 ?_
      simp only [SB]
      refine ⟨by omega, ?_⟩
      rw [cut_put x0 x1]
      exact goal _ rfl
    · rintro δ m' ⟨a, b, rfl, rfl⟩
      simp only [S, SS', SB]
      have := qq _ (Le.new hpn (o := .lst (wayL q t ++ [t'])))
      rw [List.take_of_length_le (by rw [List.length_reverse, List.length_zip, rng_len]; omega), List.foldl_reverse]
      rw [put_fold] at this
      exact this
end L2.AP
set_option Elab.async false
set_option linter.all false
set_option maxRecDepth 100000
set_option maxHeartbeats 4000000
/-! P4: all places in order. -/
namespace L2.AP
open PySem PySem.Spec PyProof.Rows
theorem kidsK_rng (pl : List Int) : ∀ (cs : List D) (i : Nat), kidsK pl i cs = (List.range cs.length).map fun k : Nat => (pl ++ [((i + k : Nat) : Int)], cs.getD k .non)
  | [], i => rfl
  | c :: cs, i => by
    rw [kidsK, kidsK_rng pl cs (i + 1), List.length_cons, List.range_succ_eq_map, List.map_cons, List.map_map]
    refine congrArg (List.cons _) (List.map_congr_left fun k _ => ?_)
    simp only [Function.comp_apply, Nat.succ_eq_add_one, List.getD_cons_succ]
    rw [show i + 1 + k = i + (k + 1) by omega]
theorem kids_rng (x : List Int × D) : (rng 0 1 (kids x.2).length).map (fun d => spotD (x.1 ++ [num d], (kids x.2).getD (num d).toNat .non)) = (kidsX x).map spotD := by
  rw [kidsX, kidsK_rng, List.map_map, rng_map]
  refine List.map_congr_left fun k _ => ?_
  simp [num]
theorem lay_spot {x : List Int × D} (g : gd x.2 = true) : lay (spotD x) = true := by
  simp only [spotD, plD, lay, lays, lays_ints, gd_lay _ g]
  rfl
theorem spotsX_mem (x : List Int × D) : x ∈ spotsX x := by rw [spotsX_eq]; exact List.mem_cons_self
def sp__law_spots : DSp := fun ds m Q _ => match ds with
  | [t] => (∃ es, vld es t = true) ∧ gd t = true ∧ szD t ≤ 10000 ∧ dpD t ≤ 60 ∧ Q (.lst ((spotsD [] t).map spotD)) m
  | _ => False
def t_spotsB : DTS := dSeq (dAsg (dBM popR (dVar 2) dNil) (dgTup 2 (dgCons (dgName 3) (dgCons (dgName 4) dgNil)))) <|
      dSeq (dDrop (dBM appendR (dVar 1) (dCons (dTup (dCons (dVar 3) (dCons (dVar 4) dNil))) dNil))) <|
      dAsg (dOp addMR (dVar 2) (dLc false (diRange1 (dCons (dOp subR (dCall lenR (dCons (dVar 4) dNil)) (dC (.int 1))) dNil)) (dgName 5) dYes (dTup (dCons (dOp addR (dVar 3) (dTup (dCons (dVar 5) dNil))) (dCons (dOp ixR (dVar 4) (dOp addR (dVar 5) (dC (.int 1)))) dNil))) [5])) (dgName 2)
def t__law_spots : DTS :=
  dSeq (dPar 1 2 (dCons (dLst true dNil) (dCons (dLst true (dCons (dTup (dCons (dTup dNil) (dCons (dVar 0) dNil))) dNil)) dNil))) <|
  dSeq (dWhile (dTest (dOp neR (dVar 2) (dLst false dNil))) t_spotsB) <|
  dRet (dCall (sortedR false) (dCons (dVar 1) dNil))
theorem v_spotsB {W : DW} {E : DEnds} {m : AH} {t : D} {p pw : Addr} {w fnd : List (List Int × D)} {x : List Int × D} {x3 x4 x5 : Option D} (hp : m p = some (.lst (fnd.map spotD))) (hw : m pw = some (.lst (w.map spotD ++ [spotD x]))) (ne : p ≠ pw)
    (ht : hT x.2 = true) (lf : fnd.length ≤ 100000) (lw : w.length + (kids x.2).length ≤ 100000) (lx : x.1.length ≤ 1000)
    (q : ∀ p' m', m' p = some (.lst ((fnd ++ [x]).map spotD)) → m' p' = some (.lst ((w ++ kidsX x).map spotD)) → p ≠ p' → (∀ m0, Le m0 m → m0 p = none → m0 pw = none → Le m0 m' ∧ m0 p' = none) → E.nx [some t, some (.ref p), some (.ref p'), some (plD x.1), some x.2, x5] m') :
    t_spotsB W E [some t, some (.ref p), some (.ref pw), x3, x4, x5] m := by
  have big : (1000000 : Nat) ≤ sizeLine := sl0
  obtain ⟨f, et, hk⟩ := hT_tup ht
  unfold t_spotsB
  simp only [S, SS', SB]
  refine ⟨⟨_, asL_ref hw⟩, w.map spotD, spotD x, hw, ?_⟩
  simp only [spotD, SS', S, SL, SB]
  have hp1 : (put m pw (.lst (w.map spotD))) p = some (.lst (fnd.map spotD)) := by rw [put_ne ne]; exact hp
  refine ⟨⟨_, asL_ref hp1⟩, by omega, fnd.map spotD, hp1, by rw [List.length_map]; omega, ?_⟩
  generalize em : put (put m pw (.lst (w.map spotD))) p (.lst (fnd.map spotD ++ [.tup [plD x.1, x.2]])) = m2
  have hp2 : m2 p = some (.lst ((fnd ++ [x]).map spotD)) := by rw [← em, put_same, List.map_append]; rfl
  have hw2 : m2 pw = some (.lst (w.map spotD)) := by rw [← em, put_ne (Ne.symm ne), put_same]
  have hL : ∀ m0, Le m0 m → m0 p = none → m0 pw = none → Le m0 m2 := fun m0 l n1 n2 => by rw [← em]; exact (l.put_new n2).put_new n1
  generalize ek : kids x.2 = cs at et hk lw
  rw [et]
  simp only [S, SS', SB, lenR, VL, subR]
  rw [show (((cs.length + 1 : Nat) : Int) - 1) = (cs.length : Int) by omega]
  refine ⟨_, rfl, ⟨by omega, by omega⟩, ?_⟩
  rw [Int.toNat_natCast]
  refine lc_map (rng 0 1 cs.length) (fun d => spotD (x.1 ++ [num d], cs.getD (num d).toNat .non)) (fun _ _ => rfl) (by rw [rng1_len]; omega) (fun y hy m3 C _ hC => ?_) ?_
  · obtain ⟨k, hk2, rfl⟩ := rng_mem hy
    simp only [S, SS', SB, wipeD, List.set, addR, plD, List.length_map]
    refine ⟨by omega, by omega, ixT (at_kid (by omega) (c := cs.getD k .non) ?_) ⟨by omega, ?_⟩⟩
    · rw [Int.toNat_natCast, List.getD_eq_getElem?_getD, List.getElem?_eq_getElem hk2]
      rfl
    · simpa [spotD, plD, num] using hC
  · have e := kids_rng x
    rw [ek] at e
    rw [e]
    refine ⟨w.map spotD, (kidsX x).map spotD, asL_ref hw2, rfl, ?_, fun p' hp' => ?_⟩
    · rw [List.length_map, List.length_map, kidsX, kidsK_rng, ek, List.length_map, List.length_range]
      omega
    · have n1 : p ≠ p' := fun z => by rw [← z, hp2] at hp'; cases hp'
      have := q p' (put m2 p' (.lst ((w ++ kidsX x).map spotD))) (by rw [put_ne n1]; exact hp2) put_same n1 (fun m0 l a1 a2 => ⟨(hL m0 l a1 a2).put_new ((hL m0 l a1 a2).none hp'), (hL m0 l a1 a2).none hp'⟩)
      rw [et, List.map_append] at this
      exact this
theorem flat_len : ∀ w : List (List Int × D), w.length ≤ (w.flatMap spotsX).length
  | [] => Nat.zero_le _
  | y :: w => by
    have := flat_len w
    rw [List.flatMap_cons, List.length_append, List.length_cons, spotsX_eq y, List.length_cons]
    omega
theorem map_nil_iff {α β : Type} {f : α → β} {xs : List α} : (xs.map f).isEmpty = xs.isEmpty := by cases xs <;> rfl
theorem v__law_spots {W : DW} {E : DEnds} {m : AH} {es : List D} {t : D} (v : vld es t = true) (g : gd t = true) (hs : szD t ≤ 10000) (hd : dpD t ≤ 60) (q : ∀ m', Le m m' → E.rt (.lst ((spotsD [] t).map spotD)) m') : t__law_spots W E [some t, none, none, none, none, none] m := by
  have big : (1000000 : Nat) ≤ sizeLine := sl0
  unfold t__law_spots
  simp only [S, SS', SB]
  refine ⟨by omega, fun p hp => ⟨by omega, by omega, by omega, fun pw hpw => ?_⟩⟩
  have n0 : p ≠ pw := fun z => by rw [← z, put_same] at hpw; cases hpw
  have hpw0 : m pw = none := by rwa [put_ne (Ne.symm n0)] at hpw
  refine ⟨fun k δ m' => ∃ (pw : Addr) (w fnd : List (List Int × D)) (x3 x4 : Option D), δ = [some t, some (.ref p), some (.ref pw), x3, x4, none] ∧ m' p = some (.lst (fnd.map spotD)) ∧ m' pw = some (.lst (w.map spotD)) ∧ p ≠ pw ∧ Le m m' ∧ m pw = none ∧ (fnd ++ w.flatMap spotsX).Perm (spotsD [] t) ∧ k = (w.flatMap spotsX).length,
    ⟨_, pw, [([], t)], [], none, none, rfl, by rw [put_ne n0, put_same]; rfl, by rw [put_same]; rfl, n0, (Le.new hp).put_new hpw0, hpw0, by simp [spotsX], rfl⟩, ?_⟩
  rintro k δ m' ⟨pw', w, fnd, x3, x4, rfl, h1, h2, ne, le, hn, pm, rfl⟩
  have all : ∀ x ∈ fnd ++ w.flatMap spotsX, partD x.1 t = some x.2 ∧ vld es x.2 = true ∧ gd x.2 = true ∧ szD x.2 ≤ szD t ∧ dpD x.2 + x.1.length ≤ dpD t := fun x hx => spots_all v g (pm.subset hx)
  have len := pm.length_eq
  rw [spots_len, List.length_append] at len
  have ww : ∀ {x : List Int × D}, x ∈ w → x ∈ fnd ++ w.flatMap spotsX := fun {x} hx => List.mem_append_right _ (List.mem_flatMap.mpr ⟨x, hx, spotsX_mem x⟩)
  have ly : lays (w.map spotD) = true := lays_of fun y hy => by
    obtain ⟨x, hx, rfl⟩ := List.mem_map.mp hy
    exact lay_spot (all x (ww hx)).2.2.1
  simp only [S, SS', SB, neR, val, h2, lay, ly, lays, eqD, eqDs_nil, dep, deps, map_nil_iff]
  refine ⟨by omega, by omega, ?_⟩
  rcases List.eq_nil_or_concat w with rfl | ⟨w, x, rfl⟩
  · simp only [List.isEmpty_nil, Bool.not_true, Bool.false_eq_true, if_false]
    rw [List.flatMap_nil, List.append_nil] at pm
    refine ⟨fnd.map spotD, asL_ref h1, .inr ⟨⟨false, spots_sort (es := es) fun x hx => ?_⟩, fun ys py so => ?_⟩⟩
    · have := all x (List.mem_append_left _ hx)
      exact ⟨this.2.1, by omega⟩
    · have e := sorted_uniq (py.trans (pm.map spotD)) so (spots_pairs v g)
      rw [e]
      exact q _ le
  · have hcon : w.concat x = w ++ [x] := by simp
    rw [hcon] at h2 pm len ww all ⊢
    have hx := all x (ww (by simp))
    have ht := vld_hT x.2 hx.2.1
    have sk := sz_kids ht
    have sl := szs_len (kids x.2)
    have lw := flat_len w
    rw [List.flatMap_append, List.length_append] at len
    rw [if_pos (by simp)]
    rw [List.map_append] at h2
    refine v_spotsB h1 h2 ne ht (by omega) (by omega) (by omega) fun p' m2 a1 a2 a3 a4 => ?_
    obtain ⟨b1, b2⟩ := a4 m le hp hn
    have fl : [x].flatMap spotsX = x :: (kidsX x).flatMap spotsX := by rw [List.flatMap_cons, List.flatMap_nil, List.append_nil, spotsX_eq x]
    refine ⟨((w ++ kidsX x).flatMap spotsX).length, _, _, ?_, LeL.refl _, Le.refl _, p', w ++ kidsX x, fnd ++ [x], some (plD x.1), some x.2, rfl, a1, a2, a3, b1, b2, ?_, rfl⟩
    · rw [List.flatMap_append, List.flatMap_append, List.length_append, List.length_append, fl, List.length_cons]
      omega
    · refine List.Perm.trans ?_ pm
      rw [List.flatMap_append, List.flatMap_append, fl, List.append_assoc]
      refine List.Perm.append_left fnd ?_
      rw [← List.append_assoc]
      refine List.Perm.trans ?_ (List.perm_middle.symm)
      rw [List.append_assoc]
      exact List.Perm.refl _
end L2.AP
set_option Elab.async false
set_option linter.all false
set_option maxRecDepth 100000
set_option maxHeartbeats 4000000
/-! P5: steps. -/
namespace L2.AP
open PySem PySem.Spec PyProof.Rows
/-- the rules whose left side is a part -/
def matchL (rs : List D) (part : D) : List Nat := (List.range rs.length).filter fun k => eqD (fst (rs.getD k .non)) part
def TupD (d : D) : Prop := ∃ xs, d = .tup xs
structure RowsOk (rs : List D) : Prop where
  len : rs.length ≤ 100
  all : ∀ r ∈ rs, ∃ l u, r = .tup [l, u] ∧ gd l = true ∧ gd u = true ∧ dep l ≤ 60 ∧ TupD l
theorem enumD_rng : ∀ (xs : List D) (i : Nat), enumD i xs = (List.range xs.length).map fun k : Nat => .tup [.int ((i + k : Nat) : Int), xs.getD k .non]
  | [], i => rfl
  | x :: xs, i => by
    rw [enumD, enumD_rng xs (i + 1), List.length_cons, List.range_succ_eq_map, List.map_cons, List.map_map]
    refine congrArg (List.cons _) (List.map_congr_left fun k _ => ?_)
    simp only [Function.comp_apply, Nat.succ_eq_add_one, List.getD_cons_succ]
    rw [show i + 1 + k = i + (k + 1) by omega]
theorem getD_mem {xs : List D} {k : Nat} (h : k < xs.length) : xs[k]? = some (xs.getD k .non) ∧ xs.getD k .non ∈ xs := by
  have e := List.getElem?_eq_getElem h
  rw [List.getD_eq_getElem?_getD, e]
  exact ⟨rfl, List.getElem_mem h⟩
theorem match_lt {rs : List D} {part : D} {k : Nat} (h : k ∈ matchL rs part) : k < rs.length ∧ eqD (fst (rs.getD k .non)) part = true := by
  rw [matchL, List.mem_filter, List.mem_range] at h
  exact h
theorem match_len (rs : List D) (part : D) : (matchL rs part).length ≤ rs.length := by
  have := List.length_filter_le (fun k => eqD (fst (rs.getD k .non)) part) (List.range rs.length)
  rwa [List.length_range] at this
theorem fm_filter {α β : Type} (p : α → Bool) (f : α → β) : ∀ xs : List α, (xs.filterMap fun k => if p k = true then some (f k) else none) = (xs.filter p).map f
  | [] => rfl
  | x :: xs => by
    rw [List.filterMap_cons, List.filter_cons, fm_filter p f xs]
    cases p x <;> rfl
def sp_rules_at : DSp := fun ds m Q _ => match ds with
  | [.tup rs, part] => RowsOk rs ∧ gd part = true ∧ TupD part ∧ Q (.lst ((matchL rs part).map fun k : Nat => .int (k : Int))) m
  | _ => False
def t_rules_at : DTS :=
  dRet (dLc false (diEnum (dCons (dVar 0) dNil)) (dgTup 2 (dgCons (dgName 2) (dgCons (dgTup 2 (dgCons (dgName 3) (dgCons (dgName 4) dgNil))) dgNil))) (dTest (dOp eqR (dVar 3) (dVar 1))) (dVar 2) [2, 3, 4])
theorem v_rules_at {W : DW} {E : DEnds} {m : AH} {rs : List D} {part : D} (hr : RowsOk rs) (g : gd part = true) (ht : TupD part) (q : E.rt (.lst ((matchL rs part).map fun k : Nat => .int (k : Int))) m) : t_rules_at W E [some (.tup rs), some part, none, none, none] m := by
  obtain ⟨xs, rfl⟩ := ht
  unfold t_rules_at
  simp only [S, SS', SL, SB, diEnum]
  refine ⟨_, rs, rfl, rfl, lc_fm (enumD 0 rs) (fun e => if eqD (fst (snd e)) (.tup xs) = true then some (fst e) else none) (fun m2 _ => rfl) (two_le (by rw [enumD_len]; have := hr.len; omega)) (fun e he m2 C N _ c n => ?_) ?_⟩
  · rw [enumD_rng] at he
    obtain ⟨k, hk, rfl⟩ := List.mem_map.mp he
    have hk := List.mem_range.mp hk
    obtain ⟨l, u, e1, g1, _, d1, ls, rfl⟩ := hr.all _ (getD_mem hk).2
    simp only [e1, snd, fst] at c n
    simp only [e1, S, SS', SB, wipeD, List.set, eqR, val]
    refine ⟨gd_lay _ g1, gd_lay _ g, by omega, ?_⟩
    cases h : eqD (.tup ls) (.tup xs) with
    | true => exact c _ (by rw [if_pos h])
    | false => exact n (by rw [if_neg (by rw [h]; decide)])
  · have e : (enumD 0 rs).filterMap (fun e => if eqD (fst (snd e)) (.tup xs) = true then some (fst e) else none) = (matchL rs (.tup xs)).map fun k : Nat => .int (k : Int) := by
      rw [enumD_rng, List.filterMap_map, matchL, ← fm_filter]
      refine fm_congr fun k _ => ?_
      simp only [Function.comp_apply, Nat.zero_add, AP.fst, AP.snd]
      rfl
    rw [e]
    exact q
/-! ### place_on -/
def aboveR : List Int → D
  | [] => .non
  | i :: r => .tup [.int i, aboveR r]
def aboveD (pl : List Int) : D := aboveR pl.reverse
theorem above_snoc (pl : List Int) (i : Int) : aboveD (pl ++ [i]) = .tup [.int i, aboveD pl] := by
  rw [aboveD, List.reverse_append]
  rfl
def sp_place_on : DSp := fun ds m Q _ => match ds with
  | [d] => ∃ pl, d = aboveD pl ∧ pl.length ≤ 1000 ∧ Q (plD pl) m
  | _ => False
def t_place_on : DTS :=
  dSeq (dAsg (dLst true dNil) (dgName 1)) <|
  dSeq (dWhile (dTest (dOp isNotR (dVar 0) (dC .non))) (dSeq (dAsg (dVar 0) (dgTup 2 (dgCons (dgName 2) (dgCons (dgName 0) dgNil)))) <|
      dDrop (dBM appendR (dVar 1) (dCons (dVar 2) dNil)))) <|
  dRet (dCall tupleR (dCons (dRevG false (dVar 1)) dNil))
theorem v_place_on {W : DW} {E : DEnds} {m : AH} {pl : List Int} (hl : pl.length ≤ 1000) (q : ∀ m', Le m m' → E.rt (plD pl) m') : t_place_on W E [some (aboveD pl), none, none] m := by
  have big : (1000000 : Nat) ≤ sizeLine := sl0
  unfold t_place_on
  simp only [S, SS', SB]
  refine ⟨by omega, fun p hp => ?_⟩
  refine ⟨fun k δ m' => ∃ (r acc : List Int) (x : Option D), δ = [some (aboveR r), some (.ref p), x] ∧ m' = put m p (.lst (acc.map D.int)) ∧ acc ++ r = pl.reverse ∧ k = r.length, ⟨_, pl.reverse, [], none, rfl, rfl, rfl, rfl⟩, ?_⟩
  rintro k δ m' ⟨r, acc, x, rfl, rfl, e, rfl⟩
  have len := congrArg List.length e
  rw [List.length_append, List.length_reverse] at len
  cases r with
  | nil =>
    rw [List.append_nil] at e
    simp only [S, SS', SB, aboveR, isNotR, isR, Bool.not_true, Bool.false_eq_true, if_false]
    refine .inr ⟨acc.map D.int, asLp, _, rfl, ?_⟩
    have := q _ (Le.new hp (o := .lst (acc.map D.int)))
    rw [plD] at this
    simp only [revC, Bool.false_eq_true, if_false]
    subst e
    rw [← List.map_reverse, List.reverse_reverse]
    exact this
  | cons i r =>
    simp only [S, SS', SB, aboveR, isNotR, isR, Bool.not_false, if_true]
    refine ⟨⟨_, asLp⟩, _, put_same, by rw [List.length_map]; omega, ?_⟩
    rw [put_put]
    refine ⟨r.length, _, _, Nat.lt_succ_self _, LeL.refl _, Le.refl _, r, acc ++ [i], _, rfl, by rw [List.map_append]; rfl, by rw [List.append_assoc]; exact e, rfl⟩
end L2.AP
set_option Elab.async false
set_option linter.all false
set_option maxRecDepth 100000
set_option maxHeartbeats 4000000
/-! P6: rows of steps. -/
namespace L2.AP
open PySem PySem.Spec PyProof.Rows
def stepD (pl : List Int) (k : Nat) : D := .tup [plD pl, .int (k : Int)]
def stepsX (rs : List D) (x : List Int × D) : List D := (matchL rs x.2).map (stepD x.1)
def allSteps (rs : List D) (t : D) : List D := (spotsD [] t).flatMap (stepsX rs)
def itemF (x : List Int × D) : D := .tup [x.2, aboveD x.1]
theorem rngd_map {β : Type} (f : D → β) (n : Nat) : (rng ((n : Int) - 1) (-1) n).map f = ((List.range n).map fun k : Nat => f (.int (k : Int))).reverse := by
  apply List.ext_getElem?
  intro i
  by_cases c : i < n
  · have hl : i < (rng ((n : Int) - 1) (-1) n).length := by rw [rng_len]; exact c
    have e := List.getElem?_eq_getElem hl
    obtain ⟨_, e2⟩ := rngd_get e
    rw [List.getElem?_map, e, e2, List.getElem?_reverse (by simpa using c)]
    simp only [List.length_map, List.length_range, List.getElem?_map]
    rw [List.getElem?_range (by omega)]
    rfl
  · rw [List.getElem?_eq_none (by rw [List.length_map, rng_len]; omega), List.getElem?_eq_none (by simp; omega)]
theorem kids_down (x : List Int × D) : (rng (((kids x.2).length : Int) - 1) (-1) (kids x.2).length).map (fun d => itemF (x.1 ++ [num d], (kids x.2).getD (num d).toNat .non)) = ((kidsX x).reverse).map itemF := by
  rw [kidsX, kidsK_rng, rngd_map, List.map_reverse, List.map_map]
  congr 1
  refine List.map_congr_left fun k _ => ?_
  simp [num]
theorem lay_aboveR : ∀ r : List Int, lay (aboveR r) = true ∧ dep (aboveR r) = r.length
  | [] => ⟨rfl, rfl⟩
  | i :: r => by
    obtain ⟨h1, h2⟩ := lay_aboveR r
    simp [aboveR, lay, lays, dep, deps, h1, h2]
theorem lay_item {x : List Int × D} (g : gd x.2 = true) : lay (itemF x) = true := by
  simp only [itemF, lay, lays, gd_lay _ g, (lay_aboveR _).1, aboveD]
  rfl
theorem lay_step (pl : List Int) (k : Nat) : lay (stepD pl k) = true := by
  simp only [stepD, plD, lay, lays, lays_ints]
  rfl
theorem steps_lay {rs : List D} {vis : List (List Int × D)} : lays (vis.flatMap (stepsX rs)) = true := lays_of fun y hy => by
  obtain ⟨x, _, hx⟩ := List.mem_flatMap.mp hy
  obtain ⟨k, _, rfl⟩ := List.mem_map.mp hx
  exact lay_step _ _
theorem steps_len {rs : List D} : ∀ vis : List (List Int × D), (vis.flatMap (stepsX rs)).length ≤ rs.length * vis.length
  | [] => Nat.zero_le _
  | x :: vis => by
    have := steps_len (rs := rs) vis
    have h := match_len rs x.2
    rw [List.flatMap_cons, List.length_append, stepsX, List.length_map, List.length_cons, Nat.mul_add]
    omega
structure TreeS (es : List D) (t : D) : Prop where
  v : vld es t = true
  g : gd t = true
  s : szD t ≤ 1000
  d : dpD t ≤ 60
def sp_first_steps : DSp := fun ds m Q _ => match ds with
  | [.tup rs, t, .int most] => RowsOk rs ∧ (∃ es, TreeS es t) ∧ ∀ p fnd, m p = none → (∃ rest, fnd ++ rest = allSteps rs t ∧ (rest = [] ∨ most ≤ fnd.length)) → Q (.ref p) (put m p (.lst fnd))
  | _ => False
def t_stepsC : DTS := dDrop (dBM extendR (dVar 4) (dCons (dLc false (diRange3 (dCons (dOp subR (dCall lenR (dCons (dVar 5) dNil)) (dC (.int 2))) (dCons (dUn negR (dC (.int 1))) (dCons (dUn negR (dC (.int 1))) dNil)))) (dgName 10) dYes (dTup (dCons (dOp ixR (dVar 5) (dOp addR (dVar 10) (dC (.int 1)))) (dCons (dTup (dCons (dVar 10) (dCons (dVar 6) dNil))) dNil))) [10]) dNil))
def t_stepsB : DTS := dSeq (dAsg (dBM popR (dVar 4) dNil) (dgTup 2 (dgCons (dgName 5) (dgCons (dgName 6) dgNil)))) <|
      dSeq (dAsg (dCallF 2 sp_rules_at (dCons (dVar 0) (dCons (dVar 5) dNil))) (dgName 7)) <|
      dSeq (dIfS (dTest (dOp neR (dVar 7) (dLst false dNil))) (dSeq (dAsg (dCallF 1 sp_place_on (dCons (dVar 6) dNil)) (dgName 8)) <|
          dDrop (dBM extendR (dVar 3) (dCons (dLc false (diAny (dVar 7)) (dgName 9) dYes (dTup (dCons (dVar 8) (dCons (dVar 9) dNil))) [9]) dNil))) (dNext)) <|
      t_stepsC
def t_first_steps : DTS :=
  dSeq (dPar 3 4 (dCons (dLst true dNil) (dCons (dLst true (dCons (dTup (dCons (dVar 1) (dCons (dC .non) dNil))) dNil)) dNil))) <|
  dSeq (dWhile (dAndT (dTest (dOp neR (dVar 4) (dLst false dNil))) (dTest (dOp ltR (dCall lenR (dCons (dVar 3) dNil)) (dVar 2)))) t_stepsB) <|
  dRet (dVar 3)
theorem v_stepsC {W : DW} {E : DEnds} {m : AH} {pw : Addr} {w : List (List Int × D)} {x : List Int × D} {x0 x1 x2 x3 x7 x8 x9 x10 : Option D} (hw : m pw = some (.lst (w.map itemF)))
    (ht : hT x.2 = true) (lw : w.length + (kids x.2).length ≤ 100000)
    (q : E.nx [x0, x1, x2, x3, some (.ref pw), some x.2, some (aboveD x.1), x7, x8, x9, x10] (put m pw (.lst ((w ++ (kidsX x).reverse).map itemF)))) :
    t_stepsC W E [x0, x1, x2, x3, some (.ref pw), some x.2, some (aboveD x.1), x7, x8, x9, x10] m := by
  have big : (1000000 : Nat) ≤ sizeLine := sl0
  obtain ⟨f, et, hk⟩ := hT_tup ht
  unfold t_stepsC
  generalize ek : kids x.2 = cs at et hk lw
  rw [et] at q ⊢
  simp only [S, SS', SL, SB, diRange3, lenR, VL, subR, negR]
  refine ⟨⟨_, asL_ref hw⟩, _, _, _, cs.length, rfl, ?_, ?_⟩
  · rw [show (((cs.length + 1 : Nat) : Int) - 2) = (cs.length : Int) - 1 by omega]
    exact rgc_down cs.length (by omega)
  · rw [show (((cs.length + 1 : Nat) : Int) - 2) = (cs.length : Int) - 1 by omega]
    refine lc_map (rng ((cs.length : Int) - 1) (-1) cs.length) (fun d => itemF (x.1 ++ [num d], cs.getD (num d).toNat .non)) (fun _ _ => rfl) (by rw [rng_len]; omega) (fun y hy m3 C _ hC => ?_) ?_
    · obtain ⟨i, hi, ey⟩ := List.getElem_of_mem hy
      obtain ⟨h1, h2⟩ := rngd_get (List.getElem?_eq_some_iff.mpr ⟨hi, ey⟩)
      have h3 : cs.length - 1 - i < cs.length := by omega
      generalize cs.length - 1 - i = k at h2 h3
      subst h2
      simp only [S, SS', SB, wipeD, List.set, addR]
      refine ixT (at_kid (by omega) (c := cs.getD k .non) (by rw [Int.toNat_natCast]; exact (getD_mem h3).1)) ⟨by omega, by omega, ?_⟩
      simpa [itemF, num, above_snoc] using hC
    · have e := kids_down x
      rw [ek] at e
      rw [e]
      refine ⟨w.map itemF, _, hw, .inl rfl, ?_, ?_⟩
      · rw [List.length_map, List.length_map, List.length_reverse, kidsX, kidsK_rng, ek, List.length_map, List.length_range]
        omega
      · rw [← List.map_append]
        exact q
theorem v_stepsB {W : DW} {E : DEnds} {m : AH} {rs fnd : List D} {p pw : Addr} {w : List (List Int × D)} {x : List Int × D} {x1 x2 x5 x6 x7 x8 x9 x10 : Option D} (hr : RowsOk rs) (hp : m p = some (.lst fnd)) (hw : m pw = some (.lst (w.map itemF ++ [itemF x]))) (ne : p ≠ pw)
    (ht : hT x.2 = true) (g : gd x.2 = true) (lf : fnd.length ≤ 100000) (lw : w.length + (kids x.2).length ≤ 100000) (lx : x.1.length ≤ 1000)
    (q : ∀ y7 y8 m', m' p = some (.lst (fnd ++ stepsX rs x)) → m' pw = some (.lst ((w ++ (kidsX x).reverse).map itemF)) → (∀ m0, Le m0 m → m0 p = none → m0 pw = none → Le m0 m') → E.nx [some (.tup rs), x1, x2, some (.ref p), some (.ref pw), some x.2, some (aboveD x.1), y7, y8, x9, x10] m') :
    t_stepsB W E [some (.tup rs), x1, x2, some (.ref p), some (.ref pw), x5, x6, x7, x8, x9, x10] m := by
  have big : (1000000 : Nat) ≤ sizeLine := sl0
  have tx : TupD x.2 := ⟨_, (hT_tup ht).choose_spec.1⟩
  have ml := match_len rs x.2
  have rl := hr.len
  unfold t_stepsB
  simp only [SS', S, SB]
  refine ⟨⟨_, asL_ref hw⟩, w.map itemF, itemF x, hw, ?_⟩
  simp only [itemF, SS', S, SB, sp_rules_at]
  refine ⟨hr, g, tx, ?_⟩
  have hp1 : (put m pw (.lst (w.map itemF))) p = some (.lst fnd) := by rw [put_ne ne]; exact hp
  have ly : lays ((matchL rs x.2).map fun k : Nat => D.int (k : Int)) = true := lays_of fun y hy => by
    obtain ⟨k, _, rfl⟩ := List.mem_map.mp hy
    rfl
  simp only [neR, val, lay, ly, lays, eqD, eqDs_nil, dep, deps, map_nil_iff, SB, true_and]
  refine ⟨by omega, by omega, ?_⟩
  by_cases c : (matchL rs x.2).isEmpty = true
  · rw [if_neg (by rw [c]; decide)]
    refine v_stepsC put_same ht lw ?_
    rw [put_put]
    have e : stepsX rs x = [] := by rw [stepsX, List.isEmpty_iff.mp c]; rfl
    exact q _ _ _ (by rw [put_ne ne, e, List.append_nil]; exact hp) put_same fun m0 l _ n => l.put_new n
  · rw [if_pos (by rw [Bool.not_eq_true] at c; rw [c]; rfl)]
    simp only [S, SS', SL, SB, sp_place_on]
    refine ⟨x.1, rfl, lx, ⟨_, asL_ref hp1⟩, ⟨_, rfl⟩, lc_map ((matchL rs x.2).map fun k : Nat => D.int (k : Int)) (fun d => stepD x.1 (num d).toNat) (fun m2 _ => rfl) (two_le (by rw [List.length_map]; omega)) (fun y hy m3 C _ hC => ?_) ?_⟩
    · obtain ⟨k, _, rfl⟩ := List.mem_map.mp hy
      simp only [S, SS', SB, wipeD, List.set]
      refine ⟨by omega, ?_⟩
      simpa [stepD, num] using hC
    · rw [List.map_map]
      have e : (matchL rs x.2).map ((fun d => stepD x.1 (num d).toNat) ∘ fun k : Nat => D.int (k : Int)) = stepsX rs x := List.map_congr_left fun k _ => by simp [num]
      rw [e]
      have sl : (stepsX rs x).length ≤ rs.length := by rw [stepsX, List.length_map]; exact ml
      refine ⟨fnd, stepsX rs x, hp1, .inl rfl, by omega, ?_⟩
      rw [AP.put_comm (Ne.symm ne)]
      refine v_stepsC put_same ht lw ?_
      rw [put_put]
      exact q _ _ _ (by rw [put_ne ne, put_same]) put_same fun m0 l n1 n2 => (l.put_new n1).put_new n2
theorem v_first_steps {W : DW} {E : DEnds} {m : AH} {rs es : List D} {t : D} {most : Int} (hr : RowsOk rs) (ht : TreeS es t)
    (q : ∀ p fnd m', m p = none → (∃ rest, fnd ++ rest = allSteps rs t ∧ (rest = [] ∨ most ≤ fnd.length)) → Le (put m p (.lst fnd)) m' → E.rt (.ref p) m') :
    t_first_steps W E [some (.tup rs), some t, some (.int most), none, none, none, none, none, none, none, none] m := by
  have big : (1000000 : Nat) ≤ sizeLine := sl0
  have hs := ht.s
  have hd := ht.d
  have rl := hr.len
  unfold t_first_steps
  simp only [S, SS', SB]
  refine ⟨by omega, fun p hp => ⟨by omega, by omega, fun pw hpw => ?_⟩⟩
  have n0 : p ≠ pw := fun z => by rw [← z, put_same] at hpw; cases hpw
  have hpw0 : m pw = none := by rwa [put_ne (Ne.symm n0)] at hpw
  refine ⟨fun k δ m' => ∃ (w vis : List (List Int × D)) (x5 x6 x7 x8 : Option D), δ = [some (.tup rs), some t, some (.int most), some (.ref p), some (.ref pw), x5, x6, x7, x8, none, none] ∧ m' p = some (.lst (vis.flatMap (stepsX rs))) ∧ m' pw = some (.lst (w.map itemF)) ∧ Le m m' ∧ vis ++ w.reverse.flatMap spotsX = spotsD [] t ∧ k = (w.reverse.flatMap spotsX).length,
    ⟨_, [([], t)], [], none, none, none, none, rfl, by rw [put_ne n0, put_same]; rfl, by rw [put_same]; rfl, (Le.new hp).put_new hpw0, by simp [spotsX], rfl⟩, ?_⟩
  rintro k δ m' ⟨w, vis, x5, x6, x7, x8, rfl, h1, h2, le, pm, rfl⟩
  have all : ∀ x ∈ vis ++ w.reverse.flatMap spotsX, partD x.1 t = some x.2 ∧ vld es x.2 = true ∧ gd x.2 = true ∧ szD x.2 ≤ szD t ∧ dpD x.2 + x.1.length ≤ dpD t := fun x hx => spots_all ht.v ht.g (by rw [← pm]; exact hx)
  have len := congrArg List.length pm
  rw [spots_len, List.length_append] at len
  have ww : ∀ {x : List Int × D}, x ∈ w → x ∈ vis ++ w.reverse.flatMap spotsX := fun {x} hx => List.mem_append_right _ (List.mem_flatMap.mpr ⟨x, List.mem_reverse.mpr hx, spotsX_mem x⟩)
  have ly : lays (w.map itemF) = true := lays_of fun y hy => by
    obtain ⟨x, hx, rfl⟩ := List.mem_map.mp hy
    exact lay_item (all x (ww hx)).2.2.1
  have fl := steps_len (rs := rs) vis
  have fl2 : rs.length * vis.length ≤ 100 * 1000 := Nat.mul_le_mul rl (by omega)
  have lw := flat_len w.reverse
  rw [List.length_reverse] at lw
  have done : (∃ rest, vis.flatMap (stepsX rs) ++ rest = allSteps rs t ∧ (rest = [] ∨ most ≤ (vis.flatMap (stepsX rs)).length)) → E.rt (.ref p) m' := fun h => q p _ m' hp h fun a u e => by
    by_cases c : a = p
    · subst c; rw [put_same] at e; rw [h1]; exact e
    · rw [put_ne c] at e; exact le a u e
  have rest : vis.flatMap (stepsX rs) ++ (w.reverse.flatMap spotsX).flatMap (stepsX rs) = allSteps rs t := by rw [← List.flatMap_append, pm]; rfl
  simp only [S, SS', SB, neR, val, h2, lay, ly, lays, eqD, eqDs_nil, dep, deps, map_nil_iff]
  refine ⟨by omega, by omega, ?_⟩
  rcases List.eq_nil_or_concat w with rfl | ⟨w, x, rfl⟩
  · simp only [List.isEmpty_nil, Bool.not_true, Bool.false_eq_true, if_false]
    exact done ⟨_, rest, .inl rfl⟩
  · have hcon : w.concat x = w ++ [x] := by simp
    rw [hcon] at h2 pm len ww all rest lw ⊢
    rw [if_pos (by simp)]
    refine lenRp h1 ?_
    simp only [ltR, SB]
    by_cases c : ((vis.flatMap (stepsX rs)).length : Int) < most
    · rw [decide_eq_true c, if_pos rfl]
      have hx := all x (ww (by simp))
      have hT := vld_hT x.2 hx.2.1
      have sk := sz_kids hT
      have sl := szs_len (kids x.2)
      have er : (w ++ [x]).reverse.flatMap spotsX = x :: (w ++ (kidsX x).reverse).reverse.flatMap spotsX := by
        rw [List.reverse_append, List.reverse_append, List.reverse_reverse, List.reverse_singleton, List.flatMap_append, List.flatMap_append, List.flatMap_cons, List.flatMap_nil, List.append_nil, spotsX_eq x]
        rfl
      rw [List.map_append] at h2
      rw [List.length_append] at lw
      refine v_stepsB hr h1 h2 n0 hT hx.2.2.1 ?_ ?_ (by omega) fun y7 y8 m2 a1 a2 a3 => ?_
      · omega
      · omega
      · have b1 := a3 m le hp hpw0
        refine ⟨((w ++ (kidsX x).reverse).reverse.flatMap spotsX).length, _, _, ?_, LeL.refl _, Le.refl _, w ++ (kidsX x).reverse, vis ++ [x], _, _, _, _, rfl, ?_, a2, b1, ?_, rfl⟩
        · rw [er, List.length_cons]
          exact Nat.lt_succ_self _
        · rw [a1, List.flatMap_append, List.flatMap_cons, List.flatMap_nil, List.append_nil]
        · rw [← pm, er, List.append_assoc]
          rfl
    · rw [decide_eq_false c, if_neg (by decide)]
      exact done ⟨_, rest, .inr (by omega)⟩
end L2.AP
set_option Elab.async false
set_option linter.all false
set_option maxRecDepth 100000
set_option maxHeartbeats 4000000
/-! P7: the doors of single steps. -/
namespace L2.AP
open PySem PySem.Spec PyProof.Rows
theorem rows_ok {es rs : List D} (h : rulesB es (.tup rs) = true) (g : gds rs = true) : RowsOk rs ∧ rs.length ≤ 30 ∧ ∀ r ∈ rs, ∃ l u, r = .tup [l, u] ∧ treeB es l = true ∧ treeB es u = true ∧ gd l = true ∧ gd u = true := by
  obtain ⟨xs, e, l, ha, _⟩ := rules_parts h
  cases e
  have two : ∀ r ∈ rs, ∃ l u, r = .tup [l, u] ∧ treeB es l = true ∧ treeB es u = true ∧ gd l = true ∧ gd u = true := fun r hr => by
    obtain ⟨l, u, e, h1, h2, _⟩ := rule_two (List.all_eq_true.mp ha r hr)
    have gr := gds_mem g r hr
    rw [e] at gr
    simp [gd, gds] at gr
    exact ⟨l, u, e, h1, h2, gr.1, gr.2⟩
  refine ⟨⟨by omega, fun r hr => ?_⟩, l, two⟩
  obtain ⟨l, u, e, h1, h2, g1, g2⟩ := two r hr
  obtain ⟨v, _, d⟩ := tree_parts h1
  exact ⟨l, u, e, g1, g2, by rw [dep_dp l v]; exact d, vld_tup v⟩
theorem treeS {es : List D} {t : D} (h : treeB es t = true) (g : gd t = true) : TreeS es t := by
  obtain ⟨v, s, d⟩ := tree_parts h
  exact ⟨v, g, s, d⟩
/-! ### steps_in, first_step -/
def sp_steps_in : DSp := fun ds m Q _ => match ds with
  | [.tup rs, t] => RowsOk rs ∧ rs.length ≤ 30 ∧ (∃ es, TreeS es t) ∧ ∀ p, m p = none → Q (.ref p) (put m p (.lst (allSteps rs t)))
  | _ => False
def t_steps_in : DTS :=
  dRet (dCallF 3 sp_first_steps (dCons (dVar 0) (dCons (dVar 1) (dCons (dOp addR (dOp mulR (dC c_MOST_RULES) (dC c_MOST_SIZE)) (dC (.int 1))) dNil))))
theorem all_len {es rs : List D} {t : D} (h : TreeS es t) : (allSteps rs t).length ≤ rs.length * 1000 := by
  have h1 := steps_len (rs := rs) (spotsD [] t)
  rw [spots_len] at h1
  exact Nat.le_trans h1 (Nat.mul_le_mul_left _ h.s)
theorem v_steps_in {W : DW} {E : DEnds} {m : AH} {rs es : List D} {t : D} (hr : RowsOk rs) (hl : rs.length ≤ 30) (ht : TreeS es t) (q : ∀ p, m p = none → E.rt (.ref p) (put m p (.lst (allSteps rs t)))) : t_steps_in W E [some (.tup rs), some t] m := by
  unfold t_steps_in
  simp only [S, SS', SB, mulR, addR, c_MOST_RULES, c_MOST_SIZE, sp_first_steps]
  refine ⟨.inr (.inl ⟨by decide, by decide⟩), hr, ⟨es, ht⟩, fun p fnd hp ⟨rest, e, h⟩ => ?_⟩
  have := all_len (rs := rs) ht
  have e2 : fnd = allSteps rs t := by
    rcases h with h | h
    · rw [← e, h, List.append_nil]
    · have e3 := congrArg List.length e
      rw [List.length_append] at e3
      omega
  rw [e2]
  exact q p hp
theorem lays_mem : ∀ {xs : List D}, lays xs = true → ∀ x ∈ xs, lay x = true
  | [], _, x, hx => by cases hx
  | y :: ys, h, x, hx => by
    rw [lays, Bool.and_eq_true] at h
    rcases List.mem_cons.mp hx with e | hx
    · rw [e]; exact h.1
    · exact lays_mem h.2 x hx
def headS : List D → D
  | [] => .non
  | x :: _ => x
def sp_first_step : DSp := fun ds m Q _ => match ds with
  | [.tup rs, t] => RowsOk rs ∧ (∃ es, TreeS es t) ∧ Q (headS (allSteps rs t)) m
  | _ => False
def t_first_step : DTS :=
  dSeq (dAsg (dCallF 3 sp_first_steps (dCons (dVar 0) (dCons (dVar 1) (dCons (dC (.int 1)) dNil)))) (dgName 2)) <|
  dRet (dIf (dTest (dOp neR (dVar 2) (dLst false dNil))) (dOp ixR (dVar 2) (dC (.int 0))) (dC .non))
theorem v_first_step {W : DW} {E : DEnds} {m : AH} {rs es : List D} {t : D} (hr : RowsOk rs) (ht : TreeS es t) (q : ∀ m', Le m m' → E.rt (headS (allSteps rs t)) m') : t_first_step W E [some (.tup rs), some t, none] m := by
  unfold t_first_step
  simp only [S, SS', SB, sp_first_steps]
  refine ⟨hr, ⟨es, ht⟩, fun p fnd hp ⟨rest, e, h⟩ => ?_⟩
  have ly : lays fnd = true := by
    have h2 : lays (allSteps rs t) = true := steps_lay
    rw [← e] at h2
    exact lays_of fun x hx => lays_mem h2 x (List.mem_append_left _ hx)
  simp only [neR, val, put_same, lay, ly, lays, eqD, eqDs_nil, dep, deps, SB, true_and]
  refine ⟨by omega, by omega, ?_⟩
  have q := q _ (Le.new hp (o := .lst fnd))
  cases fnd with
  | nil =>
    have : rest = [] := by
      rcases h with h | h
      · exact h
      · simp at h
    rw [← e, this] at q
    exact q
  | cons x fnd =>
    rw [← e] at q
    exact ixR_w put_same atL0 q
/-! ### is_step, after_step -/
theorem partA_cases : ∀ (xs : List D) (t : D), partA xs t = .non ∨ ∃ q, xs = q.map D.int ∧ partD q t = some (partA xs t)
  | [], t => .inr ⟨[], rfl, rfl⟩
  | x :: xs, t => by
    cases x with
    | int i =>
      by_cases h : 0 ≤ i ∧ i < (kids t).length
      · have hj : i.toNat < (kids t).length := by omega
        have e0 : partA (.int i :: xs) t = partA xs ((kids t).getD i.toNat .non) := by rw [partA, if_pos h]
        rw [e0]
        rcases partA_cases xs ((kids t).getD i.toNat .non) with e | ⟨q, e1, e2⟩
        · exact .inl e
        · refine .inr ⟨i :: q, by rw [e1]; rfl, ?_⟩
          rw [partD, kidAt, if_pos h.1, (getD_mem hj).1]
          exact e2
      · exact .inl (by rw [partA, if_neg h])
    | _ => exact .inl rfl
theorem partOn_cases (t d : D) : partOn t d = .non ∨ ∃ q, d = plD q ∧ partD q t = some (partOn t d) := by
  cases d with
  | tup xs =>
    rcases partA_cases xs t with h | ⟨q, e, h⟩
    · exact .inl h
    · exact .inr ⟨q, by rw [e]; rfl, h⟩
  | _ => exact .inl rfl
def isStepB (rs : List D) (t d : D) : Bool := match d with
  | .tup [pl, .int k] => decide (0 ≤ k) && decide (k < rs.length) && (match partOn t pl with | .non => false | u => eqD u (fst (rs.getD k.toNat .non)))
  | _ => false
def sp_is_step : DSp := fun ds m Q _ => match ds with
  | [.tup rs, t, d] => RowsOk rs ∧ (∃ es, TreeS es t) ∧ gd d = true ∧ Q (.bl (isStepB rs t d)) m
  | _ => False
def t_is_step : DTS :=
  dSeq (dIfS (dOrT (dNotT (dTruth (dCallF 3 sp_is_row (dCons (dVar 2) (dCons (dC (.int 2)) (dCons (dC (.int 2)) dNil)))))) (dNotT (dTruth (dCallF 3 sp_within (dCons (dOp ixR (dVar 2) (dC (.int 1))) (dCons (dC (.int 0)) (dCons (dOp subR (dCall lenR (dCons (dVar 0) dNil)) (dC (.int 1))) dNil))))))) (dRet (dC (.bl false))) (dNext)) <|
  dSeq (dAsg (dCallF 2 sp_part_on (dCons (dVar 1) (dCons (dOp ixR (dVar 2) (dC (.int 0))) dNil))) (dgName 3)) <|
  dRet (dAnd (dOp isNotR (dVar 3) (dC .non)) (dOp eqR (dVar 3) (dOp ixR (dOp ixR (dVar 0) (dOp ixR (dVar 2) (dC (.int 1)))) (dC (.int 0)))))
theorem v_is_step {W : DW} {E : DEnds} {m : AH} {rs es : List D} {t d : D} (hr : RowsOk rs) (ht : TreeS es t) (g : gd d = true) (q : E.rt (.bl (isStepB rs t d)) m) : t_is_step W E [some (.tup rs), some t, some d, none] m := by
  have base : ∀ b, isStepB rs t d = b → E.rt (.bl b) m := fun b e => by rw [← e]; exact q
  unfold t_is_step
  simp only [S, SS', SB, sp_is_row, g, TR]
  cases c : rowB 2 2 d with
  | false =>
    simp only [Bool.not_false, if_true]
    refine base _ ?_
    unfold isStepB
    split
    · simp [rowB] at c
    · rfl
  | true =>
    obtain ⟨pl, k, rfl⟩ := row2 c
    simp [gd, gds] at g
    simp only [Bool.not_true, Bool.false_eq_true, if_false]
    refine ixT atL1 ?_
    simp only [SB, lenR, VL, subR, sp_within, g]
    cases c2 : withinB 0 ((rs.length : Int) - 1) k with
    | false =>
      refine .inl ?_
      simp only [Bool.not_false, if_true]
      refine base _ ?_
      cases k with
      | int k =>
        simp only [withinB, Bool.and_eq_false_iff, decide_eq_false_iff_not] at c2
        simp only [isStepB, Bool.and_eq_false_iff, decide_eq_false_iff_not]
        left
        omega
      | _ => rfl
    | true =>
      refine .inl ?_
      simp only [Bool.not_true, Bool.false_eq_true, if_false]
      obtain ⟨ek, k0, k1⟩ := within_int c2
      generalize num k = j at ek k0 k1
      subst ek
      have hj : j.toNat < rs.length := by omega
      refine ixT atL0 ?_
      simp only [sp_part_on, List.set, SB]
      refine ⟨vld_hT t ht.v, g.1, ?_⟩
      have e1 : isStepB rs t (.tup [pl, .int j]) = (match partOn t pl with | .non => false | u => eqD u (fst (rs.getD j.toNat .non))) := by
        simp only [isStepB]
        rw [decide_eq_true k0, decide_eq_true (show j < rs.length by omega)]
        rfl
      rcases partOn_cases t pl with e | ⟨q', e2, e3⟩
      · rw [e] at e1 ⊢
        simp only [isNotR, isR, SB, Bool.not_true, Bool.false_eq_true, if_false]
        exact base _ e1
      · obtain ⟨v, gp, _, _⟩ := part_ok q' e3 ht.v ht.g
        generalize partOn t pl = u at e1 e3 v gp ⊢
        obtain ⟨us, rfl⟩ := vld_tup v
        simp only [isNotR, isR, SB, Bool.not_false, if_true]
        obtain ⟨l, r, er, gl, _, dl, ls, rfl⟩ := hr.all _ (getD_mem hj).2
        refine ixT atL1 (ixT (by rw [atN k0 (by omega)]; exact (getD_mem hj).1) ?_)
        rw [er] at e1 ⊢
        refine ixT atL0 ?_
        simp only [eqR, val]
        exact ⟨gd_lay _ gp, gd_lay _ gl, by omega, base _ e1⟩
def afterD (rs : List D) (t d : D) : D := match d with
  | .tup [.tup xs, .int k] => putD (xs.map num) t (snd (rs.getD k.toNat .non))
  | _ => .non
theorem pl_num (q : List Int) : (q.map D.int).map num = q := by
  rw [List.map_map]
  exact List.map_id'' (fun _ => rfl) q
theorem isStep_parts {rs es : List D} {t d : D} (ht : TreeS es t) (h : isStepB rs t d = true) : ∃ q k u, d = .tup [plD q, .int k] ∧ 0 ≤ k ∧ k < rs.length ∧ partD q t = some u ∧ q.length ≤ 60 ∧ eqD u (fst (rs.getD k.toNat .non)) = true ∧ afterD rs t d = putD q t (snd (rs.getD k.toNat .non)) := by
  unfold isStepB at h
  split at h
  · rename_i pl k
    simp only [Bool.and_eq_true, decide_eq_true_eq] at h
    obtain ⟨⟨h0, h1⟩, h2⟩ := h
    rcases partOn_cases t pl with e | ⟨q, e2, e3⟩
    · rw [e] at h2; cases h2
    · obtain ⟨v, gp, _, dl⟩ := part_ok q e3 ht.v ht.g
      have hd := ht.d
      have hp := dp_pos (partOn t pl)
      generalize partOn t pl = u at *
      obtain ⟨us, rfl⟩ := vld_tup v
      refine ⟨q, k, _, by rw [e2], h0, h1, e3, by omega, h2, ?_⟩
      rw [e2]
      simp only [plD, afterD, pl_num]
  · cases h
def sp_after_step : DSp := fun ds m Q _ => match ds with
  | [.tup rs, t, d] => RowsOk rs ∧ (∃ es, TreeS es t) ∧ isStepB rs t d = true ∧ Q (afterD rs t d) m
  | _ => False
def t_after_step : DTS :=
  dRet (dCallF 3 sp_put_at (dCons (dVar 1) (dCons (dOp ixR (dVar 2) (dC (.int 0))) (dCons (dOp ixR (dOp ixR (dVar 0) (dOp ixR (dVar 2) (dC (.int 1)))) (dC (.int 1))) dNil))))
theorem v_after_step {W : DW} {E : DEnds} {m : AH} {rs es : List D} {t d : D} (hr : RowsOk rs) (ht : TreeS es t) (h : isStepB rs t d = true) (q : E.rt (afterD rs t d) m) : t_after_step W E [some (.tup rs), some t, some d] m := by
  obtain ⟨pl, k, u, rfl, k0, k1, hp, hl, _, ea⟩ := isStep_parts ht h
  have hj : k.toNat < rs.length := by omega
  rw [ea] at q
  unfold t_after_step
  simp only [S, SS', SB]
  obtain ⟨l, r, er, gl, _, dl, ls, rfl⟩ := hr.all _ (getD_mem hj).2
  refine ixT atL0 (ixT atL1 (ixT (by rw [atN k0 (by omega)]; exact (getD_mem hj).1) ?_))
  rw [er] at q ⊢
  refine ixT atL1 ?_
  simp only [sp_put_at, SB]
  exact ⟨pl, u, rfl, hp, vld_hT t ht.v, by have := ht.s; omega, by omega, q⟩
end L2.AP
set_option Elab.async false
set_option linter.all false
set_option maxRecDepth 100000
set_option maxHeartbeats 4000000
/-! P8: need_start, steps_of, is_normal, step_to. -/
namespace L2.AP
open PySem PySem.Spec PyProof.Rows
variable (X : Ex)
/-- what is wrong first of a signature, rules and a tree -/
def startG (s d t : D) : Prop := gd s = true ∧ gd d = true ∧ gd t = true ∧ (sigB s = true → tameR (els s) d)
def startOk (s d t : D) : Prop := sigB s = true ∧ rulesB (els s) d = true ∧ treeB (els s) t = true
def startBad (s d t : D) (E : Str → Prop) : Prop := (sigB s = false → E "BadSignature") ∧ (sigB s = true → rulesB (els s) d = false → E "BadRules") ∧ (sigB s = true → rulesB (els s) d = true → treeB (els s) t = false → E "BadTree")
theorem startBad.imp {s d t : D} {E F : Str → Prop} (h : startBad s d t E) (i : ∀ x, E x → F x) : startBad s d t F := ⟨fun a => i _ (h.1 a), fun a b => i _ (h.2.1 a b), fun a b c => i _ (h.2.2 a b c)⟩
theorem start_parts {s d t : D} (g : startG s d t) (h : startOk s d t) : ∃ rs, d = .tup rs ∧ RowsOk rs ∧ rs.length ≤ 30 ∧ TreeS (els s) t := by
  obtain ⟨rs, rfl, l, _, _⟩ := rules_parts h.2.1
  have gr := g.2.1
  simp only [gd] at gr
  obtain ⟨r, l, _⟩ := rows_ok h.2.1 gr
  exact ⟨rs, rfl, r, l, treeS h.2.2 g.2.2.1⟩
def sp_need_start : DSp := fun ds m Q E => match ds with
  | [s, d, t] => startG s d t ∧ (startOk s d t → Q .non m) ∧ startBad s d t fun x => E (.ref (X.c x)) none m
  | _ => False
def t_need_start : DTS :=
  dSeq (dDrop (dCallF 2 (sp_need_rules X) (dCons (dVar 0) (dCons (dVar 1) dNil)))) <|
  dIfS (dNotT (dTruth (dCallF 2 sp_is_small_tree (dCons (dVar 0) (dCons (dVar 2) dNil))))) (dRaise (X.c "BadTree")) (dNext)
theorem v_need_start {W : DW} {E : DEnds} {m : AH} {s d t : D} (g : startG s d t) (q : ∀ δ, startOk s d t → E.nx δ m) (r : ∀ δ, startBad s d t fun x => W (.ref (X.c x)) none δ m) : t_need_start X W E [some s, some d, some t] m := by
  unfold t_need_start
  simp only [S, SS', SB, sp_need_rules]
  refine ⟨g.1, g.2.1, g.2.2.2, fun h1 h2 => ?_, fun h1 h2 => (r _).2.1 h1 h2, fun h1 => (r _).1 h1⟩
  have e := sig_els h1
  have ge := gd_els g.1
  have b : treeB (els s) t = true → E.nx [some s, some d, some t] m := fun h => q _ ⟨h1, h2, h⟩
  have b2 : treeB (els s) t = false → W (.ref (X.c "BadTree")) none [some s, some d, some t] m := fun h => (r _).2.2 h1 h2 h
  rw [e]
  simp only [sp_is_small_tree]
  rw [← e]
  refine ⟨h1, ge, g.2.2.1, ?_⟩
  simp only [TR]
  cases c : treeB (els s) t with
  | true => simpa using b c
  | false => simpa using b2 c
def stepsOf (d t : D) : List D := match d with
  | .tup rs => allSteps rs t
  | _ => []
def sp_steps_of : DSp := fun ds m Q E => match ds with
  | [s, d, t] => startG s d t ∧ (startOk s d t → Q (.tup (stepsOf d t)) m) ∧ startBad s d t fun x => E (.ref (X.c x)) none m
  | _ => False
def t_steps_of : DTS :=
  dSeq (dDrop (dCallF 3 (sp_need_start X) (dCons (dVar 0) (dCons (dVar 1) (dCons (dVar 2) dNil))))) <|
  dRet (dCall tupleR (dCons (dCallF 2 sp_steps_in (dCons (dVar 1) (dCons (dVar 2) dNil))) dNil))
theorem v_steps_of {W : DW} {E : DEnds} {m : AH} {s d t : D} (g : startG s d t) (q : startOk s d t → ∀ m', Le m m' → E.rt (.tup (stepsOf d t)) m') (r : ∀ δ, startBad s d t fun x => W (.ref (X.c x)) none δ m) : t_steps_of X W E [some s, some d, some t] m := by
  unfold t_steps_of
  simp only [S, SS', SB, sp_need_start]
  refine ⟨g, fun h => ?_, r _⟩
  obtain ⟨rs, rfl, hr, hl, ht⟩ := start_parts g h
  simp only [sp_steps_in]
  exact ⟨hr, hl, ⟨_, ht⟩, fun p hp => ⟨_, asQp put_same, q h _ (Le.new hp)⟩⟩
def sp_is_normal : DSp := fun ds m Q E => match ds with
  | [s, d, t] => startG s d t ∧ (startOk s d t → Q (.bl (stepsOf d t).isEmpty) m) ∧ startBad s d t fun x => E (.ref (X.c x)) none m
  | _ => False
def t_is_normal : DTS :=
  dSeq (dDrop (dCallF 3 (sp_need_start X) (dCons (dVar 0) (dCons (dVar 1) (dCons (dVar 2) dNil))))) <|
  dRet (dOp isR (dCallF 2 sp_first_step (dCons (dVar 1) (dCons (dVar 2) dNil))) (dC .non))
theorem steps_form {rs : List D} {t x : D} (h : x ∈ allSteps rs t) : ∃ y k, y ∈ spotsD [] t ∧ k ∈ matchL rs y.2 ∧ x = stepD y.1 k := by
  obtain ⟨y, hy, hx⟩ := List.mem_flatMap.mp h
  obtain ⟨k, hk, e⟩ := List.mem_map.mp hx
  exact ⟨y, k, hy, hk, e.symm⟩
theorem v_is_normal {W : DW} {E : DEnds} {m : AH} {s d t : D} (g : startG s d t) (q : startOk s d t → E.rt (.bl (stepsOf d t).isEmpty) m) (r : ∀ δ, startBad s d t fun x => W (.ref (X.c x)) none δ m) : t_is_normal X W E [some s, some d, some t] m := by
  unfold t_is_normal
  simp only [S, SS', SB, sp_need_start]
  refine ⟨g, fun h => ?_, r _⟩
  obtain ⟨rs, rfl, hr, hl, ht⟩ := start_parts g h
  have q := q h
  simp only [sp_first_step]
  refine ⟨hr, ⟨_, ht⟩, ?_⟩
  simp only [stepsOf] at q
  cases c : allSteps rs t with
  | nil => rw [c] at q; exact q
  | cons x xs =>
    obtain ⟨y, k, _, _, rfl⟩ := steps_form (show x ∈ allSteps rs t by rw [c]; exact List.mem_cons_self)
    rw [c] at q
    exact q
def stepOkB (d t x : D) : Bool := match d with
  | .tup rs => isStepB rs t x
  | _ => false
def afterOf (d t x : D) : D := match d with
  | .tup rs => afterD rs t x
  | _ => .non
def sp_step_to : DSp := fun ds m Q E => match ds with
  | [s, d, t, x] => startG s d t ∧ gd x = true ∧ (startOk s d t → stepOkB d t x = true → Q (afterOf d t x) m) ∧ (startOk s d t → stepOkB d t x = false → E (.ref (X.c "BadStep")) none m) ∧ startBad s d t fun x => E (.ref (X.c x)) none m
  | _ => False
def t_step_to : DTS :=
  dSeq (dDrop (dCallF 3 (sp_need_start X) (dCons (dVar 0) (dCons (dVar 1) (dCons (dVar 2) dNil))))) <|
  dSeq (dIfS (dNotT (dTruth (dCallF 3 sp_is_step (dCons (dVar 1) (dCons (dVar 2) (dCons (dVar 3) dNil)))))) (dRaise (X.c "BadStep")) (dNext)) <|
  dRet (dCallF 3 sp_after_step (dCons (dVar 1) (dCons (dVar 2) (dCons (dVar 3) dNil))))
theorem v_step_to {W : DW} {E : DEnds} {m : AH} {s d t x : D} (g : startG s d t) (gx : gd x = true) (q : startOk s d t → stepOkB d t x = true → E.rt (afterOf d t x) m) (q2 : ∀ δ, startOk s d t → stepOkB d t x = false → W (.ref (X.c "BadStep")) none δ m) (r : ∀ δ, startBad s d t fun x => W (.ref (X.c x)) none δ m) : t_step_to X W E [some s, some d, some t, some x] m := by
  unfold t_step_to
  simp only [S, SS', SB, sp_need_start]
  refine ⟨g, fun h => ?_, r _⟩
  obtain ⟨rs, rfl, hr, hl, ht⟩ := start_parts g h
  have q := q h
  have q2 := fun δ => q2 δ h
  simp only [sp_is_step, TR, stepOkB, afterOf] at q q2 ⊢
  refine ⟨hr, ⟨_, ht⟩, gx, ?_⟩
  cases c : isStepB rs t x with
  | false => simpa using q2 _ c
  | true =>
    simp only [Bool.not_true, Bool.false_eq_true, if_false, SB, sp_after_step]
    exact ⟨hr, ⟨_, ht⟩, c, q c⟩
end L2.AP
set_option Elab.async false
set_option linter.all false
set_option maxRecDepth 100000
set_option maxHeartbeats 4000000
/-! P9: the laws' own trees with left sides, and their steps. -/
namespace L2.AP
open PySem PySem.Spec PyProof.Rows
def sp__law_is : DSp := fun ds m Q _ => match ds with
  | [.bl a, .bl b] => a = b ∧ Q (.bl true) m
  | _ => False
def t__law_is : DTS :=
  dRet (dIf (dTruth (dVar 1)) (dOp isR (dVar 0) (dC (.bl true))) (dOp isR (dVar 0) (dC (.bl false))))
theorem v__law_is {W : DW} {E : DEnds} {m : AH} {a : Bool} (q : E.rt (.bl true) m) : t__law_is W E [some (.bl a), some (.bl a)] m := by
  unfold t__law_is
  simp only [S, SS', SB, isR, TR]
  cases a <;> simpa using q
structure PlantG (es : List D) (t : D) : Prop where
  v : vld es t = true
  g : gd t = true
  s : szD t ≤ 600
  d : dpD t ≤ 20
theorem PlantG.treeS {es : List D} {t : D} (h : PlantG es t) : TreeS es t := ⟨h.v, h.g, by have := h.s; omega, by have := h.d; omega⟩
theorem TG.sz {es : List D} {i : Nat} {t : D} (h : TG es i t) (hi : i ≤ 7) : szD t ≤ 255 ∧ dpD t ≤ 8 := by
  have h1 := h.s
  have h2 := h.d
  have : 2 ^ (i + 1) ≤ 2 ^ 8 := Nat.pow_le_pow_right (by decide) (by omega)
  exact ⟨by omega, by omega⟩
theorem PlantG.of {es : List D} {i : Nat} {t : D} (h : TG es i t) (hi : i ≤ 7) : PlantG es t := by
  have := h.sz hi
  exact ⟨h.v, h.g, by omega, by omega⟩
theorem PlantG.put {es : List D} {i j : Nat} {t u w : D} {q : List Int} (h : TG es i t) (hi : i ≤ 7) (k : TG es j u) (hj : j ≤ 7) (hp : partD q t = some w) : PlantG es (putD q t u) := by
  obtain ⟨a1, a2⟩ := h.sz hi
  obtain ⟨b1, b2⟩ := k.sz hj
  obtain ⟨v, g, s, d⟩ := put_ok q hp h.v h.g k.v k.g
  obtain ⟨_, _, _, l⟩ := part_ok q hp h.v h.g
  exact ⟨v, g, by omega, by omega⟩
def sp__law_planted : DSp := fun ds m Q _ => match ds with
  | [.ref a, .tup es, .tup rs, .int n] => Well m a ∧ sigB (.tup es) = true ∧ gds es = true ∧ (∃ k most, k ≤ 7 ∧ most ≤ 100 ∧ RulesG es k most rs) ∧ 0 < n ∧ n ≤ 8 ∧ ∀ t o, PlantG es t → WellV o → Q t (put m a o)
  | _ => False
def t__law_planted : DTS :=
  dSeq (dAsg (dCallF 3 sp__law_tree (dCons (dVar 0) (dCons (dVar 1) (dCons (dCallF 2 sp__law_draw (dCons (dVar 0) (dCons (dVar 3) dNil))) dNil)))) (dgName 4)) <|
  dSeq (dIfS (dAndT (dTest (dOp neR (dVar 2) (dTup dNil))) (dTest (dOp gtR (dCallF 2 sp__law_draw (dCons (dVar 0) (dCons (dC (.int 4)) dNil))) (dC (.int 0))))) (dSeq (dAsg (dCallF 1 sp__law_spots (dCons (dVar 4) dNil)) (dgName 5)) <|
      dAsg (dCallF 3 sp__law_put (dCons (dVar 4) (dCons (dOp ixR (dOp ixR (dVar 5) (dCallF 2 sp__law_draw (dCons (dVar 0) (dCons (dCall lenR (dCons (dVar 5) dNil)) dNil)))) (dC (.int 0))) (dCons (dOp ixR (dOp ixR (dVar 2) (dCallF 2 sp__law_draw (dCons (dVar 0) (dCons (dCall lenR (dCons (dVar 2) dNil)) dNil)))) (dC (.int 0))) dNil)))) (dgName 4)) (dNext)) <|
  dRet (dVar 4)
theorem spot_at {t : D} {r : Int} (h0 : 0 ≤ r) (h1 : r < (spotsD [] t).length) : ∃ x, x ∈ spotsD [] t ∧ atI ((spotsD [] t).map spotD) r = some (spotD x) := by
  have h2 : r.toNat < (spotsD [] t).length := by omega
  exact ⟨_, List.getElem_mem h2, by rw [atN h0 (by rw [List.length_map]; omega), List.getElem?_map, List.getElem?_eq_getElem h2]; rfl⟩
theorem v__law_planted {W : DW} {E : DEnds} {m : AH} {a : Addr} {es rs : List D} {n : Int} {k most : Nat} (hw : Well m a) (hs : sigB (.tup es) = true) (gs : gds es = true) (hk : k ≤ 7) (hm : most ≤ 100) (hR : RulesG es k most rs) (n0 : 0 < n) (n8 : n ≤ 8)
    (q : ∀ t o, PlantG es t → WellV o → E.rt t (put m a o)) : t__law_planted W E [some (.ref a), some (.tup es), some (.tup rs), some (.int n), none, none] m := by
  have big : (1000000 : Nat) ≤ sizeLine := sl0
  have lr := hR.len
  have gr := hR.g
  have dr : deps rs ≤ 20 := by
    have : ∀ {l : List D}, (∀ x ∈ l, RuleG es k x) → deps l ≤ 20 := fun {l} h => by
      induction l with
      | nil => simp [deps]
      | cons x l ih =>
        have h1 := (h x List.mem_cons_self).dep
        have h2 := ih fun y hy => h y (List.mem_cons_of_mem _ hy)
        simp only [deps]
        omega
    exact this hR.all
  unfold t__law_planted
  simp only [S, SS', SB, sp__law_draw]
  refine ⟨hw, n0, by omega, fun r o r0 r1 w1 => ?_⟩
  simp only [sp__law_tree]
  refine ⟨Well.put w1, hs, gs, r0, by omega, fun t o2 ht w2 => ?_⟩
  rw [put_put]
  have hr7 : r.toNat ≤ 7 := by omega
  have sz := ht.sz hr7
  simp only [neR, VL, eqD, eqDs_nil, SB, true_and, true_or]
  refine ⟨by omega, gd_lay _ gr, by omega, ?_⟩
  by_cases c : rs.isEmpty = true
  · rw [if_neg (by rw [c]; decide)]
    simp only [SB, Bool.false_eq_true, if_false]
    exact q t o2 (.of ht hr7) w2
  · rw [if_pos (by rw [Bool.not_eq_true] at c; rw [c]; rfl)]
    have rp : 0 < rs.length := by
      cases rs with
      | nil => exact absurd rfl c
      | cons _ _ => exact Nat.succ_pos _
    refine ⟨Well.put w2, by decide, by decide, fun r2 o3 r20 r21 w3 => ?_⟩
    rw [put_put]
    simp only [ordR, SB]
    by_cases c2 : r2 > 0
    · rw [decide_eq_true c2, if_pos rfl]
      simp only [sp__law_spots, S, SS', SB]
      refine ⟨⟨es, ht.v⟩, ht.g, by omega, by omega, ?_⟩
      simp only [sp__law_draw, lenR, VL, SB, List.length_map, List.set]
      have sl := spots_len t []
      have sp := sz_pos t
      refine ⟨Well.put w3, by omega, by omega, fun r3 o4 r30 r31 w4 => ?_⟩
      obtain ⟨x, hx, ex⟩ := spot_at r30 r31
      obtain ⟨hp, _, _, _, hl⟩ := spots_all ht.v ht.g hx
      refine ixL ex (ixT atL0 ?_)
      rw [put_put]
      refine ⟨Well.put w4, by omega, by omega, fun r4 o5 r40 r41 w5 => ?_⟩
      obtain ⟨y, hy, ey⟩ := at_mem r40 r41
      obtain ⟨l, u, rfl, gl, gu, _⟩ := hR.all y hy
      refine ixT ey (ixT atL0 ?_)
      rw [put_put]
      simp only [sp__law_put, SB]
      exact ⟨x.1, x.2, rfl, hp, vld_hT t ht.v, by omega, by omega, q _ _ (.put ht hr7 gl hk hp) w5⟩
    · rw [decide_eq_false c2, if_neg (by decide)]
      exact q t o3 (.of ht hr7) w3
def sp__law_steps : DSp := fun ds m Q _ => match ds with
  | [.tup rs, t] => RowsOk rs ∧ (∃ es, TreeS es t) ∧ Q (.lst (allSteps rs t)) m
  | _ => False
def t__law_steps : DTS :=
  dSeq (dAsg (dLst false dNil) (dgName 2)) <|
  dSeq (dFor (diAny (dCallF 1 sp__law_spots (dCons (dVar 1) dNil))) (dgTup 2 (dgCons (dgName 3) (dgCons (dgName 4) dgNil))) (dAsg (dOp addR (dVar 2) (dLc false (diRange1 (dCons (dCall lenR (dCons (dVar 0) dNil)) dNil)) (dgName 5) (dTest (dOp eqR (dOp ixR (dOp ixR (dVar 0) (dVar 5)) (dC (.int 0))) (dVar 4))) (dTup (dCons (dVar 3) (dCons (dVar 5) dNil))) [5])) (dgName 2))) <|
  dRet (dVar 2)
theorem v__law_steps {W : DW} {E : DEnds} {m : AH} {rs es : List D} {t : D} (hr : RowsOk rs) (ht : TreeS es t) (q : E.rt (.lst (allSteps rs t)) m) : t__law_steps W E [some (.tup rs), some t, none, none, none, none] m := by
  have big : (1000000 : Nat) ≤ sizeLine := sl0
  have hs := ht.s
  have hd := ht.d
  have rl := hr.len
  have sl := spots_len t []
  unfold t__law_steps
  simp only [S, SS', SL, SB, sp__law_spots, VL]
  refine ⟨by omega, ⟨es, ht.v⟩, ht.g, by omega, by omega, ⟨_, rfl⟩, ?_⟩
  refine for_fix ((spotsD [] t).map spotD) (fun i δ m' => ∃ x3 x4, m = m' ∧ δ = [some (.tup rs), some t, some (.lst (((spotsD [] t).take i).flatMap (stepsX rs))), x3, x4, none]) (fun _ _ _ _ => rfl) ⟨_, _, rfl, rfl⟩ ?_ ?_
  · rintro i k x δ m' hx hi hl ⟨x3, x4, rfl, rfl⟩
    have hl3 : i < (spotsD [] t).length := by simpa using hl
    rw [List.getElem?_map, List.getElem?_eq_getElem hl3] at hx
    cases hx
    have et : (spotsD [] t).take (i + 1) = (spotsD [] t).take i ++ [(spotsD [] t)[i]] := by rw [List.take_succ, List.getElem?_eq_getElem hl3]; rfl
    have hm := List.getElem_mem hl3
    have goal : ∀ fnd, fnd = ((spotsD [] t).take (i + 1)).flatMap (stepsX rs) → fN ((spotsD [] t).map spotD) (fun i δ m' => ∃ x3 x4, m = m' ∧ δ = [some (.tup rs), some t, some (.lst (((spotsD [] t).take i).flatMap (stepsX rs))), x3, x4, none]) i k
        [some (.tup rs), some t, some (.lst fnd), some (plD ((spotsD [] t)[i]).1), some ((spotsD [] t)[i]).2, none] m := fun fnd e => by
      rw [e]
      exact fN_intro hi hl ⟨_, _, rfl, rfl⟩
    rw [et, List.flatMap_append] at goal
    have l1 := steps_len (rs := rs) ((spotsD [] t).take i)
    have l2 : rs.length * ((spotsD [] t).take i).length ≤ 100 * 1000 := Nat.mul_le_mul rl (by rw [List.length_take]; omega)
    generalize ((spotsD [] t).take i).flatMap (stepsX rs) = fnd at goal l1 ⊢
    generalize (spotsD [] t)[i] = x at goal hm ⊢
    obtain ⟨_, v, g, _, _⟩ := spots_all ht.v ht.g hm
    obtain ⟨us, eu⟩ := vld_tup v
    simp only [S, SS', SL, SB, spotD, lenR, VL]
    refine ⟨_, rfl, ⟨by omega, by omega⟩, ?_⟩
    rw [Int.toNat_natCast]
    refine lc_fm (rng 0 1 rs.length) (fun d => if eqD (fst (rs.getD (num d).toNat .non)) x.2 = true then some (stepD x.1 (num d).toNat) else none) (fun _ _ => rfl) (by rw [rng1_len]; omega) (fun y hy m2 C N _ c n => ?_) ?_
    · obtain ⟨j, hj, rfl⟩ := rng_mem hy
      obtain ⟨l, u, e1, g1, _, d1, ls, rfl⟩ := hr.all _ (getD_mem hj).2
      have ej : (num (.int (j : Nat))).toNat = j := by simp [num]
      simp only [ej, e1, fst] at c n
      simp only [S, SS', SB, wipeD, List.set]
      refine ixT (by rw [atN (by omega) (by omega), Int.toNat_natCast]; exact (getD_mem hj).1) ?_
      rw [e1]
      refine ixT atL0 ?_
      rw [eu] at c n g ⊢
      simp only [eqR, val]
      refine ⟨gd_lay _ g1, gd_lay _ g, by omega, ?_⟩
      cases h : eqD (.tup ls) (.tup us) with
      | true => exact ⟨_, rfl, by rw [if_pos rfl]; exact ⟨by omega, c _ (by rw [if_pos h]; rfl)⟩⟩
      | false => exact ⟨_, rfl, by rw [if_neg (by decide)]; exact n (by rw [if_neg (by rw [h]; decide)])⟩
    · have e : (rng 0 1 rs.length).filterMap (fun d => if eqD (fst (rs.getD (num d).toNat .non)) x.2 = true then some (stepD x.1 (num d).toNat) else none) = stepsX rs x := by
        unfold rng
        rw [List.filterMap_map, stepsX, matchL, ← fm_filter]
        refine fm_congr fun j _ => ?_
        simp [num]
      rw [e]
      have l3 := match_len rs x.2
      have l4 : (stepsX rs x).length ≤ rs.length := by rw [stepsX, List.length_map]; exact l3
      simp only [addR, VL, SB]
      refine ⟨_, _, rfl, rfl, by omega, goal _ ?_⟩
      rw [List.flatMap_cons, List.flatMap_nil, List.append_nil]
  · rintro δ m' ⟨x3, x4, rfl, rfl⟩
    simp only [S, SS', SB]
    rw [List.take_of_length_le (by simp)]
    exact q
end L2.AP
set_option Elab.async false
set_option linter.all false
set_option maxRecDepth 100000
set_option maxHeartbeats 4000000
/-! R3: numbers of nodes, unlike texts. -/
namespace L2.AP
open PySem PySem.Spec PyProof.Rows
mutual
theorem nd_tree {es : List D} : ∀ d : D, vld es d = true → ndD d = 2 * szD d
  | .tup xs, h => by
    rw [ndD, szD]
    exact nd_treeT xs (by simpa [vld] using h)
  | .non, h => by simp [vld] at h
  | .bl _, h => by simp [vld] at h
  | .int _, h => by simp [vld] at h
  | .str _, h => by simp [vld] at h
  | .ref _, h => by simp [vld] at h
  | .ty _, h => by simp [vld] at h
  | .fn _, h => by simp [vld] at h
  | .rdl _, h => by simp [vld] at h
  | .lst _, h => by simp [vld] at h
theorem nd_treeT {es : List D} : ∀ xs : List D, vldT es xs = true → ndDs xs + 1 = 2 * szT xs
  | [], h => by simp [vldT] at h
  | x :: cs, h => by
    simp only [vldT, Bool.and_eq_true] at h
    have := nd_trees cs h.2
    cases x with
    | int f =>
      simp only [ndDs, ndD, szT, this]
      omega
    | _ => simp at h
theorem nd_trees {es : List D} : ∀ cs : List D, vlds es cs = true → ndDs cs = 2 * szs cs
  | [], _ => rfl
  | c :: cs, h => by
    simp only [vlds, Bool.and_eq_true] at h
    rw [ndDs, szs, nd_tree c h.1, nd_trees cs h.2]
    omega
end
theorem RuleG.nd {es : List D} {x : D} (h : RuleG es 4 x) : ndD x ≤ 200 := by
  obtain ⟨l, r, rfl, h1, h2, _⟩ := h
  have := h1.s
  have := h2.s
  simp only [ndD, ndDs, nd_tree l h1.v, nd_tree r h2.v]
  omega
theorem nds_le {n : Nat} : ∀ {xs : List D}, (∀ x ∈ xs, ndD x ≤ n) → ndDs xs ≤ n * xs.length
  | [], _ => Nat.zero_le _
  | x :: xs, h => by
    have := nds_le fun y hy => h y (List.mem_cons_of_mem _ hy)
    have := h x List.mem_cons_self
    rw [ndDs, List.length_cons, Nat.mul_succ]
    omega
theorem RulesG.nds {es : List D} {most : Nat} {xs : List D} (h : RulesG es 4 most xs) (hm : most ≤ 30) : ndD (.tup xs) ≤ 1000000 := by
  have := nds_le fun x hx => (h.all x hx).nd
  have := h.len
  rw [ndD]
  have : 200 * xs.length ≤ 200 * 30 := Nat.mul_le_mul_left _ (by omega)
  omega
theorem RulesG.isKey {es : List D} {n most : Nat} {xs : List D} (h : RulesG es n most xs) : isKey (.tup xs) = true := by
  obtain ⟨ks, e, _⟩ := keysD_of fun y hy => (h.all y hy).key
  simp [AP.isKey, keyD, e]
theorem neR_of {d e : D} {m : AH} {Q : DQ} {b : Bool} (h1 : lay (val m d) = true) (h2 : lay (val m e) = true) (h3 : min (dep (val m d)) (dep (val m e)) ≤ 64) (hb : eqD (val m d) (val m e) = b) (q : Q (.bl (!b)) m) : neR d e m Q := ⟨h1, h2, h3, by rw [hb]; exact q⟩
theorem neS {x y : Str} {m : AH} {Q : DQ} (h1 : PyData.strOk x = true) (h2 : PyData.strOk y = true) (q : Q (.bl (!(x == y))) m) : neR (.str x) (.str y) m Q := ⟨h1, h2, Nat.zero_le _, by simpa [val, eqD] using q⟩
end L2.AP
set_option Elab.async false
set_option linter.all false
set_option maxRecDepth 100000
set_option maxHeartbeats 4000000
/-! VP: the readings of places and steps keep their promises. -/
namespace L2.AP
open PySem PySem.Spec PyProof.Rows
theorem V_part_on : ∀ ds m Q E, ds.length = 2 → sp_part_on ds m Q E → t_part_on (fun cls d _ m' => E cls d m') (bodyEnds Q) (startD ["tree", "place", "i"] ds) m := by
  intro ds m Q E hl q
  unfold sp_part_on at q
  split at q
  · exact v_part_on q.1 q.2.1 (rt q.2.2)
  · exact q.elim
theorem V_put_at : ∀ ds m Q E, ds.length = 3 → sp_put_at ds m Q E → t_put_at (fun cls d _ m' => E cls d m') (bodyEnds Q) (startD ["tree", "place", "other", "on_way", "i", "part"] ds) m := by
  intro ds m Q E hl q
  unfold sp_put_at at q
  split at q
  · obtain ⟨p, w, rfl, hp, ht, hs, hq, q⟩ := q
    exact v_put_at hp ht hs hq fun m' l => ⟨_, l, q⟩
  · exact q.elim
theorem V__law_put : ∀ ds m Q E, ds.length = 3 → sp__law_put ds m Q E → t__law_put (fun cls d _ m' => E cls d m') (bodyEnds Q) (startD ["tree", "place", "other", "way", "i", "k"] ds) m := by
  intro ds m Q E hl q
  unfold sp__law_put at q
  split at q
  · obtain ⟨p, w, rfl, hp, ht, hs, hq, q⟩ := q
    exact v__law_put hp ht hs hq fun m' l => ⟨_, l, q⟩
  · exact q.elim
theorem V__law_spots : ∀ ds m Q E, ds.length = 1 → sp__law_spots ds m Q E → t__law_spots (fun cls d _ m' => E cls d m') (bodyEnds Q) (startD ["tree", "found", "waiting", "place", "part", "i"] ds) m := by
  intro ds m Q E hl q
  unfold sp__law_spots at q
  split at q
  · obtain ⟨⟨es, v⟩, g, hs, hd, q⟩ := q
    exact v__law_spots v g hs hd fun m' l => ⟨_, l, q⟩
  · exact q.elim
theorem V_rules_at : ∀ ds m Q E, ds.length = 2 → sp_rules_at ds m Q E → t_rules_at (fun cls d _ m' => E cls d m') (bodyEnds Q) (startD ["rules", "part", "k", "left", "right"] ds) m := by
  intro ds m Q E hl q
  unfold sp_rules_at at q
  split at q
  · exact v_rules_at q.1 q.2.1 q.2.2.1 (rt q.2.2.2)
  · exact q.elim
theorem V_place_on : ∀ ds m Q E, ds.length = 1 → sp_place_on ds m Q E → t_place_on (fun cls d _ m' => E cls d m') (bodyEnds Q) (startD ["above", "found", "i"] ds) m := by
  intro ds m Q E hl q
  unfold sp_place_on at q
  split at q
  · obtain ⟨pl, rfl, hl, q⟩ := q
    exact v_place_on hl fun m' l => ⟨_, l, q⟩
  · exact q.elim
theorem V_first_steps : ∀ ds m Q E, ds.length = 3 → sp_first_steps ds m Q E → t_first_steps (fun cls d _ m' => E cls d m') (bodyEnds Q) (startD ["rules", "tree", "most", "found", "waiting", "part", "above", "some", "place", "k", "i"] ds) m := by
  intro ds m Q E hl q
  unfold sp_first_steps at q
  split at q
  · obtain ⟨hr, ⟨es, ht⟩, q⟩ := q
    exact v_first_steps hr ht fun p fnd m' hp h l => ⟨_, l, q p fnd hp h⟩
  · exact q.elim
theorem V_steps_in : ∀ ds m Q E, ds.length = 2 → sp_steps_in ds m Q E → t_steps_in (fun cls d _ m' => E cls d m') (bodyEnds Q) (startD ["rules", "tree"] ds) m := by
  intro ds m Q E hl q
  unfold sp_steps_in at q
  split at q
  · obtain ⟨hr, hl, ⟨es, ht⟩, q⟩ := q
    exact v_steps_in hr hl ht fun p hp => rt (q p hp)
  · exact q.elim
theorem V_first_step : ∀ ds m Q E, ds.length = 2 → sp_first_step ds m Q E → t_first_step (fun cls d _ m' => E cls d m') (bodyEnds Q) (startD ["rules", "tree", "some"] ds) m := by
  intro ds m Q E hl q
  unfold sp_first_step at q
  split at q
  · obtain ⟨hr, ⟨es, ht⟩, q⟩ := q
    exact v_first_step hr ht fun m' l => ⟨_, l, q⟩
  · exact q.elim
theorem V_is_step : ∀ ds m Q E, ds.length = 3 → sp_is_step ds m Q E → t_is_step (fun cls d _ m' => E cls d m') (bodyEnds Q) (startD ["rules", "tree", "thing", "part"] ds) m := by
  intro ds m Q E hl q
  unfold sp_is_step at q
  split at q
  · obtain ⟨hr, ⟨es, ht⟩, g, q⟩ := q
    exact v_is_step hr ht g (rt q)
  · exact q.elim
theorem V_after_step : ∀ ds m Q E, ds.length = 3 → sp_after_step ds m Q E → t_after_step (fun cls d _ m' => E cls d m') (bodyEnds Q) (startD ["rules", "tree", "step"] ds) m := by
  intro ds m Q E hl q
  unfold sp_after_step at q
  split at q
  · obtain ⟨hr, ⟨es, ht⟩, h, q⟩ := q
    exact v_after_step hr ht h (rt q)
  · exact q.elim
theorem V_need_start (X : Ex) : ∀ ds m Q E, ds.length = 3 → sp_need_start X ds m Q E → t_need_start X (fun cls d _ m' => E cls d m') (bodyEnds Q) (startD ["signature", "rules", "tree"] ds) m := by
  intro ds m Q E hl q
  unfold sp_need_start at q
  split at q
  · exact v_need_start X q.1 (fun δ h => rt (q.2.1 h)) fun δ => q.2.2
  · exact q.elim
theorem V_steps_of (X : Ex) : ∀ ds m Q E, ds.length = 3 → sp_steps_of X ds m Q E → t_steps_of X (fun cls d _ m' => E cls d m') (bodyEnds Q) (startD ["signature", "rules", "tree"] ds) m := by
  intro ds m Q E hl q
  unfold sp_steps_of at q
  split at q
  · exact v_steps_of X q.1 (fun h m' l => ⟨_, l, q.2.1 h⟩) fun δ => q.2.2
  · exact q.elim
theorem V_is_normal (X : Ex) : ∀ ds m Q E, ds.length = 3 → sp_is_normal X ds m Q E → t_is_normal X (fun cls d _ m' => E cls d m') (bodyEnds Q) (startD ["signature", "rules", "tree"] ds) m := by
  intro ds m Q E hl q
  unfold sp_is_normal at q
  split at q
  · exact v_is_normal X q.1 (fun h => rt (q.2.1 h)) fun δ => q.2.2
  · exact q.elim
theorem V_step_to (X : Ex) : ∀ ds m Q E, ds.length = 4 → sp_step_to X ds m Q E → t_step_to X (fun cls d _ m' => E cls d m') (bodyEnds Q) (startD ["signature", "rules", "tree", "step"] ds) m := by
  intro ds m Q E hl q
  unfold sp_step_to at q
  split at q
  · exact v_step_to X q.1 q.2.1 (fun h h2 => rt (q.2.2.1 h h2)) (fun δ h h2 => q.2.2.2.1 h h2) fun δ => q.2.2.2.2
  · exact q.elim
theorem V__law_is : ∀ ds m Q E, ds.length = 2 → sp__law_is ds m Q E → t__law_is (fun cls d _ m' => E cls d m') (bodyEnds Q) (startD ["told", "due"] ds) m := by
  intro ds m Q E hl q
  unfold sp__law_is at q
  split at q
  · obtain ⟨rfl, q⟩ := q
    exact v__law_is (rt q)
  · exact q.elim
theorem V__law_planted : ∀ ds m Q E, ds.length = 4 → sp__law_planted ds m Q E → t__law_planted (fun cls d _ m' => E cls d m') (bodyEnds Q) (startD ["well", "signature", "rules", "steps", "tree", "spots"] ds) m := by
  intro ds m Q E hl q
  unfold sp__law_planted at q
  split at q
  · obtain ⟨hw, hs, gs, ⟨k, most, hk, hm, hR⟩, n0, n8, q⟩ := q
    exact v__law_planted hw hs gs hk hm hR n0 n8 fun t o ht wo => rt (q t o ht wo)
  · exact q.elim
theorem V__law_steps : ∀ ds m Q E, ds.length = 2 → sp__law_steps ds m Q E → t__law_steps (fun cls d _ m' => E cls d m') (bodyEnds Q) (startD ["rules", "tree", "found", "place", "part", "k"] ds) m := by
  intro ds m Q E hl q
  unfold sp__law_steps at q
  split at q
  · obtain ⟨hr, ⟨es, ht⟩, q⟩ := q
    exact v__law_steps hr ht (rt q)
  · exact q.elim
end L2.AP
set_option Elab.async false
set_option linter.all false
set_option maxRecDepth 100000
set_option maxHeartbeats 4000000
/-! T1: the order of trees, in plain. -/
namespace L2.AP
open PySem PySem.Spec PyProof.Rows
mutual
/-- what a tree is ordered by -/
def keyT : D → D
  | .tup xs => keyTT xs
  | _ => .non
def keyTT : List D → D
  | [] => .non
  | f :: cs => .tup [.int ((1 + szs cs : Nat) : Int), f, .tup (keyTs cs)]
def keyTs : List D → List D
  | [] => []
  | c :: cs => keyT c :: keyTs cs
end
mutual
def kN : D → NestedKey
  | .tup xs => kNT xs
  | _ => .none
def kNT : List D → NestedKey
  | [] => .none
  | f :: cs => .tup [.num ((1 + szs cs : Nat) : Int), .num (num f), .tup (kNs cs)]
def kNs : List D → List NestedKey
  | [] => []
  | c :: cs => kN c :: kNs cs
end
theorem kNs_map : ∀ cs : List D, kNs cs = cs.map kN
  | [] => rfl
  | c :: cs => by rw [kNs, kNs_map cs]; rfl
theorem keyTs_map : ∀ cs : List D, keyTs cs = cs.map keyT
  | [] => rfl
  | c :: cs => by rw [keyTs, keyTs_map cs]; rfl
mutual
theorem keyT_key {es : List D} : ∀ d : D, vld es d = true → keyD (keyT d) = some (kN d) ∧ noBl (keyT d) = true ∧ (kN d).depth = 2 * dpD d
  | .tup xs, h => by
    rw [keyT, kN, dpD]
    exact keyTT_key xs (by simpa [vld] using h)
  | .non, h => by simp [vld] at h
  | .bl _, h => by simp [vld] at h
  | .int _, h => by simp [vld] at h
  | .str _, h => by simp [vld] at h
  | .ref _, h => by simp [vld] at h
  | .ty _, h => by simp [vld] at h
  | .fn _, h => by simp [vld] at h
  | .rdl _, h => by simp [vld] at h
  | .lst _, h => by simp [vld] at h
theorem keyTT_key {es : List D} : ∀ xs : List D, vldT es xs = true → keyD (keyTT xs) = some (kNT xs) ∧ noBl (keyTT xs) = true ∧ (kNT xs).depth = 2 * dpT xs
  | [], h => by simp [vldT] at h
  | x :: cs, h => by
    simp only [vldT, Bool.and_eq_true] at h
    obtain ⟨h1, h2⟩ := h
    obtain ⟨a, b, c⟩ := keyTs_key cs h2
    cases x with
    | int f =>
      refine ⟨by simp [keyTT, kNT, keyD, keysD, a, num], by simp [keyTT, noBl, noBls, b], ?_⟩
      simp only [kNT, NestedKey.depth, NestedKey.depthAll, dpT, c]
      omega
    | _ => simp at h1
theorem keyTs_key {es : List D} : ∀ cs : List D, vlds es cs = true → keysD (keyTs cs) = some (kNs cs) ∧ noBls (keyTs cs) = true ∧ NestedKey.depthAll (kNs cs) = 2 * dps cs
  | [], _ => ⟨rfl, rfl, rfl⟩
  | c :: cs, h => by
    simp only [vlds, Bool.and_eq_true] at h
    obtain ⟨a1, b1, d1⟩ := keyT_key c h.1
    obtain ⟨a2, b2, d2⟩ := keyTs_key cs h.2
    refine ⟨by simp [keyTs, kNs, keysD, a1, a2], by simp [keyTs, noBls, b1, b2], ?_⟩
    simp only [kNs, NestedKey.depthAll, dps, d1, d2]
    omega
end
mutual
theorem kN_cmp {es : List D} : ∀ d e : D, vld es d = true → vld es e = true → cmpOk (kN d) (kN e) = true
  | .tup xs, e, h1, h2 => by
    obtain ⟨ys, rfl⟩ := vld_tup h2
    rw [kN, kN]
    exact kNT_cmp xs ys (by simpa [vld] using h1) (by simpa [vld] using h2)
  | .non, _, h, _ => by simp [vld] at h
  | .bl _, _, h, _ => by simp [vld] at h
  | .int _, _, h, _ => by simp [vld] at h
  | .str _, _, h, _ => by simp [vld] at h
  | .ref _, _, h, _ => by simp [vld] at h
  | .ty _, _, h, _ => by simp [vld] at h
  | .fn _, _, h, _ => by simp [vld] at h
  | .rdl _, _, h, _ => by simp [vld] at h
  | .lst _, _, h, _ => by simp [vld] at h
theorem kNT_cmp {es : List D} : ∀ xs ys : List D, vldT es xs = true → vldT es ys = true → cmpOk (kNT xs) (kNT ys) = true
  | [], _, h, _ => by simp [vldT] at h
  | _ :: _, [], _, h => by simp [vldT] at h
  | x :: cs, y :: ds, h1, h2 => by
    simp only [vldT, Bool.and_eq_true] at h1 h2
    simp only [kNT, cmpOk, cmpOks, kNs_cmp cs ds h1.2 h2.2, Bool.or_true, Bool.and_true]
theorem kNs_cmp {es : List D} : ∀ cs ds : List D, vlds es cs = true → vlds es ds = true → cmpOks (kNs cs) (kNs ds) = true
  | [], _, _, _ => by rw [kNs, cmpOks]
  | c :: cs, [], _, _ => by rw [kNs, kNs, cmpOks]
  | c :: cs, d :: ds, h1, h2 => by
    simp only [vlds, Bool.and_eq_true] at h1 h2
    rw [kNs, kNs, cmpOks, kN_cmp c d h1.1 h2.1, kNs_cmp cs ds h1.2 h2.2]
    simp
end
mutual
theorem kN_inj {es : List D} : ∀ d e : D, vld es d = true → vld es e = true → kN d = kN e → d = e
  | .tup xs, e, h1, h2, h => by
    obtain ⟨ys, rfl⟩ := vld_tup h2
    rw [kN, kN] at h
    rw [kNT_inj xs ys (by simpa [vld] using h1) (by simpa [vld] using h2) h]
  | .non, _, h, _, _ => by simp [vld] at h
  | .bl _, _, h, _, _ => by simp [vld] at h
  | .int _, _, h, _, _ => by simp [vld] at h
  | .str _, _, h, _, _ => by simp [vld] at h
  | .ref _, _, h, _, _ => by simp [vld] at h
  | .ty _, _, h, _, _ => by simp [vld] at h
  | .fn _, _, h, _, _ => by simp [vld] at h
  | .rdl _, _, h, _, _ => by simp [vld] at h
  | .lst _, _, h, _, _ => by simp [vld] at h
theorem kNT_inj {es : List D} : ∀ xs ys : List D, vldT es xs = true → vldT es ys = true → kNT xs = kNT ys → xs = ys
  | [], _, h, _, _ => by simp [vldT] at h
  | _ :: _, [], _, h, _ => by simp [vldT] at h
  | x :: cs, y :: ds, h1, h2, h => by
    simp only [vldT, Bool.and_eq_true] at h1 h2
    simp only [kNT, NestedKey.tup.injEq, List.cons.injEq, NestedKey.num.injEq, and_true] at h
    rw [kNs_inj cs ds h1.2 h2.2 h.2.2]
    have h3 := h.2.1
    cases x <;> first | (simp at h1; done) | skip
    cases y <;> first | (simp at h2; done) | skip
    simp only [num] at h3
    rw [h3]
theorem kNs_inj {es : List D} : ∀ cs ds : List D, vlds es cs = true → vlds es ds = true → kNs cs = kNs ds → cs = ds
  | [], [], _, _, _ => rfl
  | [], d :: ds, _, _, h => by simp [kNs] at h
  | c :: cs, [], _, _, h => by simp [kNs] at h
  | c :: cs, d :: ds, h1, h2, h => by
    simp only [vlds, Bool.and_eq_true] at h1 h2
    simp only [kNs, List.cons.injEq] at h
    rw [kN_inj c d h1.1 h2.1 h.1, kNs_inj cs ds h1.2 h2.2 h.2]
end
/-! ### compared -/
/-- -1, 0 or 1 -/
def cmpI (t u : D) : Int := if kN t = kN u then 0 else if ltK (kN t) (kN u) = true then -1 else 1
theorem cmp_neg (t u : D) : decide (cmpI t u < 0) = ltK (kN t) (kN u) := by
  unfold cmpI
  by_cases h : kN t = kN u
  · rw [if_pos h, h, ltK_irr]
    rfl
  · rw [if_neg h]
    cases ltK (kN t) (kN u) <;> rfl
theorem ltKs_at : ∀ (ks ls : List NestedKey) (i : Nat) (k l : NestedKey), ks[i]? = some k → ls[i]? = some l → k ≠ l → (∀ j, j < i → ks[j]? = ls[j]?) → ltKs ks ls = ltK k l
  | k :: ks, l :: ls, 0, _, _, h1, h2, ne, _ => by
    cases h1
    cases h2
    rw [ltKs, if_neg ne]
  | k :: ks, l :: ls, i + 1, k', l', h1, h2, ne, hj => by
    have e : k = l := by simpa using hj 0 (Nat.succ_pos _)
    rw [ltKs, if_pos e]
    exact ltKs_at ks ls i k' l' (by simpa using h1) (by simpa using h2) ne fun j h => by simpa using hj (j + 1) (Nat.succ_lt_succ h)
  | [], _, _, _, _, h1, _, _, _ => by simp at h1
  | _ :: _, [], _, _, _, _, h2, _, _ => by simp at h2
theorem ltK_num {i j : Int} : ltK (.num i) (.num j) = decide (i < j) := by rw [ltK]
/-- the size stands first -/
theorem kN_sz {es : List D} {t : D} (v : vld es t = true) : ∃ f cs, t = .tup (.int f :: cs) ∧ kN t = .tup [.num (szD t), .num f, .tup (cs.map kN)] := by
  obtain ⟨f, cs, rfl, _⟩ := vld_iff v
  exact ⟨f, cs, rfl, by rw [kN, kNT, kNs_map, szD, szT]; rfl⟩
theorem cmp_sz {es : List D} {t u : D} (v : vld es t = true) (v' : vld es u = true) (h : szD t ≠ szD u) : cmpI t u = if szD t < szD u then -1 else 1 := by
  obtain ⟨f, cs, _, e1⟩ := kN_sz v
  obtain ⟨g, ds, _, e2⟩ := kN_sz v'
  have ne : ¬ (NestedKey.num (szD t : Int) = NestedKey.num (szD u : Int)) := fun z => by
    injection z with z
    omega
  have ne2 : ¬ (kN t = kN u) := fun z => by
    rw [e1, e2] at z
    simp only [NestedKey.tup.injEq, List.cons.injEq] at z
    exact ne z.1
  rw [cmpI, if_neg ne2, e1, e2, ltK, ltKs, if_neg ne, ltK_num]
  by_cases c : szD t < szD u
  · rw [if_pos c, if_pos (by simpa using c)]
  · rw [if_neg c, if_neg (by simpa using c)]
/-- the same size and symbol, unlike first at child i -/
theorem cmp_kid {f : Int} {cs ds : List D} {i : Nat} {c d : D} (hs : szs cs = szs ds) (h1 : cs[i]? = some c) (h2 : ds[i]? = some d) (hl : cs.length = ds.length) (hj : ∀ j, j < i → cs[j]? = ds[j]?) (ne : kN c ≠ kN d) :
    cmpI (.tup (.int f :: cs)) (.tup (.int f :: ds)) = cmpI c d := by
  have e1 : (cs.map kN)[i]? = some (kN c) := by rw [List.getElem?_map, h1]; rfl
  have e2 : (ds.map kN)[i]? = some (kN d) := by rw [List.getElem?_map, h2]; rfl
  have ne2 : cs.map kN ≠ ds.map kN := fun z => by
    rw [z, e2] at e1
    exact ne (Option.some.inj e1).symm
  have ne3 : ¬ (kN (.tup (.int f :: cs)) = kN (.tup (.int f :: ds))) := fun z => by
    simp only [kN, kNT, kNs_map, NestedKey.tup.injEq, List.cons.injEq, and_true] at z
    exact ne2 z.2.2
  have l : ltK (kN (.tup (.int f :: cs))) (kN (.tup (.int f :: ds))) = ltK (kN c) (kN d) := by
    simp only [kN, kNT, kNs_map, ltK, ltKs, hs, if_true]
    rw [if_neg (fun z => ne2 (by injection z))]
    exact ltKs_at _ _ i _ _ e1 e2 ne fun j h => by rw [List.getElem?_map, List.getElem?_map, hj j h]
  rw [cmpI, if_neg ne3, l, cmpI, if_neg ne]
/-- a part exchanged -/
theorem cmp_set {es : List D} {t c c' : D} {i : Int} (v : vld es t = true) (h0 : 0 ≤ i) (hc : (kids t)[i.toNat]? = some c) (v' : vld es c' = true) : cmpI (setK t i c') t = cmpI c' c := by
  obtain ⟨f, cs, rfl, f0, f1, ha, hv⟩ := vld_iff v
  simp only [kids] at hc
  have vc := hv c (List.mem_of_getElem? hc)
  have hi := (List.getElem?_eq_some_iff.mp hc).1
  have vt : vld es (.tup (.int f :: cs.set i.toNat c')) = true := vld_of f0 f1 (by rw [List.length_set]; exact ha) fun x hx => by
    rcases List.mem_or_eq_of_mem_set hx with z | z
    · exact hv x z
    · rw [z]; exact v'
  have z1 := szs_set (y := c') hc
  simp only [setK]
  by_cases e : kN c' = kN c
  · have : c' = c := kN_inj _ _ v' vc e
    subst this
    have e2 : cs.set i.toNat c' = cs := by
      rw [List.getElem?_eq_getElem hi] at hc
      cases hc
      exact List.set_getElem_self hi
    rw [e2, cmpI, if_pos rfl, cmpI, if_pos rfl]
  · by_cases es' : szD c' = szD c
    · refine cmp_kid (i := i.toNat) (by omega) (by rw [List.getElem?_set_self hi]) hc (by rw [List.length_set]) (fun j hj => by rw [List.getElem?_set_ne (by omega)]) e
    · have n2 : szD (.tup (.int f :: cs.set i.toNat c')) ≠ szD (.tup (.int f :: cs)) := by
        simp only [szD, szT]
        omega
      rw [cmp_sz vt v n2, cmp_sz v' vc es']
      have s1 : szD (.tup (.int f :: cs.set i.toNat c')) = 1 + szs (cs.set i.toNat c') := by rw [szD, szT]
      have s2 : szD (.tup (.int f :: cs)) = 1 + szs cs := by rw [szD, szT]
      by_cases l : szD c' < szD c
      · rw [if_pos l, if_pos (by omega)]
      · rw [if_neg l, if_neg (by omega)]
theorem cmp_put {es : List D} : ∀ (q : List Int) {t u w : D}, partD q t = some w → vld es t = true → vld es u = true → cmpI (putD q t u) t = cmpI u w ∧ vld es (putD q t u) = true
  | [], t, u, w, h, v, v' => by
    cases h
    exact ⟨rfl, v'⟩
  | i :: r, t, u, w, h, v, v' => by
    obtain ⟨c, h0, e, eg, hc⟩ := partD_cons h
    have vc : vld es c = true := by
      obtain ⟨f, cs, rfl, _, _, _, hv⟩ := vld_iff v
      exact hv c (List.mem_of_getElem? e)
    obtain ⟨h1, h2⟩ := cmp_put r hc vc v'
    rw [putD, eg]
    refine ⟨by rw [cmp_set v h0 e h2, h1], ?_⟩
    obtain ⟨f, cs, rfl, f0, f1, ha, hv⟩ := vld_iff v
    exact vld_of f0 f1 (by rw [List.length_set]; exact ha) fun x hx => by
      rcases List.mem_or_eq_of_mem_set hx with z | z
      · exact hv x z
      · rw [z]; exact h2
end L2.AP
set_option Elab.async false
set_option linter.all false
set_option maxRecDepth 100000
set_option maxHeartbeats 4000000
/-! T2: through, joined_key, key_of. -/
namespace L2.AP
open PySem PySem.Spec PyProof.Rows
/-- a comprehension that changes one object, turn by turn -/
theorem lc_st {g : DTG} {te : DTE} {vs : List Nat} {δ : Dl} {Q : DQ} {it : DIt} {m1 : AH} {a : Addr} (xs : List D) (f : Nat → MO) (y : Nat → D) (ha : m1 a = some (f 0)) (hx : ∀ m2, it m2 = some xs) (hl : xs.length ≤ sizeLine)
    (hb : ∀ i x, xs[i]? = some x → ∀ (m2 : AH) (C : DQ), m2 a = some (f i) → C (y i) (put m2 a (f (i + 1))) → g WF x (wipeD δ vs) m2 fun δ2 m3 => te WF δ2 m3 C)
    (q : Q (.lst ((List.range xs.length).map y)) (put m1 a (f xs.length))) : lcBody false g dYes te vs δ Q it m1 := by
  intro p hp
  have ne : a ≠ p := fun z => by rw [← z, ha] at hp; cases hp
  refine ⟨fun i k acc m => i + k = xs.length ∧ m = put (put m1 a (f i)) p (.lst acc) ∧ acc = (List.range i).map y, ⟨xs.length, by omega, by rw [put_self ha], rfl⟩, ?_⟩
  rintro i k acc m ⟨h1, rfl, h2⟩
  refine ⟨put_same, xs, hx _, ?_⟩
  have pn : (put m1 a (f i)) p = none := by rw [put_ne (Ne.symm ne)]; exact hp
  have la : acc.length = i := by rw [h2, List.length_map, List.length_range]
  cases e : xs[i]? with
  | none =>
    have hi := List.getElem?_eq_none_iff.mp e
    have : i = xs.length := by omega
    subst this
    unfold lcEnd
    rw [if_neg Bool.false_ne_true]
    exact ⟨put m1 a (f xs.length), Le.new pn, pn, by rw [h2]; exact q⟩
  | some x =>
    have hi := (List.getElem?_eq_some_iff.mp e).1
    have hb' := hb i x e (put (put m1 a (f i)) p (.lst acc)) (fun d m4 => m4 p = some (.lst acc) ∧ acc.length < sizeLine ∧ ∃ k' m5, k' < k ∧ Le m5 (put m4 p (.lst (acc ++ [d]))) ∧ (i + 1 + k' = xs.length ∧ m5 = put (put m1 a (f (i + 1))) p (.lst (acc ++ [d])) ∧ acc ++ [d] = (List.range (i + 1)).map y))
      (by rw [put_ne ne, put_same]) ⟨by rw [put_ne (Ne.symm ne), put_same], by omega, k - 1, put (put m1 a (f (i + 1))) p (.lst (acc ++ [y i])), by omega, by rw [put_swap ne]; exact Le.refl _, by omega, rfl, by rw [List.range_succ, List.map_append, h2]; rfl⟩
    simpa [S] using hb'
/-! ### joined_key -/
def szKs (ks : List D) : List Int := ks.map fun k => num (fst k)
def sp_joined_key : DSp := fun ds m Q _ => match ds with
  | [f, .lst ks] => (∀ k ∈ ks, ∃ n r, k = .tup (.int n :: r)) ∧ ks.length ≤ 10000 ∧ Q (.tup [.int (1 + (szKs ks).sum), f, .tup ks]) m
  | _ => False
def t_joined_key : DTS :=
  dRet (dTup (dCons (dOp addR (dC (.int 1)) (dCall sumR (dCons (dLc false (diAny (dVar 1)) (dgName 2) dYes (dOp ixR (dVar 2) (dC (.int 0))) [2]) dNil))) (dCons (dVar 0) (dCons (dCall tupleR (dCons (dVar 1) dNil)) dNil))))
theorem v_joined_key {W : DW} {E : DEnds} {m : AH} {f : D} {ks : List D} (h : ∀ k ∈ ks, ∃ n r, k = .tup (.int n :: r)) (hl : ks.length ≤ 10000) (q : E.rt (.tup [.int (1 + (szKs ks).sum), f, .tup ks]) m) : t_joined_key W E [some f, some (.lst ks), none] m := by
  have big : (1000000 : Nat) ≤ sizeLine := sl0
  unfold t_joined_key
  simp only [S, SS', SL, SB]
  refine ⟨⟨_, rfl⟩, lc_map ks (fun k => .int (num (fst k))) (fun _ _ => rfl) (by omega) (fun x hx m2 C _ hC => ?_) ?_⟩
  · obtain ⟨n, r, rfl⟩ := h x hx
    simp only [S, SS', SB, wipeD, List.set]
    exact ixT atL0 hC
  · have e : ks.map (fun k => D.int (num (fst k))) = (szKs ks).map D.int := by rw [szKs, List.map_map]; rfl
    rw [e]
    refine ⟨szKs ks, rfl, ?_⟩
    simp only [addR]
    exact ⟨_, rfl, by omega, q⟩
/-! ### through -/
theorem keyT_hT {t : D} (h : hT t = true) : ∃ f, t = .tup (f :: kids t) ∧ keyT t = .tup [.int (szD t : Int), f, .tup ((kids t).map keyT)] := by
  obtain ⟨f, et, _⟩ := hT_tup h
  refine ⟨f, et, ?_⟩
  rw [sz_kids h]
  generalize kids t = cs at et ⊢
  subst et
  rw [keyT, keyTT, keyTs_map]
theorem szKs_kids {t : D} (h : hT t = true) : (1 + (szKs ((kids t).map keyT)).sum : Int) = (szD t : Int) := by
  rw [sz_kids h]
  have hk := hTs_mem (hT_tup h).choose_spec.2
  generalize kids t = cs at hk
  clear h
  have : (szKs (cs.map keyT)).sum = (szs cs : Int) := by
    induction cs with
    | nil => rfl
    | cons c cs ih =>
      have ih := ih fun x hx => hk x (List.mem_cons_of_mem _ hx)
      obtain ⟨f, _, e⟩ := keyT_hT (hk c List.mem_cons_self)
      have e1 : num (fst (keyT c)) = (szD c : Int) := by rw [e]; rfl
      simp only [szKs, List.map_cons, List.sum_cons] at ih ⊢
      rw [e1, ih, szs]
      omega
  omega
/-- what is still to be done leads to one key -/
def Goes (t0 : D) : List (D × Bool) → List D → Prop
  | [], done => done = [keyT t0]
  | (t, false) :: w, done => hT t = true ∧ gd t = true ∧ Goes t0 w (done ++ [keyT t])
  | (t, true) :: w, done => hT t = true ∧ gd t = true ∧ szD t ≤ 10000 ∧ ∃ d0, done = d0 ++ (kids t).map keyT ∧ Goes t0 w (d0 ++ [keyT t])
theorem goes_kids {t0 : D} {rest : List (D × Bool)} : ∀ (cs : List D) (done : List D), (∀ c ∈ cs, hT c = true ∧ gd c = true) → Goes t0 rest (done ++ cs.map keyT) → Goes t0 (cs.map (fun c => (c, false)) ++ rest) done
  | [], done, _, h => by simpa using h
  | c :: cs, done, hc, h => by
    refine ⟨(hc c List.mem_cons_self).1, (hc c List.mem_cons_self).2, goes_kids cs _ (fun x hx => hc x (List.mem_cons_of_mem _ hx)) ?_⟩
    rw [List.append_assoc]
    exact h
def todo : List (D × Bool) → Nat
  | [] => 0
  | (t, b) :: w => (if b = true then 1 else 2 * szD t) + todo w
theorem todo_app : ∀ xs ys : List (D × Bool), todo (xs ++ ys) = todo xs + todo ys
  | [], ys => by simp [todo]
  | (t, b) :: xs, ys => by rw [List.cons_append, todo, todo, todo_app xs ys]; omega
theorem todo_kids : ∀ cs : List D, todo (cs.map fun c => (c, false)) = 2 * szs cs
  | [] => rfl
  | c :: cs => by rw [List.map_cons, todo, todo_kids cs, szs, if_neg (by decide)]; omega
theorem todo_len : ∀ xs : List (D × Bool), xs.length ≤ todo xs
  | [] => Nat.zero_le _
  | (t, b) :: xs => by
    have := todo_len xs
    have := sz_pos t
    rw [List.length_cons, todo]
    cases b <;> simp <;> omega
theorem todo_rev (xs : List (D × Bool)) : todo xs.reverse = todo xs := by
  induction xs with
  | nil => rfl
  | cons x xs ih => rw [List.reverse_cons, todo_app, ih]; obtain ⟨t, b⟩ := x; simp only [todo]; omega
def itT (x : D × Bool) : D := .tup [x.1, .bl x.2]
theorem lay_itT {x : D × Bool} (g : gd x.1 = true) : lay (itT x) = true := by
  simp only [itT, lay, lays, gd_lay _ g]
  rfl
theorem goes_gd {t0 : D} : ∀ (w : List (D × Bool)) (done : List D), Goes t0 w done → ∀ x ∈ w, gd x.1 = true
  | [], _, _, x, hx => by cases hx
  | (t, false) :: w, done, h, x, hx => by
    rcases List.mem_cons.mp hx with rfl | hx
    · exact h.2.1
    · exact goes_gd w _ h.2.2 x hx
  | (t, true) :: w, done, h, x, hx => by
    rcases List.mem_cons.mp hx with rfl | hx
    · exact h.2.1
    · obtain ⟨_, d0, _, h⟩ := h.2.2
      exact goes_gd w _ h x hx
def sp_through : DSp := fun ds m Q _ => match ds with
  | [t, .fn y] => y = "joined_key" ∧ hT t = true ∧ gd t = true ∧ szD t ≤ 10000 ∧ Q (keyT t) m
  | _ => False
def t_thrUp (F : Str → Option FI) : DTS := dSeq (dAsg (dRevG false (dLc false (diAny (dSl false (dVar 4) (dPart (dC (.int 1))) dNoPart)) (dgName 7) dYes (dBM popR (dVar 3) dNil) [7])) (dgName 6)) <|
        dDrop (dBM appendR (dVar 3) (dCons (dCallL 1 F (dCons (dOp ixR (dVar 4) (dC (.int 0))) (dCons (dVar 6) dNil))) dNil))
def t_thrDown : DTS := dSeq (dDrop (dBM appendR (dVar 2) (dCons (dTup (dCons (dVar 4) (dCons (dC (.bl true)) dNil))) dNil))) <|
        dDrop (dBM extendR (dVar 2) (dCons (dLc false (diAny (dRevG true (dVar 4))) (dgName 7) dYes (dTup (dCons (dVar 7) (dCons (dC (.bl false)) dNil))) [7]) dNil))
def t_through (F : Str → Option FI) : DTS :=
  dSeq (dAsg (dTup (dCons (dLst true (dCons (dTup (dCons (dVar 0) (dCons (dC (.bl false)) dNil))) dNil)) (dCons (dLst true dNil) dNil))) (dgTup 2 (dgCons (dgName 2) (dgCons (dgName 3) dgNil)))) <|
  dSeq (dWhile (dTest (dOp neR (dVar 2) (dLst false dNil))) (dSeq (dAsg (dBM popR (dVar 2) dNil) (dgTup 2 (dgCons (dgName 4) (dgCons (dgName 5) dgNil)))) <|
      dIfS (dTruth (dVar 5)) (t_thrUp F) t_thrDown)) <|
  dRet (dOp ixR (dVar 3) (dC (.int 0)))
theorem v_thrUp {F : Str → Option FI} (hF : ∃ info, F "joined_key" = some info ∧ info.ps.length = 2 ∧ info.sp = sp_joined_key) {W : DW} {E : DEnds} {m : AH} {pd : Addr} {t : D} {d0 : List D} {x0 x2 x5 x6 : Option D} (hd : m pd = some (.lst (d0 ++ (kids t).map keyT))) (ht : hT t = true) (hs : szD t ≤ 10000) (hl : d0.length ≤ 100000)
    (q : ∀ y6, E.nx [x0, some (.fn "joined_key"), x2, some (.ref pd), some t, x5, y6, none] (put m pd (.lst (d0 ++ [keyT t])))) :
    t_thrUp F W E [x0, some (.fn "joined_key"), x2, some (.ref pd), some t, x5, x6, none] m := by
  have big : (1000000 : Nat) ≤ sizeLine := sl0
  obtain ⟨f, et, ek⟩ := keyT_hT ht
  have sk := sz_kids ht
  have sl := szs_len (kids t)
  obtain ⟨info, h1, h2, h3⟩ := hF
  have hk : ∀ k ∈ (kids t).map keyT, ∃ n r, k = .tup (.int n :: r) := fun k hk => by
    obtain ⟨c, hc, rfl⟩ := List.mem_map.mp hk
    obtain ⟨g, _, e⟩ := keyT_hT (hTs_mem (hT_tup ht).choose_spec.2 c hc)
    exact ⟨_, _, e⟩
  have sz := szKs_kids ht
  unfold t_thrUp
  rw [ek, ← sz] at q
  generalize kids t = cs at et hd hk sz sl q sk
  subst et
  generalize eks : cs.map keyT = ks at hd hk q
  have lk : ks.length = cs.length := by rw [← eks, List.length_map]
  have c1 : AP.cut (f :: cs) (some 1) none = cs := by rw [cut_from _ (by decide)]; rfl
  simp only [S, SS', SL, SB, slR, c1]
  refine ⟨⟨_, rfl⟩, lc_st (a := pd) cs (fun i => .lst (d0 ++ ks.take (ks.length - i))) (fun i => ks.getD (ks.length - 1 - i) .non) (by rw [Nat.sub_zero, List.take_length]; exact hd) (fun _ => rfl) (by omega) (fun i x hx m2 C hm hC => ?_) ?_⟩
  · have hi := (List.getElem?_eq_some_iff.mp hx).1
    simp only [S, SS', SB, wipeD, List.set]
    have hj : ks.length - 1 - i < ks.length := by omega
    have e1 : ks.take (ks.length - i) = ks.take (ks.length - (i + 1)) ++ [ks.getD (ks.length - 1 - i) .non] := by
      rw [show ks.length - i = (ks.length - (i + 1)) + 1 by omega, List.take_succ, show ks.length - (i + 1) = ks.length - 1 - i by omega, (getD_mem hj).1]
      rfl
    rw [e1, ← List.append_assoc] at hm
    exact ⟨⟨_, asL_ref hm⟩, _, _, hm, hC⟩
  · have e2 : (List.range cs.length).map (fun i => ks.getD (ks.length - 1 - i) .non) = ks.reverse := by
      apply List.ext_getElem?
      intro i
      by_cases c : i < cs.length
      · rw [List.getElem?_map, List.getElem?_range c, List.getElem?_reverse (by omega), (getD_mem (show ks.length - 1 - i < ks.length by omega)).1]
        rfl
      · rw [List.getElem?_eq_none (by rw [List.length_map, List.length_range]; omega), List.getElem?_eq_none (by rw [List.length_reverse]; omega)]
    rw [e2]
    refine .inr ⟨_, rfl, ⟨_, asLp⟩, ?_⟩
    simp only [dCallL, S, SB]
    refine ⟨_, info, rfl, h1, ixT atL0 ?_⟩
    simp only [S, SB, h2, h3, sp_joined_key, revC, Bool.false_eq_true, if_false, List.reverse_reverse]
    refine ⟨hk, by omega, d0, by rw [show ks.length - cs.length = 0 by omega, List.take_zero, List.append_nil]; exact put_same, by omega, ?_⟩
    rw [put_put]
    exact q _
theorem v_thrDown {W : DW} {E : DEnds} {m : AH} {p : Addr} {t : D} {w : List (D × Bool)} {x0 x1 x3 x5 x6 : Option D} (hp : m p = some (.lst (w.map itT))) (ht : hT t = true) (hs : szD t ≤ 10000) (hl : w.length ≤ 100000)
    (q : E.nx [x0, x1, some (.ref p), x3, some t, x5, x6, none] (put m p (.lst ((w ++ [(t, true)] ++ ((kids t).map fun c => (c, false)).reverse).map itT)))) :
    t_thrDown W E [x0, x1, some (.ref p), x3, some t, x5, x6, none] m := by
  have big : (1000000 : Nat) ≤ sizeLine := sl0
  obtain ⟨f, et, _⟩ := hT_tup ht
  have sk := sz_kids ht
  have sl := szs_len (kids t)
  unfold t_thrDown
  generalize kids t = cs at et sl sk q
  simp only [S, SS', SL, SB]
  refine ⟨⟨_, asL_ref hp⟩, by omega, _, hp, by rw [List.length_map]; omega, ⟨_, asLp⟩, ?_⟩
  subst et
  refine .inl ⟨_, rfl, ⟨_, rfl⟩, ?_⟩
  simp only [revC, if_true, List.drop_succ_cons, List.drop_zero]
  refine lc_map cs.reverse (fun c => itT (c, false)) (fun _ _ => rfl) (by rw [List.length_reverse]; omega) (fun x hx m2 C _ hC => ?_) ?_
  · simp only [S, SS', SB, wipeD, List.set]
    exact ⟨by omega, hC⟩
  · refine ⟨_, _, put_same, .inl rfl, by simp only [List.length_append, List.length_map, List.length_cons, List.length_nil, List.length_reverse]; omega, ?_⟩
    rw [put_put]
    have e : w.map itT ++ [D.tup [.tup (f :: cs), .bl true]] ++ cs.reverse.map (fun c => itT (c, false)) = (w ++ [(D.tup (f :: cs), true)] ++ (cs.map fun c => (c, false)).reverse).map itT := by
      rw [List.map_append, List.map_append, ← List.map_reverse, List.map_map]
      rfl
    rw [e]
    exact q
theorem v_through {F : Str → Option FI} (hF : ∃ info, F "joined_key" = some info ∧ info.ps.length = 2 ∧ info.sp = sp_joined_key) {W : DW} {E : DEnds} {m : AH} {t : D} (ht : hT t = true) (g : gd t = true) (hs : szD t ≤ 10000) (q : ∀ m', Le m m' → E.rt (keyT t) m') :
    t_through F W E [some t, some (.fn "joined_key"), none, none, none, none, none, none] m := by
  have big : (1000000 : Nat) ≤ sizeLine := sl0
  unfold t_through
  simp only [S, SS', SB]
  refine ⟨by omega, by omega, fun p hp => ⟨by omega, fun pd hpd => ⟨by omega, ?_⟩⟩⟩
  have n0 : p ≠ pd := fun z => by rw [← z, put_same] at hpd; cases hpd
  have hpd0 : m pd = none := by rwa [put_ne (Ne.symm n0)] at hpd
  refine ⟨fun k δ m' => ∃ (w : List (D × Bool)) (done : List D) (x4 x5 x6 : Option D), δ = [some t, some (.fn "joined_key"), some (.ref p), some (.ref pd), x4, x5, x6, none] ∧ m' p = some (.lst (w.reverse.map itT)) ∧ m' pd = some (.lst done) ∧ Le m m' ∧ Goes t w done ∧ done.length + todo w ≤ 2 * szD t ∧ k = todo w,
    ⟨_, [(t, false)], [], none, none, none, rfl, by rw [put_ne n0, put_same]; rfl, put_same, (Le.new hp).put_new hpd0, ⟨ht, g, rfl⟩, by simp [todo], rfl⟩, ?_⟩
  rintro k δ m' ⟨w, done, x4, x5, x6, rfl, h1, h2, le, gs, hm, rfl⟩
  have ly : lays (w.reverse.map itT) = true := lays_of fun y hy => by
    obtain ⟨x, hx, rfl⟩ := List.mem_map.mp hy
    exact lay_itT (goes_gd w _ gs x (List.mem_reverse.mp hx))
  have tl := todo_len w
  simp only [S, SS', SB, neR, val, h1, lay, ly, lays, eqD, eqDs_nil, dep, deps, map_nil_iff]
  refine ⟨by omega, by omega, ?_⟩
  cases w with
  | nil =>
    simp only [List.reverse_nil, List.isEmpty_nil, Bool.not_true, Bool.false_eq_true, if_false]
    have gs : done = [keyT t] := gs
    rw [gs] at h2
    exact ixR_w h2 atL0 (q _ le)
  | cons x w =>
    obtain ⟨u, b⟩ := x
    rw [List.reverse_cons, List.map_append] at h1
    rw [List.length_cons] at tl
    rw [if_pos (by simp)]
    refine ⟨⟨_, asL_ref h1⟩, w.reverse.map itT, itT (u, b), h1, ?_⟩
    simp only [itT, SS', S, SB, TR]
    have hp1 : (put m' p (.lst (w.reverse.map itT))) pd = some (.lst done) := by rw [put_ne (Ne.symm n0)]; exact h2
    simp only [todo] at hm tl ⊢
    cases b with
    | true =>
      obtain ⟨hu, gu, su, d0, rfl, gs⟩ := gs
      simp only [if_true] at hm tl ⊢
      rw [List.length_append] at hm
      refine v_thrUp hF hp1 hu su (by omega) fun y6 => ?_
      refine ⟨todo w, _, _, by omega, LeL.refl _, Le.refl _, w, d0 ++ [keyT u], _, _, _, rfl, by rw [put_ne n0, put_same], put_same, (le.put_new hp).put_new hpd0, gs, by rw [List.length_append]; simp; omega, rfl⟩
    | false =>
      obtain ⟨hu, gu, gs⟩ := gs
      simp only [Bool.false_eq_true, if_false] at hm tl ⊢
      have sp := sz_pos u
      have sk := sz_kids hu
      refine v_thrDown put_same hu (by omega) (by rw [List.length_reverse]; omega) ?_
      rw [put_put]
      have et : todo (((kids u).map fun c => (c, false)) ++ (u, true) :: w) = 2 * szs (kids u) + (1 + todo w) := by
        rw [todo_app, todo_kids, todo, if_pos rfl]
      refine ⟨todo (((kids u).map fun c => (c, false)) ++ (u, true) :: w), _, _, by rw [et]; omega, LeL.refl _, Le.refl _, ((kids u).map fun c => (c, false)) ++ (u, true) :: w, done, _, _, _, rfl, ?_, by rw [put_ne (Ne.symm n0)]; exact h2, le.put_new hp, ?_, by rw [et]; omega, rfl⟩
      · rw [put_same]
        simp
      · refine goes_kids _ _ (fun c hc => ⟨hTs_mem (hT_tup hu).choose_spec.2 c hc, gd_kids gu c hc⟩) ⟨hu, gu, by omega, done, rfl, gs⟩
def sp_key_of : DSp := fun ds m Q _ => match ds with
  | [t] => hT t = true ∧ gd t = true ∧ szD t ≤ 10000 ∧ Q (keyT t) m
  | _ => False
def t_key_of : DTS :=
  dRet (dCallF 2 sp_through (dCons (dVar 0) (dCons (dC (.fn "joined_key")) dNil)))
theorem v_key_of {W : DW} {E : DEnds} {m : AH} {t : D} (ht : hT t = true) (g : gd t = true) (hs : szD t ≤ 10000) (q : E.rt (keyT t) m) : t_key_of W E [some t] m := by
  unfold t_key_of
  simp only [S, SS', SB, sp_through]
  exact ⟨ht, g, hs, q⟩
end L2.AP
set_option Elab.async false
set_option linter.all false
set_option maxRecDepth 100000
set_option maxHeartbeats 4000000
/-! T3: the doors of the order of trees; the laws' own order. -/
namespace L2.AP
open PySem PySem.Spec PyProof.Rows
variable (X : Ex)
def sp_need_other_tree : DSp := fun ds m Q E => match ds with
  | [s, d] => sigB s = true ∧ gd s = true ∧ gd d = true ∧ (treeB (els s) d = true → Q .non m) ∧ (treeB (els s) d = false → E (.ref (X.c "BadOther")) none m)
  | _ => False
def t_need_other_tree : DTS :=
  dIfS (dNotT (dTruth (dCallF 2 sp_is_small_tree (dCons (dVar 0) (dCons (dVar 1) dNil))))) (dRaise (X.c "BadOther")) (dNext)
theorem v_need_other_tree {W : DW} {E : DEnds} {m : AH} {s d : D} (hs : sigB s = true) (g : gd s = true) (g2 : gd d = true) (q : ∀ δ, treeB (els s) d = true → E.nx δ m) (r : ∀ δ, treeB (els s) d = false → W (.ref (X.c "BadOther")) none δ m) : t_need_other_tree X W E [some s, some d] m := by
  have e := sig_els hs
  have hs' := hs
  rw [e] at hs'
  unfold t_need_other_tree
  simp only [S, SS', SB]
  have q := q [some s, some d]
  have r := r [some s, some d]
  rw [e] at q r ⊢
  simp only [sp_is_small_tree, TR]
  refine ⟨hs', gd_els g, g2, ?_⟩
  rw [← e] at q r ⊢
  cases c : treeB (els s) d with
  | true => simpa using q c
  | false => simpa using r c
/-- the first wrong one of a signature, a tree and another tree -/
def pairG (s t u : D) : Prop := gd s = true ∧ gd t = true ∧ gd u = true
def pairOk (s t u : D) : Prop := sigB s = true ∧ treeB (els s) t = true ∧ treeB (els s) u = true
def pairBad (s t u : D) (E : Str → Prop) : Prop := (sigB s = false → E "BadSignature") ∧ (sigB s = true → treeB (els s) t = false → E "BadTree") ∧ (sigB s = true → treeB (els s) t = true → treeB (els s) u = false → E "BadOther")
def befB (t u : D) : Bool := ltK (kN t) (kN u)
def sp_tree_before : DSp := fun ds m Q E => match ds with
  | [s, t, u] => pairG s t u ∧ (pairOk s t u → Q (.bl (befB t u)) m) ∧ pairBad s t u fun x => E (.ref (X.c x)) none m
  | _ => False
def t_tree_before : DTS :=
  dSeq (dDrop (dCallF 2 (sp_need_tree X) (dCons (dVar 0) (dCons (dVar 1) dNil)))) <|
  dSeq (dDrop (dCallF 2 (sp_need_other_tree X) (dCons (dVar 0) (dCons (dVar 2) dNil)))) <|
  dRet (dOp ltR (dCallF 1 sp_key_of (dCons (dVar 1) dNil)) (dCallF 1 sp_key_of (dCons (dVar 2) dNil)))
theorem lt_trees {es : List D} {t u : D} {m : AH} {Q : DQ} (v : vld es t = true) (v' : vld es u = true) (hd : dpD t ≤ 60) (q : Q (.bl (befB t u)) m) : ltR (keyT t) (keyT u) m Q := by
  obtain ⟨a1, a2, a3⟩ := keyT_key t v
  obtain ⟨b1, b2, b3⟩ := keyT_key u v'
  obtain ⟨f, _, e⟩ := keyT_hT (vld_hT t v)
  rw [e] at a1 a2 ⊢
  unfold ltR
  exact ⟨_, _, a2, b2, a1, b1, kN_cmp t u v v', by omega, q⟩
theorem v_tree_before {W : DW} {E : DEnds} {m : AH} {s t u : D} (g : pairG s t u) (q : pairOk s t u → E.rt (.bl (befB t u)) m) (r : ∀ δ, pairBad s t u fun x => W (.ref (X.c x)) none δ m) : t_tree_before X W E [some s, some t, some u] m := by
  unfold t_tree_before
  simp only [S, SS', SB, sp_need_tree]
  refine ⟨g.1, g.2.1, fun h1 h2 => ?_, fun h1 h2 => (r _).2.1 h1 h2, fun h1 => (r _).1 h1⟩
  simp only [sp_need_other_tree]
  refine ⟨h1, g.1, g.2.2, fun h3 => ?_, fun h3 => (r _).2.2 h1 h2 h3⟩
  obtain ⟨v, s1, d1⟩ := tree_parts h2
  obtain ⟨v', s2, d2⟩ := tree_parts h3
  simp only [sp_key_of]
  exact ⟨vld_hT t v, g.2.1, by omega, vld_hT u v', g.2.2, by omega, lt_trees v v' d1 (q ⟨h1, h2, h3⟩)⟩
def sp_need_place : DSp := fun ds m Q E => match ds with
  | [t, d] => (∃ es, TreeS es t) ∧ gd d = true ∧ (partOn t d ≠ .non → Q .non m) ∧ (partOn t d = .non → E (.ref (X.c "BadPlace")) none m)
  | _ => False
def t_need_place : DTS :=
  dIfS (dTest (dOp isR (dCallF 2 sp_part_on (dCons (dVar 0) (dCons (dVar 1) dNil))) (dC .non))) (dRaise (X.c "BadPlace")) (dNext)
theorem v_need_place {W : DW} {E : DEnds} {m : AH} {es : List D} {t d : D} (ht : TreeS es t) (g : gd d = true) (q : ∀ δ, partOn t d ≠ .non → E.nx δ m) (r : ∀ δ, partOn t d = .non → W (.ref (X.c "BadPlace")) none δ m) : t_need_place X W E [some t, some d] m := by
  unfold t_need_place
  simp only [S, SS', SB, sp_part_on]
  refine ⟨vld_hT t ht.v, g, ?_⟩
  rcases partOn_cases t d with e | ⟨p, e2, e3⟩
  · rw [e]
    simp only [isR, SB, if_true]
    exact r _ e
  · obtain ⟨v, _, _, _⟩ := part_ok p e3 ht.v ht.g
    have q := q [some t, some d]
    generalize partOn t d = u at v q ⊢
    obtain ⟨us, rfl⟩ := vld_tup v
    simp only [isR, SB, Bool.false_eq_true, if_false]
    exact q fun z => by cases z
/-- exchanged, if all is right -/
def exchD (t d u : D) : D := match d with
  | .tup xs => putD (xs.map num) t u
  | _ => .non
def sp_exchanged : DSp := fun ds m Q E => match ds with
  | [s, t, d, u] => gd s = true ∧ gd t = true ∧ gd d = true ∧ gd u = true ∧ (sigB s = true → treeB (els s) t = true → partOn t d ≠ .non → treeB (els s) u = true → Q (exchD t d u) m) ∧
      (sigB s = false → E (.ref (X.c "BadSignature")) none m) ∧ (sigB s = true → treeB (els s) t = false → E (.ref (X.c "BadTree")) none m) ∧ (sigB s = true → treeB (els s) t = true → partOn t d = .non → E (.ref (X.c "BadPlace")) none m) ∧
      (sigB s = true → treeB (els s) t = true → partOn t d ≠ .non → treeB (els s) u = false → E (.ref (X.c "BadOther")) none m)
  | _ => False
def t_exchanged : DTS :=
  dSeq (dDrop (dCallF 2 (sp_need_tree X) (dCons (dVar 0) (dCons (dVar 1) dNil)))) <|
  dSeq (dDrop (dCallF 2 (sp_need_place X) (dCons (dVar 1) (dCons (dVar 2) dNil)))) <|
  dSeq (dDrop (dCallF 2 (sp_need_other_tree X) (dCons (dVar 0) (dCons (dVar 3) dNil)))) <|
  dRet (dCallF 3 sp_put_at (dCons (dVar 1) (dCons (dVar 2) (dCons (dVar 3) dNil))))
theorem v_exchanged {W : DW} {E : DEnds} {m : AH} {s t d u : D} (g1 : gd s = true) (g2 : gd t = true) (g3 : gd d = true) (g4 : gd u = true) (q : sigB s = true → treeB (els s) t = true → partOn t d ≠ .non → treeB (els s) u = true → E.rt (exchD t d u) m)
    (r1 : ∀ δ, sigB s = false → W (.ref (X.c "BadSignature")) none δ m) (r2 : ∀ δ, sigB s = true → treeB (els s) t = false → W (.ref (X.c "BadTree")) none δ m) (r3 : ∀ δ, sigB s = true → treeB (els s) t = true → partOn t d = .non → W (.ref (X.c "BadPlace")) none δ m)
    (r4 : ∀ δ, sigB s = true → treeB (els s) t = true → partOn t d ≠ .non → treeB (els s) u = false → W (.ref (X.c "BadOther")) none δ m) : t_exchanged X W E [some s, some t, some d, some u] m := by
  unfold t_exchanged
  simp only [S, SS', SB, sp_need_tree]
  refine ⟨g1, g2, fun h1 h2 => ?_, fun h1 h2 => r2 _ h1 h2, fun h1 => r1 _ h1⟩
  have ht := treeS h2 g2
  simp only [sp_need_place]
  refine ⟨⟨_, ht⟩, g3, fun h3 => ?_, fun h3 => r3 _ h1 h2 h3⟩
  simp only [sp_need_other_tree]
  refine ⟨h1, g1, g4, fun h4 => ?_, fun h4 => r4 _ h1 h2 h3 h4⟩
  have q := q h1 h2 h3 h4
  rcases partOn_cases t d with e | ⟨p, rfl, e3⟩
  · exact absurd e h3
  · obtain ⟨_, _, _, l⟩ := part_ok p e3 ht.v ht.g
    have := ht.d
    have := ht.s
    simp only [exchD, plD, pl_num] at q
    simp only [sp_put_at]
    exact ⟨p, _, rfl, e3, vld_hT t ht.v, by omega, by omega, q⟩
end L2.AP
set_option Elab.async false
set_option linter.all false
set_option maxRecDepth 100000
set_option maxHeartbeats 4000000
/-! VT: the readings of the order of trees keep their promises. -/
namespace L2.AP
open PySem PySem.Spec PyProof.Rows
theorem V_joined_key : ∀ ds m Q E, ds.length = 2 → sp_joined_key ds m Q E → t_joined_key (fun cls d _ m' => E cls d m') (bodyEnds Q) (startD ["symbol", "keys", "key"] ds) m := by
  intro ds m Q E hl q
  unfold sp_joined_key at q
  split at q
  · exact v_joined_key q.1 q.2.1 (rt q.2.2)
  · exact q.elim
theorem V_through (F : Str → Option FI) (hF : ∃ info, F "joined_key" = some info ∧ info.ps.length = 2 ∧ info.sp = sp_joined_key) : ∀ ds m Q E, ds.length = 2 → sp_through ds m Q E → t_through F (fun cls d _ m' => E cls d m') (bodyEnds Q) (startD ["tree", "come", "waiting", "done", "part", "is_open", "children", "child"] ds) m := by
  intro ds m Q E hl q
  unfold sp_through at q
  split at q
  · obtain ⟨rfl, ht, g, hs, q⟩ := q
    exact v_through hF ht g hs fun m' l => ⟨_, l, q⟩
  · exact q.elim
theorem V_key_of : ∀ ds m Q E, ds.length = 1 → sp_key_of ds m Q E → t_key_of (fun cls d _ m' => E cls d m') (bodyEnds Q) (startD ["tree"] ds) m := by
  intro ds m Q E hl q
  unfold sp_key_of at q
  split at q
  · exact v_key_of q.1 q.2.1 q.2.2.1 (rt q.2.2.2)
  · exact q.elim
theorem V_need_other_tree (X : Ex) : ∀ ds m Q E, ds.length = 2 → sp_need_other_tree X ds m Q E → t_need_other_tree X (fun cls d _ m' => E cls d m') (bodyEnds Q) (startD ["signature", "other"] ds) m := by
  intro ds m Q E hl q
  unfold sp_need_other_tree at q
  split at q
  · exact v_need_other_tree X q.1 q.2.1 q.2.2.1 (fun δ h => rt (q.2.2.2.1 h)) fun δ h => q.2.2.2.2 h
  · exact q.elim
theorem V_tree_before (X : Ex) : ∀ ds m Q E, ds.length = 3 → sp_tree_before X ds m Q E → t_tree_before X (fun cls d _ m' => E cls d m') (bodyEnds Q) (startD ["signature", "tree", "other"] ds) m := by
  intro ds m Q E hl q
  unfold sp_tree_before at q
  split at q
  · exact v_tree_before X q.1 (fun h => rt (q.2.1 h)) fun δ => q.2.2
  · exact q.elim
theorem V_need_place (X : Ex) : ∀ ds m Q E, ds.length = 2 → sp_need_place X ds m Q E → t_need_place X (fun cls d _ m' => E cls d m') (bodyEnds Q) (startD ["tree", "place"] ds) m := by
  intro ds m Q E hl q
  unfold sp_need_place at q
  split at q
  · obtain ⟨⟨es, ht⟩, g, q, r⟩ := q
    exact v_need_place X ht g (fun δ h => rt (q h)) fun δ h => r h
  · exact q.elim
theorem V_exchanged (X : Ex) : ∀ ds m Q E, ds.length = 4 → sp_exchanged X ds m Q E → t_exchanged X (fun cls d _ m' => E cls d m') (bodyEnds Q) (startD ["signature", "tree", "place", "other"] ds) m := by
  intro ds m Q E hl q
  unfold sp_exchanged at q
  split at q
  · obtain ⟨g1, g2, g3, g4, q, r1, r2, r3, r4⟩ := q
    exact v_exchanged X g1 g2 g3 g4 (fun h1 h2 h3 h4 => rt (q h1 h2 h3 h4)) (fun δ => r1) (fun δ => r2) (fun δ => r3) fun δ => r4
  · exact q.elim
end L2.AP
set_option Elab.async false
set_option linter.all false
set_option maxRecDepth 100000
set_option maxHeartbeats 4000000
/-! W1: words as trees. -/
namespace L2.AP
open PySem PySem.Spec PyProof.Rows
variable (X : Ex)
def c_MOST_LETTERS : D := .int 11
def c_MOST_WORD : D := .int 59
def lettersB : D → Bool
  | .tup xs => decide (1 ≤ xs.length) && decide (xs.length ≤ 11) && xs.all lowB && decide ((xs.map txt).Nodup)
  | _ => false
theorem letters_parts {d : D} (h : lettersB d = true) : ∃ xs, d = .tup xs ∧ 1 ≤ xs.length ∧ xs.length ≤ 11 ∧ (∀ x ∈ xs, lowB x = true) ∧ (xs.map txt).Nodup := by
  cases d with
  | tup xs =>
    simp only [lettersB, Bool.and_eq_true, decide_eq_true_eq, List.all_eq_true] at h
    exact ⟨xs, rfl, h.1.1.1, h.1.1.2, h.1.2, h.2⟩
  | _ => simp [lettersB] at h
def sp_need_letters : DSp := fun ds m Q E => match ds with
  | [d] => gd d = true ∧ (lettersB d = true → Q .non m) ∧ (lettersB d = false → E (.ref (X.c "BadLetters")) none m)
  | _ => False
def t_need_letters : DTS :=
  dSeq (dIfS (dOrT (dNotT (dTruth (dCallF 3 sp_is_row (dCons (dVar 0) (dCons (dC (.int 1)) (dCons (dC c_MOST_LETTERS) dNil)))))) (dNotT (dTruth (dCall allR (dCons (dLc false (diAny (dVar 0)) (dgName 1) dYes (dCallF 1 sp_is_low_name (dCons (dVar 1) dNil)) [1]) dNil))))) (dRaise (X.c "BadLetters")) (dNext)) <|
  dIfS (dTest (dOp ltR (dLenSet (dVar 0)) (dCall lenR (dCons (dVar 0) dNil)))) (dRaise (X.c "BadLetters")) (dNext)
theorem v_need_letters {W : DW} {E : DEnds} {m : AH} {d : D} (g : gd d = true) (q : ∀ δ, lettersB d = true → E.nx δ m) (r : ∀ δ, lettersB d = false → W (.ref (X.c "BadLetters")) none δ m) : t_need_letters X W E [some d, none] m := by
  have r := r [some d, none]
  have q := q [some d, none]
  unfold t_need_letters
  simp only [S, SS', SL, SB, sp_is_row, g, c_MOST_LETTERS, TR]
  cases h1 : rowB 1 11 d with
  | false =>
    simp only [Bool.not_false, if_true]
    refine r ?_
    cases d with
    | tup xs =>
      simp only [rowB, Bool.and_eq_false_iff, decide_eq_false_iff_not] at h1
      simp only [lettersB]
      by_cases a : 1 ≤ xs.length
      · rw [decide_eq_false (show ¬ xs.length ≤ 11 by omega)]
        simp
      · rw [decide_eq_false a]
        simp
    | _ => rfl
  | true =>
    simp only [Bool.not_true, Bool.false_eq_true, if_false]
    cases d with
    | tup xs =>
      simp only [rowB, Bool.and_eq_true, decide_eq_true_eq] at h1
      simp only [gd] at g
      have gm := gds_mem g
      refine ⟨⟨_, rfl⟩, lc_map xs (fun e => .bl (lowB e)) (fun _ _ => rfl) (two_le (by omega)) (fun x hx m2 C _ hc => ?_) ?_⟩
      · simp only [S, SS', SB, wipeD, List.set, sp_is_low_name, gm x hx]
        exact hc
      · simp only [allR]
        refine ⟨xs.map lowB, by simp [asL, Function.comp_def], ?_⟩
        have e2 : (xs.map lowB).all id = xs.all lowB := by rw [List.all_map]; rfl
        rw [e2]
        simp only [TR]
        cases h2 : xs.all lowB with
        | false =>
          simp only [Bool.not_false, if_true]
          exact r (by simp only [lettersB, h2]; simp)
        | true =>
          simp only [Bool.not_true, Bool.false_eq_true, if_false]
          have al := List.all_eq_true.mp h2
          have ex : xs = (xs.map txt).map D.str := by
            rw [List.map_map]
            conv => lhs; rw [← List.map_id xs]
            exact List.map_congr_left fun x hx => low_str (al x hx)
          refine .inl ⟨xs.map txt, congrArg some ex, by rw [List.length_map]; unfold scanBound; omega, ?_⟩
          simp only [lenR, VL, SB, ltR]
          have nd := met_nodup _ (xs.map txt) rfl
          have le := @met_len (xs.map txt)
          rw [List.length_map] at nd le
          by_cases h3 : (xs.map txt).Nodup
          · have h4 := nd.mpr h3
            rw [if_neg (by simp; omega)]
            exact q (by simp only [lettersB, h2, decide_eq_true h3, Bool.and_true, Bool.and_eq_true, decide_eq_true_eq]; omega)
          · have h4 : ¬ (met (xs.map txt)).length = xs.length := fun z => h3 (nd.mp z)
            rw [if_pos (by simp; omega)]
            exact r (by simp only [lettersB, decide_eq_false h3]; simp)
    | _ => simp [rowB] at h1
/-! ### words -/
def wordB (n : Nat) : D → Bool
  | .tup xs => decide (xs.length ≤ 59) && xs.all (withinB 0 ((n : Int) - 1))
  | _ => false
def sp_is_word : DSp := fun ds m Q _ => match ds with
  | [.tup ls, d] => gd d = true ∧ Q (.bl (wordB ls.length d)) m
  | _ => False
def t_is_word : DTS :=
  dRet (dAnd (dCallF 3 sp_is_row (dCons (dVar 1) (dCons (dC (.int 0)) (dCons (dC c_MOST_WORD) dNil)))) (dCall allR (dCons (dLc false (diAny (dVar 1)) (dgName 2) dYes (dCallF 3 sp_within (dCons (dVar 2) (dCons (dC (.int 0)) (dCons (dOp subR (dCall lenR (dCons (dVar 0) dNil)) (dC (.int 1))) dNil)))) [2]) dNil)))
theorem v_is_word {W : DW} {E : DEnds} {m : AH} {ls : List D} {d : D} (g : gd d = true) (q : E.rt (.bl (wordB ls.length d)) m) : t_is_word W E [some (.tup ls), some d, none] m := by
  have base : ∀ b, wordB ls.length d = b → E.rt (.bl b) m := fun b e => by rw [← e]; exact q
  unfold t_is_word
  simp only [S, SS', SL, SB, sp_is_row, g, c_MOST_WORD]
  cases h1 : rowB 0 59 d with
  | false =>
    simp only [Bool.false_eq_true, if_false]
    refine base _ ?_
    cases d with
    | tup xs =>
      simp only [rowB, Bool.and_eq_false_iff, decide_eq_false_iff_not] at h1
      simp only [wordB]
      rw [decide_eq_false (by omega)]
      rfl
    | _ => rfl
  | true =>
    simp only [if_true]
    cases d with
    | tup xs =>
      simp only [rowB, Bool.and_eq_true, decide_eq_true_eq] at h1
      simp only [gd] at g
      have gm := gds_mem g
      refine ⟨⟨_, rfl⟩, lc_map xs (fun e => .bl (withinB 0 ((ls.length : Int) - 1) e)) (fun _ _ => rfl) (two_le (by omega)) (fun x hx m2 C _ hc => ?_) ?_⟩
      · simp only [S, SS', SB, wipeD, List.set, lenR, VL, subR, sp_within, gm x hx]
        exact hc
      · simp only [allR]
        refine ⟨xs.map (withinB 0 ((ls.length : Int) - 1)), by simp [asL, Function.comp_def], base _ ?_⟩
        simp only [wordB, List.all_map, Function.comp_def, id]
        rw [decide_eq_true (by omega)]
        rfl
    | _ => simp [rowB] at h1
def sp_need_word : DSp := fun ds m Q E => match ds with
  | [.tup ls, d] => gd d = true ∧ (wordB ls.length d = true → Q .non m) ∧ (wordB ls.length d = false → E (.ref (X.c "BadWord")) none m)
  | _ => False
def t_need_word : DTS :=
  dIfS (dNotT (dTruth (dCallF 2 sp_is_word (dCons (dVar 0) (dCons (dVar 1) dNil))))) (dRaise (X.c "BadWord")) (dNext)
theorem v_need_word {W : DW} {E : DEnds} {m : AH} {ls : List D} {d : D} (g : gd d = true) (q : ∀ δ, wordB ls.length d = true → E.nx δ m) (r : ∀ δ, wordB ls.length d = false → W (.ref (X.c "BadWord")) none δ m) : t_need_word X W E [some (.tup ls), some d] m := by
  unfold t_need_word
  simp only [S, SS', SB, sp_is_word, TR]
  refine ⟨g, ?_⟩
  cases c : wordB ls.length d with
  | true => simpa using q _ c
  | false => simpa using r _ c
/-! ### the end's name -/
def nmE : Nat → Str
  | 0 => "end"
  | k + 1 => "end" ++ Str.ofString (toString (k : Int))
theorem nmE_ok : ∀ j, j < 12 → nameOk (nmE j) = true ∧ gd1 (nmE j) = true := by
  have : ∀ j ∈ List.range 12, nameOk (nmE j) = true ∧ gd1 (nmE j) = true := by decide +kernel
  exact fun j hj => this j (List.mem_range.mpr hj)
theorem nmE_nd : ((List.range 12).map nmE).Nodup := by decide +kernel
/-- the first name that is no letter -/
def EndOf (ls : List Str) (e : Str) : Prop := ∃ j, j < 12 ∧ e = nmE j ∧ e ∉ ls ∧ ∀ i, i < j → nmE i ∈ ls
theorem EndOf.one {ls : List Str} {e e' : Str} (h : EndOf ls e) (h' : EndOf ls e') : e = e' := by
  obtain ⟨j, _, rfl, h2, h3⟩ := h
  obtain ⟨k, _, rfl, k2, k3⟩ := h'
  rcases Nat.lt_trichotomy j k with c | c | c
  · exact absurd (k3 j c) h2
  · rw [c]
  · exact absurd (h3 k c) k2
theorem EndOf.ok {ls : List Str} {e : Str} (h : EndOf ls e) : nameOk e = true ∧ gd1 e = true ∧ e ∉ ls := by
  obtain ⟨j, h1, rfl, h2, _⟩ := h
  exact ⟨(nmE_ok j h1).1, (nmE_ok j h1).2, h2⟩
open Classical in
noncomputable def endN (ls : List Str) : Str := if h : ∃ e, EndOf ls e then h.choose else Str.empty
theorem endN_eq {ls : List Str} {e : Str} (h : EndOf ls e) : endN ls = e := by
  unfold endN
  rw [dif_pos ⟨e, h⟩]
  exact (Exists.choose_spec (⟨e, h⟩ : ∃ e, EndOf ls e)).one h
/-- not all names can be letters -/
theorem end_room {ls : List Str} (hl : ls.length ≤ 11) {j : Nat} (h : ∀ i, i < j → nmE i ∈ ls) : j ≤ 11 := by
  apply Classical.byContradiction
  intro c
  have := nodup_le ((List.range 12).map nmE) ls nmE_nd fun x hx => by
    obtain ⟨i, hi, rfl⟩ := List.mem_map.mp hx
    exact h i (by have := List.mem_range.mp hi; omega)
  rw [List.length_map, List.length_range] at this
  omega
theorem strs_lays : ∀ {ls : List D}, gds ls = true → lays ls = true := fun h => gds_lays _ h
theorem any_str {ls : List D} (h : ∀ x ∈ ls, lowB x = true) (e : Str) : (ls.any fun z => eqD z (.str e)) = decide (e ∈ ls.map txt) := by
  rw [Bool.eq_iff_iff, List.any_eq_true, decide_eq_true_eq, List.mem_map]
  constructor
  · rintro ⟨x, hx, hz⟩
    rw [low_str (h x hx)] at hz
    exact ⟨x, hx, by simpa [eqD] using hz⟩
  · rintro ⟨x, hx, rfl⟩
    refine ⟨x, hx, ?_⟩
    conv => lhs; arg 1; rw [low_str (h x hx)]
    simp [eqD]
def sp_end_name : DSp := fun ds m Q _ => match ds with
  | [.tup ls] => lettersB (.tup ls) = true ∧ gds ls = true ∧ (EndOf (ls.map txt) (endN (ls.map txt)) → Q (.str (endN (ls.map txt))) m)
  | _ => False
def t_end_name : DTS :=
  dSeq (dAsg (dTup (dCons (dC (.str "end")) (dCons (dC (.int 0)) dNil))) (dgTup 2 (dgCons (dgName 1) (dgCons (dgName 2) dgNil)))) <|
  dSeq (dWhile (dTest (dOp (inR false) (dVar 1) (dVar 0))) (dPar 1 2 (dCons (dOp addR (dC (.str "end")) (dCall strR (dCons (dVar 2) dNil))) (dCons (dOp addR (dVar 2) (dC (.int 1))) dNil)))) <|
  dRet (dVar 1)
theorem nmE_str : ∀ j, j < 12 → (nmE j).length ≤ 100 ∧ PyData.strOk (nmE j) = true ∧ ((Str.ofString (toString (j : Int))).length ≤ 10) ∧ (j : Int).natAbs.log2 < 1920 := by
  have : ∀ j ∈ List.range 12, (nmE j).length ≤ 100 ∧ PyData.strOk (nmE j) = true ∧ ((Str.ofString (toString (j : Int))).length ≤ 10) ∧ (j : Int).natAbs.log2 < 1920 := by decide +kernel
  exact fun j hj => this j (List.mem_range.mpr hj)
theorem inT {ls : List D} {e : Str} {m : AH} {Q : DQ} (hl : ∀ x ∈ ls, lowB x = true) (g : gds ls = true) (he : PyData.strOk e = true) (q : Q (.bl (decide (e ∈ ls.map txt))) m) : inR false (.str e) (.tup ls) m Q := by
  unfold inR
  refine ⟨ls, .inr rfl, gds_lays _ g, he, by simp [val, dep], ?_⟩
  have := any_str hl e
  simp only [val]
  rw [this]
  simpa using q
theorem v_end_name {W : DW} {E : DEnds} {m : AH} {ls : List D} (h : lettersB (.tup ls) = true) (g : gds ls = true) (q : EndOf (ls.map txt) (endN (ls.map txt)) → E.rt (.str (endN (ls.map txt))) m) : t_end_name W E [some (.tup ls), none, none] m := by
  have big : (1000000 : Nat) ≤ sizeLine := sl0
  obtain ⟨_, e, l1, l2, lo, nd⟩ := letters_parts h
  cases e
  unfold t_end_name
  simp only [S, SS', SB]
  refine ⟨by omega, fun k δ m' => ∃ j : Nat, m = m' ∧ δ = [some (.tup ls), some (.str (nmE j)), some (.int (j : Int))] ∧ (∀ i, i < j → nmE i ∈ ls.map txt) ∧ k = 12 - j, ⟨12, 0, rfl, rfl, fun i h => by omega, rfl⟩, ?_⟩
  rintro k δ m' ⟨j, rfl, rfl, hj, rfl⟩
  have j11 := end_room (by rw [List.length_map]; exact l2) hj
  obtain ⟨s1, s2, s3, s4⟩ := nmE_str j (by omega)
  simp only [S, SS', SB]
  refine inT lo g s2 ⟨_, rfl, ?_⟩
  by_cases c : nmE j ∈ ls.map txt
  · rw [decide_eq_true c, if_pos rfl]
    simp only [strR, addR]
    have e3 : ("end" : Str).length = 3 := by decide +kernel
    refine ⟨s4, by rw [e3]; omega, ?_⟩
    refine ⟨12 - (j + 1), _, _, by omega, LeL.refl _, Le.refl _, j + 1, rfl, rfl, fun i hi => ?_, rfl⟩
    by_cases z : i = j
    · rw [z]; exact c
    · exact hj i (by omega)
  · rw [decide_eq_false c, if_neg (by decide)]
    have ee : EndOf (ls.map txt) (nmE j) := ⟨j, by omega, rfl, c, hj⟩
    have e2 := endN_eq ee
    rw [e2] at q
    exact q ee
end L2.AP
set_option Elab.async false
set_option linter.all false
set_option maxRecDepth 100000
set_option maxHeartbeats 4000000
/-! W2: the signature of words, words and trees. -/
namespace L2.AP
open PySem PySem.Spec PyProof.Rows
variable (X : Ex)
def sigW (ls : List D) (e : Str) : D := .tup ((ls.map fun x => .tup [x, .int 1]) ++ [.tup [.str e, .int 0]])
theorem sigW_ok {ls : List D} {e : Str} (h : lettersB (.tup ls) = true) (g : gds ls = true) (he : EndOf (ls.map txt) e) : sigB (sigW ls e) = true ∧ gd (sigW ls e) = true := by
  obtain ⟨_, e1, l1, l2, lo, nd⟩ := letters_parts h
  cases e1
  obtain ⟨o1, o2, o3⟩ := he.ok
  constructor
  · simp only [sigW, sigB, Bool.and_eq_true, decide_eq_true_eq, List.all_eq_true, List.length_append, List.length_map, List.length_cons, List.length_nil]
    refine ⟨⟨⟨⟨⟨by omega, by omega⟩, fun x hx => ?_⟩, fun x hx => ?_⟩, ?_⟩, ?_⟩
    · rcases List.mem_append.mp hx with z | z
      · obtain ⟨y, _, rfl⟩ := List.mem_map.mp z
        rfl
      · rw [List.mem_singleton.mp z]
        rfl
    · rcases List.mem_append.mp hx with z | z
      · obtain ⟨y, hy, rfl⟩ := List.mem_map.mp z
        simp only [entB, fst, snd, lo y hy]
        rfl
      · rw [List.mem_singleton.mp z]
        simp only [entB, fst, snd, lowB, o1]
        rfl
    · rw [List.map_append, List.map_map]
      have em : ls.map ((fun e => txt (fst e)) ∘ fun x => D.tup [x, .int 1]) = ls.map txt := List.map_congr_left fun x _ => rfl
      rw [em, List.nodup_append]
      refine ⟨nd, by simp, fun a ha b hb => ?_⟩
      rw [List.map_singleton, List.mem_singleton] at hb
      rw [hb]
      rintro rfl
      exact o3 ha
    · exact ⟨_, List.mem_append_right _ (List.mem_singleton.mpr rfl), rfl⟩
  · simp only [sigW, gd]
    refine gds_of fun x hx => ?_
    rcases List.mem_append.mp hx with z | z
    · obtain ⟨y, hy, rfl⟩ := List.mem_map.mp z
      simp [gd, gds, gds_mem g y hy]
    · rw [List.mem_singleton.mp z]
      simp [gd, gds, o2]
def sp_signature_of : DSp := fun ds m Q _ => match ds with
  | [.tup ls] => lettersB (.tup ls) = true ∧ gds ls = true ∧ (EndOf (ls.map txt) (endN (ls.map txt)) → Q (sigW ls (endN (ls.map txt))) m)
  | _ => False
def t_signature_of : DTS :=
  dRet (dOp addR (dCall tupleR (dCons (dLc false (diAny (dVar 0)) (dgName 1) dYes (dTup (dCons (dVar 1) (dCons (dC (.int 1)) dNil))) [1]) dNil)) (dTup (dCons (dTup (dCons (dCallF 1 sp_end_name (dCons (dVar 0) dNil)) (dCons (dC (.int 0)) dNil))) dNil)))
theorem v_signature_of {W : DW} {E : DEnds} {m : AH} {ls : List D} (h : lettersB (.tup ls) = true) (g : gds ls = true) (q : EndOf (ls.map txt) (endN (ls.map txt)) → E.rt (sigW ls (endN (ls.map txt))) m) : t_signature_of W E [some (.tup ls), none] m := by
  have big : (1000000 : Nat) ≤ sizeLine := sl0
  obtain ⟨_, e1, l1, l2, lo, nd⟩ := letters_parts h
  cases e1
  unfold t_signature_of
  simp only [S, SS', SL, SB]
  refine ⟨⟨_, rfl⟩, lc_map ls (fun x => .tup [x, .int 1]) (fun _ _ => rfl) (by omega) (fun x hx m2 C _ hc => ?_) ⟨_, rfl, ?_⟩⟩
  · simp only [S, SS', SB, wipeD, List.set]
    exact ⟨by omega, hc⟩
  · simp only [sp_end_name]
    refine ⟨h, g, fun he => ⟨by omega, by omega, ?_⟩⟩
    simp only [addR, List.length_map, SB]
    exact ⟨by omega, q he⟩
def sp_word_signature : DSp := fun ds m Q E => match ds with
  | [d] => gd d = true ∧ (lettersB d = true → EndOf ((els d).map txt) (endN ((els d).map txt)) → Q (sigW (els d) (endN ((els d).map txt))) m) ∧ (lettersB d = false → E (.ref (X.c "BadLetters")) none m)
  | _ => False
def t_word_signature : DTS :=
  dSeq (dDrop (dCallF 1 (sp_need_letters X) (dCons (dVar 0) dNil))) <|
  dRet (dCallF 1 sp_signature_of (dCons (dVar 0) dNil))
theorem v_word_signature {W : DW} {E : DEnds} {m : AH} {d : D} (g : gd d = true) (q : lettersB d = true → EndOf ((els d).map txt) (endN ((els d).map txt)) → E.rt (sigW (els d) (endN ((els d).map txt))) m) (r : ∀ δ, lettersB d = false → W (.ref (X.c "BadLetters")) none δ m) : t_word_signature X W E [some d] m := by
  unfold t_word_signature
  simp only [S, SS', SB, sp_need_letters]
  refine ⟨g, fun h => ?_, r _⟩
  obtain ⟨ls, rfl, _⟩ := letters_parts h
  simp only [sp_signature_of]
  exact ⟨h, by simpa [gd] using g, q h⟩
/-! ### words and trees -/
def wordT (n : Nat) (ws : List D) : D := ws.foldr (fun a t => .tup [a, t]) (.tup [.int (n : Int)])
def sp_tree_for : DSp := fun ds m Q _ => match ds with
  | [.tup ls, .tup ws] => Q (wordT ls.length ws) m
  | _ => False
def t_tree_for : DTS :=
  dSeq (dAsg (dTup (dCons (dCall lenR (dCons (dVar 0) dNil)) dNil)) (dgName 2)) <|
  dSeq (dFor (diAny (dRevG false (dVar 1))) (dgName 3) (dAsg (dTup (dCons (dVar 3) (dCons (dVar 2) dNil))) (dgName 2))) <|
  dRet (dVar 2)
theorem v_tree_for {W : DW} {E : DEnds} {m : AH} {ls ws : List D} (q : E.rt (wordT ls.length ws) m) : t_tree_for W E [some (.tup ls), some (.tup ws), none, none] m := by
  have big : (1000000 : Nat) ≤ sizeLine := sl0
  unfold t_tree_for
  simp only [S, SS', SL, SB, lenR, VL]
  refine ⟨by omega, .inl ⟨_, rfl, ⟨_, rfl⟩, ?_⟩⟩
  simp only [revC, Bool.false_eq_true, if_false]
  refine for_fix ws.reverse (fun i δ m' => ∃ x3, m = m' ∧ δ = [some (.tup ls), some (.tup ws), some ((ws.reverse.take i).foldl (fun t a => .tup [a, t]) (.tup [.int (ls.length : Int)])), x3]) (fun _ _ _ _ => rfl) ⟨_, rfl, rfl⟩ ?_ ?_
  · rintro i k x δ m' hx hi hl ⟨x3, rfl, rfl⟩
    have et : ws.reverse.take (i + 1) = ws.reverse.take i ++ [x] := by rw [List.take_succ, hx]; rfl
    simp only [S, SS', SB, List.set]
    refine ⟨by omega, fN_intro hi hl ⟨some x, rfl, ?_⟩⟩
    rw [et, List.foldl_append]
    rfl
  · rintro δ m' ⟨x3, rfl, rfl⟩
    simp only [S, SS', SB]
    rw [List.take_of_length_le (Nat.le_refl _), List.foldl_reverse]
    exact q
def sp_word_for : DSp := fun ds m Q _ => match ds with
  | [t] => ∃ n ws, t = wordT n ws ∧ ws.length ≤ 1000 ∧ Q (.tup ws) m
  | _ => False
def t_word_for : DTS :=
  dSeq (dAsg (dLst true dNil) (dgName 1)) <|
  dSeq (dWhile (dTest (dOp gtR (dCall lenR (dCons (dVar 0) dNil)) (dC (.int 1)))) (dSeq (dDrop (dBM appendR (dVar 1) (dCons (dOp ixR (dVar 0) (dC (.int 0))) dNil))) <|
      dAsg (dOp ixR (dVar 0) (dC (.int 1))) (dgName 0))) <|
  dRet (dCall tupleR (dCons (dVar 1) dNil))
theorem v_word_for {W : DW} {E : DEnds} {m : AH} {n : Nat} {ws : List D} (hl : ws.length ≤ 1000) (q : ∀ m', Le m m' → E.rt (.tup ws) m') : t_word_for W E [some (wordT n ws), none] m := by
  have big : (1000000 : Nat) ≤ sizeLine := sl0
  unfold t_word_for
  simp only [S, SS', SB]
  refine ⟨by omega, fun p hp => ?_⟩
  refine ⟨fun k δ m' => ∃ (acc vs : List D), δ = [some (wordT n vs), some (.ref p)] ∧ m' = put m p (.lst acc) ∧ acc ++ vs = ws ∧ k = vs.length, ⟨_, [], ws, rfl, rfl, rfl, rfl⟩, ?_⟩
  rintro k δ m' ⟨acc, vs, rfl, rfl, e, rfl⟩
  have le := congrArg List.length e
  rw [List.length_append] at le
  cases vs with
  | nil =>
    rw [List.append_nil] at e
    subst e
    simp only [S, SS', SB, wordT, List.foldr_nil, lenR, VL, ordR]
    refine ⟨_, asQp put_same, q _ (Le.new hp)⟩
  | cons v vs =>
    have ew : wordT n (v :: vs) = .tup [v, wordT n vs] := rfl
    rw [List.length_cons] at le
    rw [ew]
    simp only [S, SS', SB, lenR, VL, ordR]
    refine ⟨⟨_, asLp⟩, ixT atL0 ⟨acc, put_same, by omega, ixT atL1 ?_⟩⟩
    rw [put_put]
    exact ⟨vs.length, _, _, Nat.lt_succ_self _, LeL.refl _, Le.refl _, acc ++ [v], vs, rfl, rfl, by rw [List.append_assoc]; exact e, rfl⟩
/-- a word's tree is right -/
theorem wordT_ok {ls : List D} {e : Str} : ∀ {ws : List D}, (∀ w ∈ ws, withinB 0 ((ls.length : Int) - 1) w = true) → vld (els (sigW ls e)) (wordT ls.length ws) = true ∧ gd (wordT ls.length ws) = true ∧ szD (wordT ls.length ws) = ws.length + 1 ∧ dpD (wordT ls.length ws) = ws.length + 1
  | [], _ => by
    have a0 : arity (els (sigW ls e)) ls.length = 0 := by
      simp only [arity, sigW, els]
      rw [List.getD_eq_getElem?_getD, List.getElem?_append_right (by simp)]
      simp [snd, num]
    refine ⟨?_, rfl, rfl, rfl⟩
    exact vld_of (cs := []) (by omega) (by simp [sigW, els]; omega) (by rw [Int.toNat_natCast, a0]; rfl) fun c hc => by cases hc
  | w :: ws, h => by
    obtain ⟨v, g, s, d⟩ := wordT_ok fun x hx => h x (List.mem_cons_of_mem _ hx)
    obtain ⟨ew, w0, w1⟩ := within_int (h w List.mem_cons_self)
    generalize num w = i at ew w0 w1
    subst ew
    have hi : i.toNat < ls.length := by omega
    have a1 : arity (els (sigW ls e)) i.toNat = 1 := by
      simp only [arity, sigW, els]
      rw [List.getD_eq_getElem?_getD, List.getElem?_append_left (by simpa using hi), List.getElem?_map, List.getElem?_eq_getElem hi]
      simp [snd, num]
    have et : wordT ls.length (.int i :: ws) = .tup [.int i, wordT ls.length ws] := rfl
    rw [et]
    refine ⟨vld_of w0 (by simp [sigW, els]; omega) (by rw [a1]; rfl) fun c hc => by rw [List.mem_singleton.mp hc]; exact v, by simp [gd, gds, g], ?_, ?_⟩
    · simp only [szD, szT, szs, s, List.length_cons]; omega
    · simp only [dpD, dpT, dps, d, List.length_cons]; omega
/-- a right tree is a word's -/
theorem word_tree {ls : List D} {e : Str} : ∀ (n : Nat) (t : D), szD t ≤ n → vld (els (sigW ls e)) t = true → ∃ ws, t = wordT ls.length ws ∧ (∀ w ∈ ws, withinB 0 ((ls.length : Int) - 1) w = true) ∧ dpD t = ws.length + 1
  | 0, t, h, _ => by have := sz_pos t; omega
  | n + 1, t, h, v => by
    obtain ⟨f, cs, rfl, f0, f1, fa, fv⟩ := vld_iff v
    have le : (els (sigW ls e)).length = ls.length + 1 := by simp [sigW, els]
    rw [le] at f1
    by_cases c : f.toNat < ls.length
    · have a1 : arity (els (sigW ls e)) f.toNat = 1 := by
        simp only [arity, sigW, els]
        rw [List.getD_eq_getElem?_getD, List.getElem?_append_left (by simpa using c), List.getElem?_map, List.getElem?_eq_getElem c]
        simp [snd, num]
      rw [a1] at fa
      match cs, fa with
      | [t], _ =>
        simp only [szD, szT, szs] at h
        obtain ⟨ws, e1, e2, e3⟩ := word_tree n t (by omega) (fv t List.mem_cons_self)
        refine ⟨.int f :: ws, by rw [e1]; rfl, fun w hw => ?_, ?_⟩
        · rcases List.mem_cons.mp hw with rfl | hw
          · simp only [withinB, Bool.and_eq_true, decide_eq_true_eq]
            omega
          · exact e2 w hw
        · simp only [dpD, dpT, dps, e3, List.length_cons]; omega
      | [], h => exact absurd h (by simp)
      | _ :: _ :: _, h => exact absurd h (by simp; omega)
    · have ef : f.toNat = ls.length := by omega
      have a0 : arity (els (sigW ls e)) f.toNat = 0 := by
        rw [ef]
        simp only [arity, sigW, els]
        rw [List.getD_eq_getElem?_getD, List.getElem?_append_right (by simp)]
        simp [snd, num]
      rw [a0] at fa
      match cs, fa with
      | [], _ =>
        have e0 : f = (ls.length : Int) := by omega
        subst e0
        exact ⟨[], rfl, (fun w hw => by cases hw), rfl⟩
      | _ :: _, h => exact absurd h (by simp; omega)
def sp_tree_of_word : DSp := fun ds m Q E => match ds with
  | [d, x] => gd d = true ∧ gd x = true ∧ (lettersB d = true → wordB (els d).length x = true → Q (wordT (els d).length (els x)) m) ∧ (lettersB d = false → E (.ref (X.c "BadLetters")) none m) ∧ (lettersB d = true → wordB (els d).length x = false → E (.ref (X.c "BadWord")) none m)
  | _ => False
def t_tree_of_word : DTS :=
  dSeq (dDrop (dCallF 1 (sp_need_letters X) (dCons (dVar 0) dNil))) <|
  dSeq (dDrop (dCallF 2 (sp_need_word X) (dCons (dVar 0) (dCons (dVar 1) dNil)))) <|
  dRet (dCallF 2 sp_tree_for (dCons (dVar 0) (dCons (dVar 1) dNil)))
theorem word_els {n : Nat} {x : D} (h : wordB n x = true) : ∃ ws, x = .tup ws ∧ ws.length ≤ 59 ∧ ∀ w ∈ ws, withinB 0 ((n : Int) - 1) w = true := by
  cases x with
  | tup ws =>
    simp only [wordB, Bool.and_eq_true, decide_eq_true_eq, List.all_eq_true] at h
    exact ⟨ws, rfl, h⟩
  | _ => simp [wordB] at h
theorem v_tree_of_word {W : DW} {E : DEnds} {m : AH} {d x : D} (g : gd d = true) (g2 : gd x = true) (q : lettersB d = true → wordB (els d).length x = true → E.rt (wordT (els d).length (els x)) m) (r1 : ∀ δ, lettersB d = false → W (.ref (X.c "BadLetters")) none δ m) (r2 : ∀ δ, lettersB d = true → wordB (els d).length x = false → W (.ref (X.c "BadWord")) none δ m) : t_tree_of_word X W E [some d, some x] m := by
  unfold t_tree_of_word
  simp only [S, SS', SB, sp_need_letters]
  refine ⟨g, fun h => ?_, r1 _⟩
  obtain ⟨ls, rfl, _⟩ := letters_parts h
  simp only [sp_need_word]
  refine ⟨g2, fun h2 => ?_, fun h2 => r2 _ h h2⟩
  obtain ⟨ws, rfl, _⟩ := word_els h2
  simp only [sp_tree_for]
  exact q h h2
def sp_word_of_tree : DSp := fun ds m Q E => match ds with
  | [d, t] => gd d = true ∧ gd t = true ∧ (lettersB d = true → ∀ ws, t = wordT (els d).length ws → (∀ w ∈ ws, withinB 0 (((els d).length : Int) - 1) w = true) → ws.length ≤ 59 → Q (.tup ws) m) ∧ (lettersB d = false → E (.ref (X.c "BadLetters")) none m) ∧
      (lettersB d = true → treeB (els (sigW (els d) (endN ((els d).map txt)))) t = false → E (.ref (X.c "BadTree")) none m)
  | _ => False
def t_word_of_tree : DTS :=
  dSeq (dDrop (dCallF 1 (sp_need_letters X) (dCons (dVar 0) dNil))) <|
  dSeq (dIfS (dNotT (dTruth (dCallF 2 sp_is_small_tree (dCons (dCallF 1 sp_signature_of (dCons (dVar 0) dNil)) (dCons (dVar 1) dNil))))) (dRaise (X.c "BadTree")) (dNext)) <|
  dRet (dCallF 1 sp_word_for (dCons (dVar 1) dNil))
theorem v_word_of_tree {W : DW} {E : DEnds} {m : AH} {d t : D} (g : gd d = true) (g2 : gd t = true) (q : lettersB d = true → ∀ ws, t = wordT (els d).length ws → (∀ w ∈ ws, withinB 0 (((els d).length : Int) - 1) w = true) → ws.length ≤ 59 → E.rt (.tup ws) m) (r1 : ∀ δ, lettersB d = false → W (.ref (X.c "BadLetters")) none δ m)
    (r2 : ∀ δ, lettersB d = true → treeB (els (sigW (els d) (endN ((els d).map txt)))) t = false → W (.ref (X.c "BadTree")) none δ m) : t_word_of_tree X W E [some d, some t] m := by
  unfold t_word_of_tree
  simp only [S, SS', SB, sp_need_letters]
  refine ⟨g, fun h => ?_, r1 _⟩
  obtain ⟨ls, rfl, _⟩ := letters_parts h
  have gl : gds ls = true := by simpa [gd] using g
  simp only [sp_signature_of]
  refine ⟨h, gl, fun he => ?_⟩
  obtain ⟨s1, s2⟩ := sigW_ok h gl he
  have r2 := r2 [some (.tup ls), some t] h
  simp only [els] at r2
  generalize endN (ls.map txt) = e at he s1 s2 r2
  have es : sigW ls e = .tup (els (sigW ls e)) := rfl
  rw [es] at s1 s2 ⊢
  simp only [sp_is_small_tree, TR]
  refine ⟨s1, by simpa [gd] using s2, g2, ?_⟩
  cases c : treeB (els (sigW ls e)) t with
  | false => simpa using r2 c
  | true =>
    simp only [Bool.not_true, Bool.false_eq_true, if_false, SB, sp_word_for]
    obtain ⟨v, _, dd⟩ := tree_parts c
    obtain ⟨ws, e1, e2, e3⟩ := word_tree (ls := ls) _ t (Nat.le_refl _) v
    exact ⟨_, ws, e1, by omega, q h ws e1 e2 (by omega)⟩
end L2.AP
set_option Elab.async false
set_option linter.all false
set_option maxRecDepth 100000
set_option maxHeartbeats 4000000
/-! VW: the readings of words keep their promises. -/
namespace L2.AP
open PySem PySem.Spec PyProof.Rows
theorem V_need_letters (X : Ex) : ∀ ds m Q E, ds.length = 1 → sp_need_letters X ds m Q E → t_need_letters X (fun cls d _ m' => E cls d m') (bodyEnds Q) (startD ["letters", "name"] ds) m := by
  intro ds m Q E hl q
  unfold sp_need_letters at q
  split at q
  · exact v_need_letters X q.1 (fun δ h => rt (q.2.1 h)) fun δ => q.2.2
  · exact q.elim
theorem V_is_word : ∀ ds m Q E, ds.length = 2 → sp_is_word ds m Q E → t_is_word (fun cls d _ m' => E cls d m') (bodyEnds Q) (startD ["letters", "thing", "a"] ds) m := by
  intro ds m Q E hl q
  unfold sp_is_word at q
  split at q
  · exact v_is_word q.1 (rt q.2)
  · exact q.elim
theorem V_need_word (X : Ex) : ∀ ds m Q E, ds.length = 2 → sp_need_word X ds m Q E → t_need_word X (fun cls d _ m' => E cls d m') (bodyEnds Q) (startD ["letters", "word"] ds) m := by
  intro ds m Q E hl q
  unfold sp_need_word at q
  split at q
  · exact v_need_word X q.1 (fun δ h => rt (q.2.1 h)) fun δ => q.2.2
  · exact q.elim
theorem V_end_name : ∀ ds m Q E, ds.length = 1 → sp_end_name ds m Q E → t_end_name (fun cls d _ m' => E cls d m') (bodyEnds Q) (startD ["letters", "name", "k"] ds) m := by
  intro ds m Q E hl q
  unfold sp_end_name at q
  split at q
  · exact v_end_name q.1 q.2.1 fun h => rt (q.2.2 h)
  · exact q.elim
theorem V_signature_of : ∀ ds m Q E, ds.length = 1 → sp_signature_of ds m Q E → t_signature_of (fun cls d _ m' => E cls d m') (bodyEnds Q) (startD ["letters", "name"] ds) m := by
  intro ds m Q E hl q
  unfold sp_signature_of at q
  split at q
  · exact v_signature_of q.1 q.2.1 fun h => rt (q.2.2 h)
  · exact q.elim
theorem V_word_signature (X : Ex) : ∀ ds m Q E, ds.length = 1 → sp_word_signature X ds m Q E → t_word_signature X (fun cls d _ m' => E cls d m') (bodyEnds Q) (startD ["letters"] ds) m := by
  intro ds m Q E hl q
  unfold sp_word_signature at q
  split at q
  · exact v_word_signature X q.1 (fun h h2 => rt (q.2.1 h h2)) fun δ => q.2.2
  · exact q.elim
theorem V_tree_for : ∀ ds m Q E, ds.length = 2 → sp_tree_for ds m Q E → t_tree_for (fun cls d _ m' => E cls d m') (bodyEnds Q) (startD ["letters", "word", "tree", "a"] ds) m := by
  intro ds m Q E hl q
  unfold sp_tree_for at q
  split at q
  · exact v_tree_for (rt q)
  · exact q.elim
theorem V_word_for : ∀ ds m Q E, ds.length = 1 → sp_word_for ds m Q E → t_word_for (fun cls d _ m' => E cls d m') (bodyEnds Q) (startD ["tree", "found"] ds) m := by
  intro ds m Q E hl q
  unfold sp_word_for at q
  split at q
  · obtain ⟨n, ws, rfl, h, q⟩ := q
    exact v_word_for h fun m' l => ⟨_, l, q⟩
  · exact q.elim
theorem V_tree_of_word (X : Ex) : ∀ ds m Q E, ds.length = 2 → sp_tree_of_word X ds m Q E → t_tree_of_word X (fun cls d _ m' => E cls d m') (bodyEnds Q) (startD ["letters", "word"] ds) m := by
  intro ds m Q E hl q
  unfold sp_tree_of_word at q
  split at q
  · exact v_tree_of_word X q.1 q.2.1 (fun h h2 => rt (q.2.2.1 h h2)) (fun δ => q.2.2.2.1) fun δ => q.2.2.2.2
  · exact q.elim
theorem V_word_of_tree (X : Ex) : ∀ ds m Q E, ds.length = 2 → sp_word_of_tree X ds m Q E → t_word_of_tree X (fun cls d _ m' => E cls d m') (bodyEnds Q) (startD ["letters", "tree"] ds) m := by
  intro ds m Q E hl q
  unfold sp_word_of_tree at q
  split at q
  · exact v_word_of_tree X q.1 q.2.1 (fun h ws e hw hl => rt (q.2.2.1 h ws e hw hl)) (fun δ => q.2.2.2.1) fun δ => q.2.2.2.2
  · exact q.elim
end L2.AP
set_option Elab.async false
set_option linter.all false
set_option maxRecDepth 100000
set_option maxHeartbeats 4000000
/-! W3: word rules. -/
namespace L2.AP
open PySem PySem.Spec PyProof.Rows
variable (X : Ex)
def wruleB (n : Nat) : D → Bool
  | .tup [u, v] => wordB n u && wordB n v && !eqD u v
  | _ => false
def wrulesB (n : Nat) : D → Bool
  | .tup xs => decide (xs.length ≤ 30) && xs.all (wruleB n) && decide (keysL xs).Nodup
  | _ => false
theorem wint {n : Nat} {ws : List D} (h : ∀ w ∈ ws, withinB 0 ((n : Int) - 1) w = true) : ∃ ns : List Int, ws = ns.map D.int ∧ ∀ i ∈ ns, 0 ≤ i ∧ i < n := by
  induction ws with
  | nil => exact ⟨[], rfl, fun i hi => by cases hi⟩
  | cons w ws ih =>
    obtain ⟨ns, e, hn⟩ := ih fun x hx => h x (List.mem_cons_of_mem _ hx)
    obtain ⟨ew, w0, w1⟩ := within_int (h w List.mem_cons_self)
    refine ⟨num w :: ns, by rw [e, List.map_cons, ← ew], fun i hi => ?_⟩
    rcases List.mem_cons.mp hi with rfl | hi
    · exact ⟨w0, by omega⟩
    · exact hn i hi
theorem dep_ints : ∀ ns : List Int, deps (ns.map D.int) = 0
  | [] => rfl
  | n :: ns => by rw [List.map_cons, deps, dep_ints ns]; rfl
theorem gds_intsW : ∀ ns : List Int, gds (ns.map D.int) = true := fun ns => gds_of fun x hx => by
  obtain ⟨i, _, rfl⟩ := List.mem_map.mp hx
  rfl
/-- a word as numbers -/
theorem word_pl {n : Nat} {u : D} (h : wordB n u = true) : ∃ ns : List Int, u = plD ns ∧ ns.length ≤ 59 ∧ ∀ i ∈ ns, 0 ≤ i ∧ i < n := by
  obtain ⟨ws, rfl, l, hw⟩ := word_els h
  obtain ⟨ns, rfl, hn⟩ := wint hw
  exact ⟨ns, rfl, by simpa using l, hn⟩
theorem wrule_two {n : Nat} {d : D} (h : wruleB n d = true) : ∃ us vs : List Int, d = .tup [plD us, plD vs] ∧ wordB n (plD us) = true ∧ wordB n (plD vs) = true ∧ us ≠ vs := by
  unfold wruleB at h
  split at h
  · rename_i u v
    simp only [Bool.and_eq_true, Bool.not_eq_true'] at h
    obtain ⟨⟨h1, h2⟩, h3⟩ := h
    obtain ⟨us, rfl, _⟩ := word_pl h1
    obtain ⟨vs, rfl, _⟩ := word_pl h2
    refine ⟨us, vs, rfl, h1, h2, fun z => ?_⟩
    subst z
    rw [(eqD_iff (pl_key us) (pl_key us)).mpr rfl] at h3
    cases h3
  · cases h
theorem wrule_key (us vs : List Int) : keyD (.tup [plD us, plD vs]) = some (.tup [.tup (us.map NestedKey.num), .tup (vs.map NestedKey.num)]) := by simp [keyD, keysD, pl_key]
theorem wrule_depth (us vs : List Int) : (NestedKey.tup [.tup (us.map NestedKey.num), .tup (vs.map NestedKey.num)]).depth = 2 := by simp [NestedKey.depth, NestedKey.depthAll, depth_ints]
def sp_is_word_rule : DSp := fun ds m Q _ => match ds with
  | [.tup ls, d] => gd d = true ∧ Q (.bl (wruleB ls.length d)) m
  | _ => False
def t_is_word_rule : DTS :=
  dRet (dAnd (dCallF 3 sp_is_row (dCons (dVar 1) (dCons (dC (.int 2)) (dCons (dC (.int 2)) dNil)))) (dAnd (dCall allR (dCons (dLc false (diAny (dVar 1)) (dgName 2) dYes (dCallF 2 sp_is_word (dCons (dVar 0) (dCons (dVar 2) dNil))) [2]) dNil)) (dOp neR (dOp ixR (dVar 1) (dC (.int 0))) (dOp ixR (dVar 1) (dC (.int 1))))))
theorem v_is_word_rule {W : DW} {E : DEnds} {m : AH} {ls : List D} {d : D} (g : gd d = true) (q : E.rt (.bl (wruleB ls.length d)) m) : t_is_word_rule W E [some (.tup ls), some d, none] m := by
  have base : ∀ b, wruleB ls.length d = b → E.rt (.bl b) m := fun b e => by rw [← e]; exact q
  unfold t_is_word_rule
  simp only [S, SS', SL, SB, sp_is_row, g]
  by_cases h1 : rowB 2 2 d = true
  · obtain ⟨a, b, rfl⟩ := row2 h1
    simp [gd, gds] at g
    rw [if_pos h1]
    refine ⟨⟨_, rfl⟩, lc_map [a, b] (fun e => .bl (wordB ls.length e)) (fun _ _ => rfl) (Nat.le_trans (by simp : [a, b].length ≤ 1000000) sl0) (fun x hx m2 C _ hc => ?_) ?_⟩
    · have gx : gd x = true := by
        rcases List.mem_cons.mp hx with rfl | hx
        · exact g.1
        · rw [List.mem_singleton.mp hx]; exact g.2
      simp only [S, SS', SB, wipeD, List.set, sp_is_word, gx]
      exact hc
    · simp only [allR]
      refine ⟨[wordB ls.length a, wordB ls.length b], rfl, _, rfl, ?_⟩
      by_cases c : (wordB ls.length a && wordB ls.length b) = true
      · have c2 := c
        rw [Bool.and_eq_true] at c2
        rw [if_pos (show [wordB ls.length a, wordB ls.length b].all id = true by simpa using c)]
        obtain ⟨us, rfl, _⟩ := word_pl c2.1
        obtain ⟨vs, rfl, _⟩ := word_pl c2.2
        refine ixT atL0 (ixT atL1 ?_)
        simp only [neR, plD, val]
        refine ⟨gd_lay _ g.1, gd_lay _ g.2, by simp only [dep, dep_ints]; omega, base _ ?_⟩
        simp only [plD] at c2
        simp [wruleB, plD, c2]
      · rw [if_neg (show ¬ ([wordB ls.length a, wordB ls.length b].all id = true) by simpa using c)]
        refine base _ ?_
        simp only [wruleB]
        have c' : (wordB ls.length a && wordB ls.length b) = false := by simpa using c
        rw [c']
        rfl
  · rw [if_neg h1]
    refine base _ ?_
    unfold wruleB
    split
    · exact absurd rfl h1
    · rfl
def sp_need_word_rules : DSp := fun ds m Q E => match ds with
  | [s, d] => gd s = true ∧ gd d = true ∧ (lettersB s = true → wrulesB (els s).length d = true → Q .non m) ∧ (lettersB s = false → E (.ref (X.c "BadLetters")) none m) ∧ (lettersB s = true → wrulesB (els s).length d = false → E (.ref (X.c "BadWordRules")) none m)
  | _ => False
def t_need_word_rules : DTS :=
  dSeq (dDrop (dCallF 1 (sp_need_letters X) (dCons (dVar 0) dNil))) <|
  dSeq (dIfS (dOrT (dNotT (dTruth (dCallF 3 sp_is_row (dCons (dVar 1) (dCons (dC (.int 0)) (dCons (dC c_MOST_RULES) dNil)))))) (dNotT (dTruth (dCall allR (dCons (dLc false (diAny (dVar 1)) (dgName 2) dYes (dCallF 2 sp_is_word_rule (dCons (dVar 0) (dCons (dVar 2) dNil))) [2]) dNil))))) (dRaise (X.c "BadWordRules")) (dNext)) <|
  dIfS (dTest (dOp ltR (dLenSet (dVar 1)) (dCall lenR (dCons (dVar 1) dNil)))) (dRaise (X.c "BadWordRules")) (dNext)
theorem wrules_keys {n : Nat} : ∀ {xs : List D}, xs.all (wruleB n) = true → ∃ ks, keysD xs = some ks ∧ ks.length = xs.length ∧ (∀ k ∈ ks, k.depth = 2) ∧ xs.all isTupD = true
  | [], _ => ⟨[], rfl, rfl, (fun _ h => by cases h), rfl⟩
  | x :: xs, h => by
    rw [List.all_cons, Bool.and_eq_true] at h
    obtain ⟨us, vs, rfl, _, _, _⟩ := wrule_two h.1
    obtain ⟨ks, e2, l, m, t2⟩ := wrules_keys h.2
    refine ⟨.tup [.tup (us.map NestedKey.num), .tup (vs.map NestedKey.num)] :: ks, by simp [keysD, wrule_key us vs, e2], by simp [l], fun q hq => ?_, by rw [List.all_cons, t2]; rfl⟩
    rcases List.mem_cons.mp hq with z | z
    · rw [z]; exact wrule_depth us vs
    · exact m q z
theorem v_need_word_rules {W : DW} {E : DEnds} {m : AH} {s d : D} (g : gd s = true) (g2 : gd d = true) (q : ∀ δ, lettersB s = true → wrulesB (els s).length d = true → E.nx δ m) (r1 : ∀ δ, lettersB s = false → W (.ref (X.c "BadLetters")) none δ m)
    (r : ∀ δ, lettersB s = true → wrulesB (els s).length d = false → W (.ref (X.c "BadWordRules")) none δ m) : t_need_word_rules X W E [some s, some d, none] m := by
  unfold t_need_word_rules
  simp only [S, SS', SL, SB, sp_need_letters]
  refine ⟨g, fun hL => ?_, r1 _⟩
  have r := r [some s, some d, none] hL
  have q := q [some s, some d, none] hL
  obtain ⟨ls, rfl, _⟩ := letters_parts hL
  simp only [els] at q r
  simp only [sp_is_row, g2, c_MOST_RULES, TR, SB]
  cases h1 : rowB 0 30 d with
  | false =>
    simp only [Bool.not_false, if_true]
    refine r ?_
    cases d with
    | tup xs =>
      simp only [rowB, Bool.and_eq_false_iff, decide_eq_false_iff_not] at h1
      simp only [wrulesB]
      rw [decide_eq_false (by omega)]
      rfl
    | _ => rfl
  | true =>
    simp only [Bool.not_true, Bool.false_eq_true, if_false]
    cases d with
    | tup xs =>
      simp only [rowB, Bool.and_eq_true, decide_eq_true_eq] at h1
      simp only [gd] at g2
      have gm := gds_mem g2
      refine ⟨⟨_, rfl⟩, lc_map xs (fun e => .bl (wruleB ls.length e)) (fun _ _ => rfl) (two_le (by omega)) (fun x hx m2 C _ hc => ?_) ?_⟩
      · simp only [S, SS', SB, wipeD, List.set, sp_is_word_rule, gm x hx]
        exact hc
      · simp only [allR]
        refine ⟨xs.map (wruleB ls.length), by simp [asL, Function.comp_def], ?_⟩
        have e2 : (xs.map (wruleB ls.length)).all id = xs.all (wruleB ls.length) := by rw [List.all_map]; rfl
        rw [e2]
        simp only [TR]
        cases h2 : xs.all (wruleB ls.length) with
        | false =>
          simp only [Bool.not_false, if_true]
          exact r (by simp only [wrulesB, h2]; simp)
        | true =>
          simp only [Bool.not_true, Bool.false_eq_true, if_false]
          obtain ⟨ks, e1, lk, mk, tk⟩ := wrules_keys h2
          have ek : keysL xs = ks := by unfold keysL; rw [e1]; rfl
          refine .inr ⟨xs, ks, rfl, e1, tk, by omega, fun k hk => by rw [mk k hk]; decide, fun w => .inl fun k hk => by rw [mk k hk]; decide, fun L nd hm => ?_⟩
          simp only [lenR, VL, SB, ltR]
          have nl := nodup_len nd hm
          rw [lk] at nl
          by_cases c : ks.Nodup
          · have h3 := nl.mpr c
            rw [if_neg (by simp; omega)]
            refine q ?_
            simp only [wrulesB, h2, ek, decide_eq_true c, Bool.and_true, decide_eq_true_eq]
            omega
          · have h3 : ¬ L.length = xs.length := fun z => c (nl.mp z)
            have le : L.length ≤ ks.length := nodup_le L ks nd fun k hk => (hm k).mp hk
            rw [if_pos (by simp; omega)]
            exact r (by simp only [wrulesB, ek, decide_eq_false c]; simp)
    | _ => simp [rowB] at h1
/-- the trees of word rules -/
def treesOf (n : Nat) : D → D
  | .tup xs => .tup (xs.map fun r => .tup [wordT n (els (fst r)), wordT n (els (snd r))])
  | d => d
def sp_rules_of_words : DSp := fun ds m Q E => match ds with
  | [s, d] => gd s = true ∧ gd d = true ∧ (lettersB s = true → wrulesB (els s).length d = true → Q (treesOf (els s).length d) m) ∧ (lettersB s = false → E (.ref (X.c "BadLetters")) none m) ∧ (lettersB s = true → wrulesB (els s).length d = false → E (.ref (X.c "BadWordRules")) none m)
  | _ => False
def t_rules_of_words : DTS :=
  dSeq (dDrop (dCallF 2 (sp_need_word_rules X) (dCons (dVar 0) (dCons (dVar 1) dNil)))) <|
  dRet (dCall tupleR (dCons (dLc false (diAny (dVar 1)) (dgTup 2 (dgCons (dgName 2) (dgCons (dgName 3) dgNil))) dYes (dTup (dCons (dCallF 2 sp_tree_for (dCons (dVar 0) (dCons (dVar 2) dNil))) (dCons (dCallF 2 sp_tree_for (dCons (dVar 0) (dCons (dVar 3) dNil))) dNil))) [2, 3]) dNil))
theorem wrules_parts {n : Nat} {d : D} (h : wrulesB n d = true) : ∃ xs, d = .tup xs ∧ xs.length ≤ 30 ∧ (∀ x ∈ xs, wruleB n x = true) ∧ (keysL xs).Nodup := by
  cases d with
  | tup xs =>
    simp only [wrulesB, Bool.and_eq_true, decide_eq_true_eq, List.all_eq_true] at h
    exact ⟨xs, rfl, h.1.1, h.1.2, h.2⟩
  | _ => simp [wrulesB] at h
theorem v_rules_of_words {W : DW} {E : DEnds} {m : AH} {s d : D} (g : gd s = true) (g2 : gd d = true) (q : lettersB s = true → wrulesB (els s).length d = true → E.rt (treesOf (els s).length d) m) (r1 : ∀ δ, lettersB s = false → W (.ref (X.c "BadLetters")) none δ m)
    (r : ∀ δ, lettersB s = true → wrulesB (els s).length d = false → W (.ref (X.c "BadWordRules")) none δ m) : t_rules_of_words X W E [some s, some d, none, none] m := by
  have big : (1000000 : Nat) ≤ sizeLine := sl0
  unfold t_rules_of_words
  simp only [S, SS', SL, SB, sp_need_word_rules]
  refine ⟨g, g2, fun h1 h2 => ?_, r1 _, r _⟩
  have q := q h1 h2
  obtain ⟨ls, rfl, _⟩ := letters_parts h1
  obtain ⟨xs, rfl, l, ha, _⟩ := wrules_parts h2
  refine ⟨⟨_, rfl⟩, lc_map xs (fun r => .tup [wordT ls.length (els (fst r)), wordT ls.length (els (snd r))]) (fun _ _ => rfl) (by omega) (fun x hx m2 C _ hC => ?_) ⟨_, rfl, q⟩⟩
  obtain ⟨us, vs, rfl, _, _, _⟩ := wrule_two (ha x hx)
  simp only [plD, S, SS', SB, wipeD, List.set, sp_tree_for]
  exact ⟨by omega, hC⟩
end L2.AP
set_option Elab.async false
set_option linter.all false
set_option maxRecDepth 100000
set_option maxHeartbeats 4000000
/-! W4: words of rules, and the steps of words. -/
namespace L2.AP
open PySem PySem.Spec PyProof.Rows
variable (X : Ex)
noncomputable def sgW (s : D) : D := sigW (els s) (endN ((els s).map txt))
theorem end_all {ls : List Str} (hl : ls.length ≤ 11) : EndOf ls (endN ls) := by
  have h : ∀ j, j ≤ 12 → (∀ i, i < j → nmE i ∈ ls) ∨ ∃ k, k < j ∧ nmE k ∉ ls ∧ ∀ i, i < k → nmE i ∈ ls := by
    intro j
    induction j with
    | zero => exact fun _ => .inl fun i h => by omega
    | succ j ih =>
      intro hj
      rcases ih (by omega) with h | ⟨k, h1, h2, h3⟩
      · by_cases c : nmE j ∈ ls
        · refine .inl fun i hi => ?_
          by_cases z : i = j
          · rw [z]; exact c
          · exact h i (by omega)
        · exact .inr ⟨j, by omega, c, h⟩
      · exact .inr ⟨k, by omega, h2, h3⟩
  rcases h 12 (Nat.le_refl _) with h | ⟨k, h1, h2, h3⟩
  · have := end_room hl h
    omega
  · have e : EndOf ls (nmE k) := ⟨k, h1, rfl, h2, h3⟩
    rw [endN_eq e]
    exact e
theorem sgW_ok {ls : List D} (h : lettersB (.tup ls) = true) (g : gds ls = true) : sigB (sgW (.tup ls)) = true ∧ gd (sgW (.tup ls)) = true := by
  obtain ⟨_, e, l1, l2, _⟩ := letters_parts h
  cases e
  exact sigW_ok h g (end_all (by rw [List.length_map]; exact l2))
def pairT (n : Nat) (p : List D × List D) : D := .tup [wordT n p.1, wordT n p.2]
def pairW (p : List D × List D) : D := .tup [.tup p.1, .tup p.2]
def sp_words_of_rules : DSp := fun ds m Q E => match ds with
  | [s, d] => gd s = true ∧ gd d = true ∧ (lettersB s = true → tameR (els (sgW s)) d) ∧
      (lettersB s = true → rulesB (els (sgW s)) d = true → ∀ ps : List (List D × List D), d = .tup (ps.map (pairT (els s).length)) → (∀ p ∈ ps, (∀ w ∈ p.1, withinB 0 (((els s).length : Int) - 1) w = true) ∧ ∀ w ∈ p.2, withinB 0 (((els s).length : Int) - 1) w = true) → Q (.tup (ps.map pairW)) m) ∧
      (lettersB s = false → E (.ref (X.c "BadLetters")) none m) ∧ (lettersB s = true → rulesB (els (sgW s)) d = false → E (.ref (X.c "BadRules")) none m)
  | _ => False
def t_words_of_rules : DTS :=
  dSeq (dDrop (dCallF 1 (sp_need_letters X) (dCons (dVar 0) dNil))) <|
  dSeq (dDrop (dCallF 2 (sp_need_rules X) (dCons (dCallF 1 sp_signature_of (dCons (dVar 0) dNil)) (dCons (dVar 1) dNil)))) <|
  dRet (dCall tupleR (dCons (dLc false (diAny (dVar 1)) (dgTup 2 (dgCons (dgName 2) (dgCons (dgName 3) dgNil))) dYes (dTup (dCons (dCallF 1 sp_word_for (dCons (dVar 2) dNil)) (dCons (dCallF 1 sp_word_for (dCons (dVar 3) dNil)) dNil))) [2, 3]) dNil))
theorem rules_words {ls : List D} {e : Str} : ∀ {xs : List D}, (∀ x ∈ xs, ruleB (els (sigW ls e)) x = true) → ∃ ps : List (List D × List D), xs = ps.map (pairT ls.length) ∧ ∀ p ∈ ps, (p.1.length ≤ 59 ∧ p.2.length ≤ 59) ∧ (∀ w ∈ p.1, withinB 0 ((ls.length : Int) - 1) w = true) ∧ ∀ w ∈ p.2, withinB 0 ((ls.length : Int) - 1) w = true
  | [], _ => ⟨[], rfl, fun p hp => by cases hp⟩
  | x :: xs, h => by
    obtain ⟨l, r, rfl, h1, h2, _⟩ := rule_two (h x List.mem_cons_self)
    obtain ⟨ps, e1, hp⟩ := rules_words fun y hy => h y (List.mem_cons_of_mem _ hy)
    obtain ⟨v1, _, d1⟩ := tree_parts h1
    obtain ⟨v2, _, d2⟩ := tree_parts h2
    obtain ⟨us, rfl, hu, lu⟩ := word_tree (ls := ls) _ l (Nat.le_refl _) v1
    obtain ⟨vs, rfl, hv, lv⟩ := word_tree (ls := ls) _ r (Nat.le_refl _) v2
    refine ⟨(us, vs) :: ps, by rw [e1]; rfl, fun p hm => ?_⟩
    rcases List.mem_cons.mp hm with rfl | hm
    · exact ⟨⟨by show us.length ≤ 59; omega, by show vs.length ≤ 59; omega⟩, hu, hv⟩
    · exact hp p hm
open Classical in
/-- the word of a tree -/
noncomputable def wordU (t : D) : D := if h : ∃ n ws, t = wordT n ws then .tup h.choose_spec.choose else .non
theorem wordT_nm : ∀ {us vs : List D} {n k : Nat}, wordT n us = wordT k vs → us = vs
  | [], [], _, _, _ => rfl
  | [], v :: vs, n, k, h => by
    simp only [wordT, List.foldr_nil, List.foldr_cons, D.tup.injEq, List.cons.injEq] at h
    exact absurd h.2 (by simp)
  | u :: us, [], n, k, h => by
    simp only [wordT, List.foldr_nil, List.foldr_cons, D.tup.injEq, List.cons.injEq] at h
    exact absurd h.2 (by simp)
  | u :: us, v :: vs, n, k, h => by
    have e1 : wordT n (u :: us) = .tup [u, wordT n us] := rfl
    have e2 : wordT k (v :: vs) = .tup [v, wordT k vs] := rfl
    rw [e1, e2] at h
    simp only [D.tup.injEq, List.cons.injEq, and_true] at h
    rw [h.1, wordT_nm h.2]
theorem wordU_word (n : Nat) (ws : List D) : wordU (wordT n ws) = .tup ws := by
  unfold wordU
  have h : ∃ k vs, wordT n ws = wordT k vs := ⟨n, ws, rfl⟩
  rw [dif_pos h]
  rw [← wordT_nm h.choose_spec.choose_spec]
theorem v_words_of_rules {W : DW} {E : DEnds} {m : AH} {s d : D} (g : gd s = true) (g2 : gd d = true) (tm : lettersB s = true → tameR (els (sgW s)) d)
    (q : lettersB s = true → rulesB (els (sgW s)) d = true → ∀ ps : List (List D × List D), d = .tup (ps.map (pairT (els s).length)) → (∀ p ∈ ps, (∀ w ∈ p.1, withinB 0 (((els s).length : Int) - 1) w = true) ∧ ∀ w ∈ p.2, withinB 0 (((els s).length : Int) - 1) w = true) → E.rt (.tup (ps.map pairW)) m)
    (r1 : ∀ δ, lettersB s = false → W (.ref (X.c "BadLetters")) none δ m) (r : ∀ δ, lettersB s = true → rulesB (els (sgW s)) d = false → W (.ref (X.c "BadRules")) none δ m) : t_words_of_rules X W E [some s, some d, none, none] m := by
  have big : (1000000 : Nat) ≤ sizeLine := sl0
  unfold t_words_of_rules
  simp only [S, SS', SL, SB, sp_need_letters]
  refine ⟨g, fun h => ?_, r1 _⟩
  have r := r [some s, some d, none, none] h
  have q := q h
  have tm := tm h
  obtain ⟨ls, rfl, _⟩ := letters_parts h
  have gl : gds ls = true := by simpa [gd] using g
  obtain ⟨s1, s2⟩ := sgW_ok h gl
  simp only [sp_signature_of]
  refine ⟨h, gl, fun _ => ?_⟩
  have es : sigW ls (endN (ls.map txt)) = sgW (.tup ls) := rfl
  rw [es]
  simp only [sp_need_rules]
  refine ⟨s2, g2, fun _ => tm, fun _ h2 => ?_, fun _ h2 => r h2, fun z => by rw [s1] at z; cases z⟩
  obtain ⟨xs, rfl, lx, ha, _⟩ := rules_parts h2
  obtain ⟨ps, rfl, hp⟩ := rules_words (ls := ls) (e := endN (ls.map txt)) (List.all_eq_true.mp ha)
  have q := q h2 ps rfl fun p hm => (hp p hm).2
  rw [List.length_map] at lx
  refine ⟨⟨_, rfl⟩, ?_⟩
  have sub : ∀ x ∈ ps.map (pairT ls.length), ∃ p ∈ ps, x = pairT ls.length p := fun x hx => by
    obtain ⟨p, h1, h2⟩ := List.mem_map.mp hx
    exact ⟨p, h1, h2.symm⟩
  refine lc_map (ps.map (pairT ls.length)) (fun x => .tup [wordU (fst x), wordU (snd x)]) (fun _ _ => rfl) (by rw [List.length_map]; omega) (fun x hx m2 C _ hC => ?_) ?_
  · obtain ⟨p, hm, rfl⟩ := sub x hx
    obtain ⟨⟨a1, a2⟩, _⟩ := hp p hm
    simp only [pairT, fst, snd, wordU_word] at hC
    simp only [pairT, S, SS', SB, wipeD, List.set, sp_word_for]
    exact ⟨_, p.1, rfl, by omega, _, p.2, rfl, by omega, by omega, hC⟩
  · have e : (ps.map (pairT ls.length)).map (fun x => D.tup [wordU (fst x), wordU (snd x)]) = ps.map pairW := by
      rw [List.map_map]
      exact List.map_congr_left fun p _ => by simp [pairT, pairW, fst, snd, wordU_word]
    rw [e]
    exact ⟨_, rfl, q⟩
end L2.AP
set_option Elab.async false
set_option linter.all false
set_option maxRecDepth 100000
set_option maxHeartbeats 4000000
/-! W5: the steps of words, in plain. -/
namespace L2.AP
open PySem PySem.Spec PyProof.Rows
abbrev WR := List Int × List Int
def ruleI (r : WR) : D := .tup [plD r.1, plD r.2]
def pairI (x : Nat × Nat) : D := .tup [.int (x.1 : Int), .int (x.2 : Int)]
theorem num_inj {a b : List Int} (h : a.map NestedKey.num = b.map NestedKey.num) : a = b := by
  induction a generalizing b with
  | nil => cases b with
    | nil => rfl
    | cons y b => cases h
  | cons x a ih => cases b with
    | nil => cases h
    | cons y b =>
      simp only [List.map_cons, List.cons.injEq, NestedKey.num.injEq] at h
      rw [h.1, ih h.2]
theorem eq_pl (a b : List Int) : eqD (plD a) (plD b) = decide (a = b) := by
  rw [Bool.eq_iff_iff, decide_eq_true_eq, eqD_iff (pl_key a) (pl_key b)]
  constructor
  · intro h
    injection h with h
    exact num_inj h
  · intro h
    rw [h]
theorem eq_word (n : Nat) : ∀ ns ms : List Int, eqD (wordT n (ns.map D.int)) (wordT n (ms.map D.int)) = decide (ns = ms)
  | [], [] => by simp [wordT, eqD, eqDs]
  | [], m :: ms => by simp [wordT, eqD, eqDs]
  | a :: ns, [] => by simp [wordT, eqD, eqDs]
  | a :: ns, b :: ms => by
    have e1 : wordT n ((a :: ns).map D.int) = .tup [.int a, wordT n (ns.map D.int)] := rfl
    have e2 : wordT n ((b :: ms).map D.int) = .tup [.int b, wordT n (ms.map D.int)] := rfl
    rw [e1, e2]
    simp only [eqD, eqDs, eq_word n ns ms, Bool.and_true]
    rw [Bool.eq_iff_iff]
    simp
/-- the pairs (letters ahead, rule), in order -/
def ats (rs : List WR) (w : List Int) : List (Nat × Nat) := (List.range (w.length + 1)).flatMap fun j => ((List.range rs.length).filter fun k => decide ((rs.getD k ([], [])).1 = w.drop j)).map fun k => (j, k)
/-- the same by the rules -/
def atOf (rs : List WR) (w : List Int) (k : Nat) : Option (Nat × Nat) :=
  if (rs.getD k ([], [])).1.length ≤ w.length ∧ w.drop (w.length - (rs.getD k ([], [])).1.length) = (rs.getD k ([], [])).1 then some (w.length - (rs.getD k ([], [])).1.length, k) else none
def found (rs : List WR) (w : List Int) : List (Nat × Nat) := (List.range rs.length).filterMap (atOf rs w)
theorem mem_ats {rs : List WR} {w : List Int} {x : Nat × Nat} : x ∈ ats rs w ↔ x.1 ≤ w.length ∧ x.2 < rs.length ∧ (rs.getD x.2 ([], [])).1 = w.drop x.1 := by
  unfold ats
  simp only [List.mem_flatMap, List.mem_map, List.mem_filter, List.mem_range, decide_eq_true_eq]
  constructor
  · rintro ⟨j, hj, k, ⟨hk, e⟩, rfl⟩
    exact ⟨by show j ≤ _; omega, hk, e⟩
  · rintro ⟨h1, h2, h3⟩
    exact ⟨x.1, by omega, x.2, ⟨h2, h3⟩, rfl⟩
theorem mem_found {rs : List WR} {w : List Int} {x : Nat × Nat} : x ∈ found rs w ↔ x.1 ≤ w.length ∧ x.2 < rs.length ∧ (rs.getD x.2 ([], [])).1 = w.drop x.1 := by
  unfold found
  simp only [List.mem_filterMap, List.mem_range, atOf]
  constructor
  · rintro ⟨k, hk, e⟩
    split at e
    · rename_i c
      cases e
      exact ⟨by simp, hk, c.2.symm⟩
    · cases e
  · rintro ⟨h1, h2, h3⟩
    refine ⟨x.2, h2, ?_⟩
    have l : (rs.getD x.2 ([], [])).1.length = w.length - x.1 := by rw [h3, List.length_drop]
    have e : w.length - (rs.getD x.2 ([], [])).1.length = x.1 := by omega
    rw [if_pos ⟨by omega, by rw [e, h3]⟩, e]
def BefN (x y : Nat × Nat) : Prop := x.1 < y.1 ∨ (x.1 = y.1 ∧ x.2 < y.2)
theorem ats_pw (rs : List WR) (w : List Int) : (ats rs w).Pairwise BefN := by
  unfold ats
  rw [List.pairwise_flatMap]
  refine ⟨fun j _ => ?_, ?_⟩
  · rw [List.pairwise_map]
    exact (List.Pairwise.filter _ List.pairwise_lt_range).imp fun {a b} h => .inr ⟨rfl, h⟩
  · refine List.pairwise_lt_range.imp fun {a b} h x hx y hy => ?_
    obtain ⟨k, _, rfl⟩ := List.mem_map.mp hx
    obtain ⟨l, _, rfl⟩ := List.mem_map.mp hy
    exact .inl h
theorem BefN.ne {x y : Nat × Nat} (h : BefN x y) : x ≠ y := fun e => by
  subst e
  rcases h with h | h
  · omega
  · omega
theorem ats_nodup (rs : List WR) (w : List Int) : (ats rs w).Nodup := (ats_pw rs w).imp fun h => h.ne
theorem found_nodup (rs : List WR) (w : List Int) : (found rs w).Nodup := by
  unfold found
  refine List.Pairwise.filterMap (S := fun a b : Nat × Nat => a ≠ b) (R := fun a b : Nat => a < b) _ (fun a b h x hx y hy => ?_) List.pairwise_lt_range
  have ex : ∀ {k : Nat} {z : Nat × Nat}, atOf rs w k = some z → z.2 = k := fun {k z} h => by
    unfold atOf at h
    split at h
    · cases h; rfl
    · cases h
  intro z
  have e1 := ex hx
  have e2 := ex hy
  rw [z] at e1
  omega
theorem found_perm (rs : List WR) (w : List Int) : (found rs w).Perm (ats rs w) := (List.perm_ext_iff_of_nodup (found_nodup rs w) (ats_nodup rs w)).mpr fun x => by rw [mem_found, mem_ats]
theorem pairI_key (x : Nat × Nat) : keyD (pairI x) = some (.tup [.num (x.1 : Int), .num (x.2 : Int)]) := by simp [pairI, keyD, keysD]
theorem pairI_lt {x y : Nat × Nat} (h : BefN x y) : ltD (pairI x) (pairI y) = true := by
  simp only [ltD, keyL_of (pairI_key x), keyL_of (pairI_key y), ltK, ltKs, NestedKey.num.injEq]
  rcases h with h | ⟨h1, h2⟩
  · rw [if_neg (by omega)]
    simpa using h
  · rw [if_pos (by omega), if_neg (by omega)]
    simpa using h2
theorem pairI_sort (xs : List (Nat × Nat)) : SortOk true (xs.map pairI) := by
  refine ⟨noBls_all fun y hy => ?_, fun y hy => ?_, fun y hy z hz => ?_⟩
  · obtain ⟨x, _, rfl⟩ := List.mem_map.mp hy
    simp [pairI, noBl, noBls]
  · obtain ⟨x, _, rfl⟩ := List.mem_map.mp hy
    exact ⟨_, pairI_key x, ⟨_, _, rfl, (fun _ => ⟨_, rfl⟩), fun z => by cases z⟩, by simp [NestedKey.depth, NestedKey.depthAll]⟩
  · obtain ⟨x, _, rfl⟩ := List.mem_map.mp hy
    obtain ⟨w, _, rfl⟩ := List.mem_map.mp hz
    rw [keyL_of (pairI_key x), keyL_of (pairI_key w)]
    simp [cmpOk, cmpOks]
/-- what is sorted of the steps found is the steps in order -/
theorem sort_found {rs : List WR} {w : List Int} {ys : List D} (p : ys.Perm ((found rs w).map pairI)) (so : ys.Pairwise fun x y => ltD y x = false) : ys = (ats rs w).map pairI := by
  refine sorted_uniq (p.trans ((found_perm rs w).map pairI)) so ?_
  rw [List.pairwise_map]
  exact (ats_pw rs w).imp fun h => pairI_lt h
/-! ### the steps of the word's tree -/
theorem word_spots (n : Nat) : ∀ (ws : List D) (pl : List Int), spotsD pl (wordT n ws) = (List.range (ws.length + 1)).map fun j => (pl ++ List.replicate j 0, wordT n (ws.drop j))
  | [], pl => by simp [wordT, spotsD, spotsT, spotsK]
  | a :: ws, pl => by
    have e : wordT n (a :: ws) = .tup [a, wordT n ws] := rfl
    rw [e, spotsD, spotsT, spotsK, spotsK, List.append_nil, word_spots n ws, List.length_cons, List.range_succ_eq_map (n := ws.length + 1), List.map_cons, List.map_map]
    refine List.cons_eq_cons.mpr ⟨?_, List.map_congr_left fun j _ => ?_⟩
    · simp [e]
    · simp [List.replicate_succ]
end L2.AP
set_option Elab.async false
set_option linter.all false
set_option maxRecDepth 100000
set_option maxHeartbeats 4000000
/-! W6: word_steps, and the same steps of trees. -/
namespace L2.AP
open PySem PySem.Spec PyProof.Rows
variable (X : Ex)
def treeI (n : Nat) (r : WR) : D := .tup [wordT n (r.1.map D.int), wordT n (r.2.map D.int)]
theorem flat_congr {α β : Type} {f g : α → List β} : ∀ {l : List α}, (∀ x ∈ l, f x = g x) → l.flatMap f = l.flatMap g
  | [], _ => rfl
  | x :: l, h => by rw [List.flatMap_cons, List.flatMap_cons, h x List.mem_cons_self, flat_congr fun y hy => h y (List.mem_cons_of_mem _ hy)]
theorem all_words (n : Nat) (rs : List WR) (w : List Int) : allSteps (rs.map (treeI n)) (wordT n (w.map D.int)) = (ats rs w).map fun x => stepD (List.replicate x.1 0) x.2 := by
  unfold allSteps ats
  rw [word_spots, List.flatMap_map, List.map_flatMap, List.length_map]
  refine flat_congr fun j hj => ?_
  simp only [stepsX, List.nil_append, List.map_map, matchL, List.length_map]
  have e : (List.range rs.length).filter (fun k => eqD (fst ((rs.map (treeI n)).getD k .non)) (wordT n ((w.map D.int).drop j))) = (List.range rs.length).filter fun k => decide ((rs.getD k ([], [])).1 = w.drop j) := by
    refine List.filter_congr fun k hk => ?_
    have hk := List.mem_range.mp hk
    have e1 : (rs.map (treeI n)).getD k .non = treeI n (rs.getD k ([], [])) := by
      rw [List.getD_eq_getElem?_getD, List.getElem?_map, List.getD_eq_getElem?_getD, List.getElem?_eq_getElem hk]
      rfl
    rw [e1, ← List.map_drop]
    exact eq_word n _ _
  rw [e]
  rfl
theorem put_word (n : Nat) : ∀ (ws vs : List D) (j : Nat), j ≤ ws.length → putD (List.replicate j 0) (wordT n ws) (wordT n vs) = wordT n (ws.take j ++ vs)
  | ws, vs, 0, _ => by simp [putD]
  | [], vs, j + 1, h => by simp at h
  | a :: ws, vs, j + 1, h => by
    have e : wordT n (a :: ws) = .tup [a, wordT n ws] := rfl
    rw [List.replicate_succ, putD, e]
    have e2 : (kids (.tup [a, wordT n ws])).getD (0 : Int).toNat .non = wordT n ws := rfl
    rw [e2, put_word n ws vs j (by simpa using h), List.take_succ_cons]
    rfl
theorem part_word (n : Nat) : ∀ (ws : List D) (j : Nat), j ≤ ws.length → partD (List.replicate j 0) (wordT n ws) = some (wordT n (ws.drop j))
  | ws, 0, _ => by simp [partD]
  | [], j + 1, h => by simp at h
  | a :: ws, j + 1, h => by
    have e : wordT n (a :: ws) = .tup [a, wordT n ws] := rfl
    rw [List.replicate_succ, partD, e]
    have e2 : kidAt (.tup [a, wordT n ws]) 0 = some (wordT n ws) := rfl
    rw [e2, List.drop_succ_cons]
    exact part_word n ws j (by simpa using h)
/-! ### word_steps -/
def sp_word_steps : DSp := fun ds m Q E => match ds with
  | [s, d, x] => gd s = true ∧ gd d = true ∧ gd x = true ∧ (lettersB s = true → ∀ rs w, d = .tup (rs.map ruleI) → x = plD w → wrulesB (els s).length d = true → wordB (els s).length x = true → Q (.tup ((ats rs w).map pairI)) m) ∧
      (lettersB s = false → E (.ref (X.c "BadLetters")) none m) ∧ (lettersB s = true → wrulesB (els s).length d = false → E (.ref (X.c "BadWordRules")) none m) ∧ (lettersB s = true → wrulesB (els s).length d = true → wordB (els s).length x = false → E (.ref (X.c "BadWord")) none m)
  | _ => False
def t_word_steps : DTS :=
  dSeq (dDrop (dCallF 2 (sp_need_word_rules X) (dCons (dVar 0) (dCons (dVar 1) dNil)))) <|
  dSeq (dDrop (dCallF 2 (sp_need_word X) (dCons (dVar 0) (dCons (dVar 2) dNil)))) <|
  dSeq (dAsg (dLst true dNil) (dgName 3)) <|
  dSeq (dFor (diEnum (dCons (dVar 1) dNil)) (dgTup 2 (dgCons (dgName 4) (dgCons (dgTup 2 (dgCons (dgName 5) (dgCons (dgName 6) dgNil))) dgNil))) (dSeq (dAsg (dOp subR (dCall lenR (dCons (dVar 2) dNil)) (dCall lenR (dCons (dVar 5) dNil))) (dgName 7)) <|
      dIfS (dAndT (dTest (dOp geR (dVar 7) (dC (.int 0)))) (dTest (dOp eqR (dSl false (dVar 2) (dPart (dVar 7)) dNoPart) (dVar 5)))) (dDrop (dBM appendR (dVar 3) (dCons (dTup (dCons (dVar 7) (dCons (dVar 4) dNil))) dNil))) (dNext))) <|
  dRet (dCall tupleR (dCons (dCall (sortedR false) (dCons (dVar 3) dNil)) dNil))
theorem wrules_ints {n : Nat} : ∀ {xs : List D}, (∀ x ∈ xs, wruleB n x = true) → ∃ rs : List WR, xs = rs.map ruleI ∧ ∀ r ∈ rs, wordB n (plD r.1) = true ∧ wordB n (plD r.2) = true ∧ r.1 ≠ r.2
  | [], _ => ⟨[], rfl, fun r hr => by cases hr⟩
  | x :: xs, h => by
    obtain ⟨us, vs, rfl, a, b, c⟩ := wrule_two (h x List.mem_cons_self)
    obtain ⟨rs, e, hr⟩ := wrules_ints fun y hy => h y (List.mem_cons_of_mem _ hy)
    refine ⟨(us, vs) :: rs, by rw [e]; rfl, fun r hm => ?_⟩
    rcases List.mem_cons.mp hm with rfl | hm
    · exact ⟨a, b, c⟩
    · exact hr r hm
theorem eq_plR {a b : List Int} {m : AH} {Q : DQ} (q : Q (.bl (decide (a = b))) m) : eqR (.tup (a.map D.int)) (.tup (b.map D.int)) m Q := by
  have h : eqD (.tup (a.map D.int)) (.tup (b.map D.int)) = decide (a = b) := eq_pl a b
  simp only [eqR, val, h]
  exact ⟨gd_lay _ (by simp only [gd]; exact gds_intsW a), gd_lay _ (by simp only [gd]; exact gds_intsW b), by simp only [dep, dep_ints]; omega, q⟩
theorem v_word_steps {W : DW} {E : DEnds} {m : AH} {s d x : D} (g : gd s = true) (g2 : gd d = true) (g3 : gd x = true) (q : lettersB s = true → ∀ rs w, d = .tup (rs.map ruleI) → x = plD w → wrulesB (els s).length d = true → wordB (els s).length x = true → ∀ m', Le m m' → E.rt (.tup ((ats rs w).map pairI)) m')
    (r1 : ∀ δ, lettersB s = false → W (.ref (X.c "BadLetters")) none δ m) (r2 : ∀ δ, lettersB s = true → wrulesB (els s).length d = false → W (.ref (X.c "BadWordRules")) none δ m) (r3 : ∀ δ, lettersB s = true → wrulesB (els s).length d = true → wordB (els s).length x = false → W (.ref (X.c "BadWord")) none δ m) :
    t_word_steps X W E [some s, some d, some x, none, none, none, none, none] m := by
  have big : (1000000 : Nat) ≤ sizeLine := sl0
  unfold t_word_steps
  simp only [S, SS', SL, SB, sp_need_word_rules]
  refine ⟨g, g2, fun h1 h2 => ?_, r1 _, r2 _⟩
  have q := q h1
  have r3 := fun δ => r3 δ h1 h2
  obtain ⟨ls, rfl, _⟩ := letters_parts h1
  simp only [sp_need_word]
  refine ⟨g3, fun h3 => ?_, fun h3 => r3 _ h3⟩
  obtain ⟨xs, rfl, lx, ha, _⟩ := wrules_parts h2
  obtain ⟨rs, rfl, hr⟩ := wrules_ints ha
  obtain ⟨w, rfl, lw, _⟩ := word_pl h3
  have q := q rs w rfl rfl h2 h3
  rw [List.length_map] at lx
  refine ⟨by omega, fun p hp => ?_⟩
  simp only [diEnum, S, SB, plD]
  refine ⟨_, rs.map ruleI, rfl, rfl, ?_⟩
  refine for_fix (enumD 0 (rs.map ruleI)) (fun i δ m' => ∃ x4 x5 x6 x7, δ = [some (.tup ls), some (.tup (rs.map ruleI)), some (.tup (w.map D.int)), some (.ref p), x4, x5, x6, x7] ∧ m' = put m p (.lst (((List.range i).filterMap (atOf rs w)).map pairI))) (fun _ _ _ _ => rfl) ⟨none, none, none, none, rfl, rfl⟩ ?_ ?_
  · rintro i k y δ m' hy hi hl ⟨x4, x5, x6, x7, rfl, rfl⟩
    rw [enumD_len, List.length_map] at hl
    rw [enumD_rng, List.length_map, List.getElem?_map, List.getElem?_range hl] at hy
    cases hy
    have er : (rs.map ruleI).getD i .non = .tup [plD (rs.getD i ([], [])).1, plD (rs.getD i ([], [])).2] := by
      rw [List.getD_eq_getElem?_getD, List.getElem?_map, List.getD_eq_getElem?_getD, List.getElem?_eq_getElem hl]
      rfl
    have et : (List.range (i + 1)).filterMap (atOf rs w) = (List.range i).filterMap (atOf rs w) ++ (match atOf rs w i with | some z => [z] | none => []) := by
      rw [List.range_succ, List.filterMap_append]
      cases h : atOf rs w i <;> simp [h]
    have fl : ((List.range i).filterMap (atOf rs w)).length ≤ i := by
      have := List.length_filterMap_le (atOf rs w) (List.range i)
      rwa [List.length_range] at this
    have hl2 : i < (enumD 0 (rs.map ruleI)).length := by rw [enumD_len, List.length_map]; exact hl
    have goal : ∀ f x7, f = (List.range (i + 1)).filterMap (atOf rs w) → fN (enumD 0 (rs.map ruleI)) (fun i δ m' => ∃ x4 x5 x6 x7, δ = [some (.tup ls), some (.tup (rs.map ruleI)), some (.tup (w.map D.int)), some (.ref p), x4, x5, x6, x7] ∧ m' = put m p (.lst (((List.range i).filterMap (atOf rs w)).map pairI))) i k
        [some (.tup ls), some (.tup (rs.map ruleI)), some (.tup (w.map D.int)), some (.ref p), some (.int ((0 + i : Nat) : Int)), some (plD (rs.getD i ([], [])).1), some (plD (rs.getD i ([], [])).2), x7] (put m p (.lst (f.map pairI))) := fun f x7 e => by
      rw [e]
      exact fN_intro hi hl2 ⟨_, _, _, _, rfl, rfl⟩
    dsimp only
    rw [er]
    rw [et] at goal
    have ea : atOf rs w i = if (rs.getD i ([], [])).1.length ≤ w.length ∧ w.drop (w.length - (rs.getD i ([], [])).1.length) = (rs.getD i ([], [])).1 then some (w.length - (rs.getD i ([], [])).1.length, i) else none := rfl
    generalize (rs.getD i ([], [])).2 = v at goal ⊢
    generalize (List.range i).filterMap (atOf rs w) = f at goal fl ⊢
    generalize atOf rs w i = o at goal ea
    generalize (rs.getD i ([], [])).1 = u at goal ea ⊢
    simp only [plD, S, SS', SB, lenR, VL, List.length_map, subR, ordR]
    by_cases c : u.length ≤ w.length
    · have c' : 0 ≤ ((w.length : Int) - (u.length : Int)) := by omega
      rw [decide_eq_true c', if_pos rfl]
      simp only [slR]
      rw [cut_from _ (by omega), ← List.map_drop, show ((w.length : Int) - (u.length : Int)).toNat = w.length - u.length by omega]
      refine eq_plR ⟨_, rfl, ?_⟩
      by_cases c2 : w.drop (w.length - u.length) = u
      · rw [decide_eq_true c2, if_pos rfl]
        rw [if_pos ⟨c, c2⟩] at ea
        subst ea
        refine ⟨⟨_, asLp⟩, by omega, _, put_same, by rw [List.length_map]; omega, ?_⟩
        rw [put_put]
        have := goal _ (some (.int ((w.length : Int) - (u.length : Int)))) rfl
        rw [List.map_append] at this
        have e3 : [(w.length - u.length, i)].map pairI = [D.tup [.int ((w.length : Int) - (u.length : Int)), .int ((0 + i : Nat) : Int)]] := by
          simp only [List.map_singleton, pairI, Nat.zero_add]
          rw [show ((w.length - u.length : Nat) : Int) = (w.length : Int) - (u.length : Int) by omega]
        rw [e3] at this
        exact this
      · rw [decide_eq_false c2, if_neg (by decide)]
        rw [if_neg (fun z => c2 z.2)] at ea
        subst ea
        have := goal f (some (.int ((w.length : Int) - (u.length : Int)))) (by simp)
        exact this
    · have c' : ¬ 0 ≤ ((w.length : Int) - (u.length : Int)) := by omega
      rw [decide_eq_false c', if_neg (by decide)]
      rw [if_neg (fun z => c z.1)] at ea
      subst ea
      have := goal f (some (.int ((w.length : Int) - (u.length : Int)))) (by simp)
      exact this
  · rintro δ m' ⟨x4, x5, x6, x7, rfl, rfl⟩
    rw [enumD_len, List.length_map]
    simp only [S, SS', SB]
    refine ⟨_, asLp, .inr ⟨⟨true, pairI_sort _⟩, fun ys py so => ?_⟩⟩
    rw [if_neg (by decide)]
    rw [sort_found py so]
    exact ⟨_, rfl, q _ (Le.new hp)⟩
end L2.AP
set_option Elab.async false
set_option linter.all false
set_option maxRecDepth 100000
set_option maxHeartbeats 4000000
/-! W7: word rules and their trees are right together. -/
namespace L2.AP
open PySem PySem.Spec PyProof.Rows
def WordN (n k : Nat) (u : List Int) : Prop := u.length ≤ k ∧ ∀ i ∈ u, 0 ≤ i ∧ i < n
theorem WordN.mono {n k l : Nat} {u : List Int} (h : WordN n k u) (hk : k ≤ l) : WordN n l u := ⟨by have := h.1; omega, h.2⟩
theorem WordN.app {n k l : Nat} {u v : List Int} (h : WordN n k u) (h2 : WordN n l v) : WordN n (k + l) (u ++ v) := ⟨by rw [List.length_append]; have := h.1; have := h2.1; omega, fun i hi => (List.mem_append.mp hi).elim (h.2 i) (h2.2 i)⟩
theorem WordN.take {n k : Nat} {u : List Int} (h : WordN n k u) (j : Nat) : WordN n k (u.take j) := ⟨by rw [List.length_take]; have := h.1; omega, fun i hi => h.2 i (List.mem_of_mem_take hi)⟩
theorem WordN.wi {n k : Nat} {u : List Int} (h : WordN n k u) : ∀ w ∈ u.map D.int, withinB 0 ((n : Int) - 1) w = true := fun w hw => by
  obtain ⟨i, hi, rfl⟩ := List.mem_map.mp hw
  have := h.2 i hi
  simp only [withinB, Bool.and_eq_true, decide_eq_true_eq]
  omega
theorem WordN.b {n k : Nat} {u : List Int} (h : WordN n k u) (hk : k ≤ 59) : wordB n (plD u) = true := by
  simp only [plD, wordB, Bool.and_eq_true, decide_eq_true_eq, List.all_eq_true, List.length_map]
  exact ⟨by have := h.1; omega, h.wi⟩
theorem WordN.g {u : List Int} : gd (plD u) = true := by
  simp only [plD, gd]
  exact gds_intsW u
structure WRG (n most : Nat) (rs : List WR) : Prop where
  len : rs.length ≤ most
  w : ∀ r ∈ rs, WordN n 3 r.1 ∧ WordN n 3 r.2 ∧ r.1 ≠ r.2
  nd : rs.Nodup
theorem keysL_map : ∀ {xs : List D}, (∀ x ∈ xs, ∃ k, keyD x = some k) → keysD xs = some (xs.map keyL)
  | [], _ => rfl
  | x :: xs, h => by
    obtain ⟨k, e⟩ := h x List.mem_cons_self
    have := keysL_map fun y hy => h y (List.mem_cons_of_mem _ hy)
    simp [keysD, e, this, keyL_of e]
theorem keys_nodup {α : Type} {rs : List α} {f : α → D} (nd : rs.Nodup) (hk : ∀ r ∈ rs, ∃ k, keyD (f r) = some k) (inj : ∀ r ∈ rs, ∀ s ∈ rs, eqD (f r) (f s) = true → r = s) : (keysL (rs.map f)).Nodup := by
  have e : keysD (rs.map f) = some ((rs.map f).map keyL) := keysL_map fun x hx => by
    obtain ⟨r, hr, rfl⟩ := List.mem_map.mp hx
    exact hk r hr
  rw [keysL_of e, List.map_map]
  unfold List.Nodup at nd ⊢
  rw [List.pairwise_map]
  refine nd.imp_of_mem fun {a b} ha hb h z => h (inj a ha b hb ?_)
  obtain ⟨k, e1⟩ := hk a ha
  obtain ⟨l, e2⟩ := hk b hb
  simp only [Function.comp_apply, keyL_of e1, keyL_of e2] at z
  exact (eqD_iff e1 e2).mpr z
theorem eq_ruleI (r s : WR) : eqD (ruleI r) (ruleI s) = decide (r = s) := by
  obtain ⟨a, b⟩ := r
  obtain ⟨c, d⟩ := s
  have : eqD (ruleI (a, b)) (ruleI (c, d)) = (eqD (plD a) (plD c) && (eqD (plD b) (plD d) && true)) := rfl
  rw [this, eq_pl, eq_pl, Bool.eq_iff_iff]
  simp
theorem eq_treeI (n : Nat) (r s : WR) : eqD (treeI n r) (treeI n s) = decide (r = s) := by
  obtain ⟨a, b⟩ := r
  obtain ⟨c, d⟩ := s
  have : eqD (treeI n (a, b)) (treeI n (c, d)) = (eqD (wordT n (a.map D.int)) (wordT n (c.map D.int)) && (eqD (wordT n (b.map D.int)) (wordT n (d.map D.int)) && true)) := rfl
  rw [this, eq_word, eq_word, Bool.eq_iff_iff]
  simp
theorem trees_of (n : Nat) (rs : List WR) : treesOf n (.tup (rs.map ruleI)) = .tup (rs.map (treeI n)) := by
  simp only [treesOf, List.map_map]
  rfl
section
variable {n most : Nat} {rs : List WR}
theorem WRG.wb (h : WRG n most rs) (hm : most ≤ 30) : wrulesB n (.tup (rs.map ruleI)) = true ∧ gd (.tup (rs.map ruleI)) = true := by
  constructor
  · simp only [wrulesB, Bool.and_eq_true, decide_eq_true_eq, List.all_eq_true, List.length_map]
    refine ⟨⟨by have := h.len; omega, fun x hx => ?_⟩, keys_nodup h.nd (fun r _ => ⟨_, wrule_key r.1 r.2⟩) fun r _ s _ e => by rw [eq_ruleI] at e; simpa using e⟩
    obtain ⟨r, hr, rfl⟩ := List.mem_map.mp hx
    obtain ⟨w1, w2, ne⟩ := h.w r hr
    simp only [ruleI, wruleB, w1.b (by decide), w2.b (by decide), eq_pl]
    simpa using ne
  · simp only [gd]
    refine gds_of fun x hx => ?_
    obtain ⟨r, hr, rfl⟩ := List.mem_map.mp hx
    simp only [ruleI, gd, gds, WordN.g]
    rfl
theorem word_tree_ok {ls : List D} {k : Nat} {u : List Int} (h : WordN ls.length k u) (hk : k ≤ 59) : treeB (els (sgW (.tup ls))) (wordT ls.length (u.map D.int)) = true ∧ gd (wordT ls.length (u.map D.int)) = true ∧ vld (els (sgW (.tup ls))) (wordT ls.length (u.map D.int)) = true ∧ dpD (wordT ls.length (u.map D.int)) = u.length + 1 ∧ szD (wordT ls.length (u.map D.int)) = u.length + 1 := by
  have t := wordT_ok (ls := ls) (e := endN (ls.map txt)) h.wi
  rw [List.length_map] at t
  have l := h.1
  refine ⟨?_, t.2.1, t.1, t.2.2.2, t.2.2.1⟩
  unfold treeB
  rw [show vld (els (sgW (.tup ls))) (wordT ls.length (u.map D.int)) = true from t.1, decide_eq_true (by rw [t.2.2.1]; omega), decide_eq_true (by rw [t.2.2.2]; omega)]
  rfl
theorem WRG.rb {ls : List D} (h : WRG ls.length most rs) (hm : most ≤ 30) : rulesB (els (sgW (.tup ls))) (.tup (rs.map (treeI ls.length))) = true ∧ gd (.tup (rs.map (treeI ls.length))) = true ∧ tameR (els (sgW (.tup ls))) (.tup (rs.map (treeI ls.length))) := by
  have key : ∀ r ∈ rs, ∃ k, keyD (treeI ls.length r) = some k := fun r hr => by
    obtain ⟨w1, w2, _⟩ := h.w r hr
    obtain ⟨k, e1, _⟩ := tree_key _ (word_tree_ok w1 (by decide)).2.2.1
    obtain ⟨l, e2, _⟩ := tree_key _ (word_tree_ok w2 (by decide)).2.2.1
    exact ⟨.tup [k, l], by simp [treeI, keyD, keysD, e1, e2]⟩
  refine ⟨?_, ?_, tame_low fun xs e x hx => ?_⟩
  · simp only [rulesB, Bool.and_eq_true, decide_eq_true_eq, List.all_eq_true, List.length_map]
    refine ⟨⟨by have := h.len; omega, fun x hx => ?_⟩, keys_nodup h.nd key fun r _ s _ e => by rw [eq_treeI] at e; simpa using e⟩
    obtain ⟨r, hr, rfl⟩ := List.mem_map.mp hx
    obtain ⟨w1, w2, ne⟩ := h.w r hr
    simp only [treeI, ruleB, (word_tree_ok w1 (by decide)).1, (word_tree_ok w2 (by decide)).1, eq_word]
    simpa using ne
  · simp only [gd]
    refine gds_of fun x hx => ?_
    obtain ⟨r, hr, rfl⟩ := List.mem_map.mp hx
    obtain ⟨w1, w2, _⟩ := h.w r hr
    simp only [treeI, gd, gds, (word_tree_ok w1 (by decide)).2.1, (word_tree_ok w2 (by decide)).2.1]
    rfl
  · cases e
    obtain ⟨r, hr, rfl⟩ := List.mem_map.mp hx
    obtain ⟨w1, w2, _⟩ := h.w r hr
    obtain ⟨_, _, v1, d1, _⟩ := word_tree_ok w1 (by decide)
    obtain ⟨_, _, v2, d2, _⟩ := word_tree_ok w2 (by decide)
    have l1 := w1.1
    have l2 := w2.1
    simp only [treeI, dep, deps, dep_dp _ v1, dep_dp _ v2, d1, d2]
    omega
end
end L2.AP
set_option Elab.async false
set_option linter.all false
set_option maxRecDepth 100000
set_option maxHeartbeats 4000000
/-! VX: the readings of word rules keep their promises. -/
namespace L2.AP
open PySem PySem.Spec PyProof.Rows
theorem V_is_word_rule : ∀ ds m Q E, ds.length = 2 → sp_is_word_rule ds m Q E → t_is_word_rule (fun cls d _ m' => E cls d m') (bodyEnds Q) (startD ["letters", "thing", "word"] ds) m := by
  intro ds m Q E hl q
  unfold sp_is_word_rule at q
  split at q
  · exact v_is_word_rule q.1 (rt q.2)
  · exact q.elim
theorem V_need_word_rules (X : Ex) : ∀ ds m Q E, ds.length = 2 → sp_need_word_rules X ds m Q E → t_need_word_rules X (fun cls d _ m' => E cls d m') (bodyEnds Q) (startD ["letters", "word_rules", "one"] ds) m := by
  intro ds m Q E hl q
  unfold sp_need_word_rules at q
  split at q
  · exact v_need_word_rules X q.1 q.2.1 (fun δ h h2 => rt (q.2.2.1 h h2)) (fun δ => q.2.2.2.1) fun δ => q.2.2.2.2
  · exact q.elim
theorem V_rules_of_words (X : Ex) : ∀ ds m Q E, ds.length = 2 → sp_rules_of_words X ds m Q E → t_rules_of_words X (fun cls d _ m' => E cls d m') (bodyEnds Q) (startD ["letters", "word_rules", "u", "v"] ds) m := by
  intro ds m Q E hl q
  unfold sp_rules_of_words at q
  split at q
  · exact v_rules_of_words X q.1 q.2.1 (fun h h2 => rt (q.2.2.1 h h2)) (fun δ => q.2.2.2.1) fun δ => q.2.2.2.2
  · exact q.elim
theorem V_words_of_rules (X : Ex) : ∀ ds m Q E, ds.length = 2 → sp_words_of_rules X ds m Q E → t_words_of_rules X (fun cls d _ m' => E cls d m') (bodyEnds Q) (startD ["letters", "rules", "left", "right"] ds) m := by
  intro ds m Q E hl q
  unfold sp_words_of_rules at q
  split at q
  · exact v_words_of_rules X q.1 q.2.1 q.2.2.1 (fun h h2 ps e hp => rt (q.2.2.2.1 h h2 ps e hp)) (fun δ => q.2.2.2.2.1) fun δ => q.2.2.2.2.2
  · exact q.elim
theorem V_word_steps (X : Ex) : ∀ ds m Q E, ds.length = 3 → sp_word_steps X ds m Q E → t_word_steps X (fun cls d _ m' => E cls d m') (bodyEnds Q) (startD ["letters", "word_rules", "word", "found", "k", "u", "v", "at"] ds) m := by
  intro ds m Q E hl q
  unfold sp_word_steps at q
  split at q
  · exact v_word_steps X q.1 q.2.1 q.2.2.1 (fun h rs w e1 e2 h1 h2 m' l => ⟨_, l, q.2.2.2.1 h rs w e1 e2 h1 h2⟩) (fun δ => q.2.2.2.2.1) (fun δ => q.2.2.2.2.2.1) fun δ => q.2.2.2.2.2.2
  · exact q.elim
end L2.AP
set_option Elab.async false
set_option linter.all false
set_option maxRecDepth 100000
set_option maxHeartbeats 4000000
/-! BG1: the bag of a script, draws from it, sameness of told and due. -/
namespace L2.AP
open PySem PySem.Spec PyProof.Rows
def BagV (o : MO) : Prop := ∃ (cells : List Int) (i b c : Int), o = .lst [.lst (cells.map D.int), .int i, .int b, .int c] ∧ cells.length ≤ 63 ∧ 0 ≤ i ∧ 0 ≤ b ∧ 0 ≤ c
def Bag (m : AH) (a : Addr) : Prop := ∃ o, m a = some o ∧ BagV o
theorem Bag.put {m : AH} {a : Addr} {o : MO} (h : BagV o) : Bag (AP.put m a o) a := ⟨o, put_same, h⟩
theorem Bag.other {m : AH} {a p : Addr} {o : MO} (h : Bag m a) (ne : a ≠ p) : Bag (AP.put m p o) a := by
  obtain ⟨u, h1, h2⟩ := h
  exact ⟨u, by rw [put_ne ne]; exact h1, h2⟩
def sp__law_bag : DSp := fun ds m Q _ => match ds with
  | [.rdl xs] => (∃ ns : List Int, xs = ns.map D.int ∧ ns.length ≤ 63) ∧ ∀ p o, m p = none → BagV o → Q (.ref p) (put m p o)
  | _ => False
def t__law_bag : DTS :=
  dRet (dLst true (dCons (dCall (listR false) (dCons (dVar 0) dNil)) (dCons (dC (.int 0)) (dCons (dC (.int 0)) (dCons (dC (.int 7)) dNil)))))
theorem V__law_bag : ∀ ds m Q E, ds.length = 1 → sp__law_bag ds m Q E → t__law_bag (fun cls d _ m' => E cls d m') (bodyEnds Q) (startD ["script"] ds) m := by
  intro ds m Q E hl q
  unfold sp__law_bag at q
  split at q
  · obtain ⟨⟨ns, e, hn⟩, q⟩ := q
    subst e
    show t__law_bag _ _ [some _] m
    unfold t__law_bag
    simp only [S, SS', SB, listR, VL, Bool.false_eq_true, if_false]
    have big : (1000000 : Nat) ≤ sizeLine := sl0
    refine ⟨by omega, fun p hp => rt (q p _ hp ⟨ns, 0, 0, 7, rfl, hn, by decide, by decide, by decide⟩)⟩
  · exact q.elim
def sp__law_pick : DSp := fun ds m Q _ => match ds with
  | [.ref a, .int many] => Bag m a ∧ 0 < many ∧ many < 1000000 ∧ ∀ r o, 0 ≤ r → r < many → BagV o → Q (.int r) (put m a o)
  | _ => False
def t__law_pick : DTS :=
  dSeq (dIfS (dTest (dOp ltR (dOp ixR (dVar 0) (dC (.int 2))) (dVar 1))) (dSeq (dAsg (dOp ixR (dVar 0) (dC (.int 1))) (dgName 2)) <|
      dSeq (dAsg (dIf (dTest (dOp ltR (dVar 2) (dCall lenR (dCons (dOp ixR (dVar 0) (dC (.int 0))) dNil)))) (dOp ixR (dOp ixR (dVar 0) (dC (.int 0))) (dVar 2)) (dOp addR (dOp fdivR (dOp ixR (dVar 0) (dC (.int 3))) (dC (.int 3))) (dOp mulR (dC (.int 77003)) (dVar 2)))) (dgName 3)) <|
      dSeq (dAsg (dIf (dTest (dOp geR (dVar 3) (dC (.int 0)))) (dOp mulR (dC (.int 2)) (dVar 3)) (dOp subR (dOp mulR (dUn negR (dC (.int 2))) (dVar 3)) (dC (.int 1)))) (dgName 3)) <|
      dSeq (dIfS (dTest (dOp ltR (dVar 3) (dOp powR (dC (.int 10)) (dC (.int 18))))) (dSeq (dAsg (dOp mulR (dOp addR (dOp addR (dOp mulR (dVar 3) (dC (.int 1103515249))) (dOp mulR (dC (.int 12820163)) (dVar 2))) (dC (.int 2147480009))) (dOp addR (dOp addR (dVar 3) (dC (.int 86028157))) (dVar 2))) (dgName 3)) <|
          dAsg (dOp addR (dOp fdivR (dOp mulR (dVar 3) (dVar 3)) (dC (.int 4093))) (dOp mulR (dVar 3) (dC (.int 6700417)))) (dgName 3)) (dNext)) <|
      dSeq (dAsg (dOp addR (dVar 2) (dC (.int 1))) (dgSub (dVar 0) (dC (.int 1)))) <|
      dSeq (dAsg (dVar 3) (dgSub (dVar 0) (dC (.int 2)))) <|
      dAsg (dOp modR (dCall intR (dCons (dOp addR (dOp mulR (dOp ixR (dVar 0) (dC (.int 3))) (dC (.int 40692))) (dVar 3)) dNil)) (dC (.int 2305843009213693951))) (dgSub (dVar 0) (dC (.int 3)))) (dNext)) <|
  dSeq (dAsg (dOp modR (dCall intR (dCons (dOp ixR (dVar 0) (dC (.int 2))) dNil)) (dVar 1)) (dgName 4)) <|
  dSeq (dAsg (dOp fdivR (dOp ixR (dVar 0) (dC (.int 2))) (dVar 1)) (dgSub (dVar 0) (dC (.int 2)))) <|
  dRet (dVar 4)
def t_pick2 : DTS :=
  dSeq (dAsg (dOp modR (dCall intR (dCons (dOp ixR (dVar 0) (dC (.int 2))) dNil)) (dVar 1)) (dgName 4)) <|
  dSeq (dAsg (dOp fdivR (dOp ixR (dVar 0) (dC (.int 2))) (dVar 1)) (dgSub (dVar 0) (dC (.int 2)))) <|
  dRet (dVar 4)
def t_pick3 : DTS :=
      dSeq (dAsg (dOp addR (dVar 2) (dC (.int 1))) (dgSub (dVar 0) (dC (.int 1)))) <|
      dSeq (dAsg (dVar 3) (dgSub (dVar 0) (dC (.int 2)))) <|
      dAsg (dOp modR (dCall intR (dCons (dOp addR (dOp mulR (dOp ixR (dVar 0) (dC (.int 3))) (dC (.int 40692))) (dVar 3)) dNil)) (dC (.int 2305843009213693951))) (dgSub (dVar 0) (dC (.int 3)))
def t_pick1 : DTS :=
      dSeq (dIfS (dTest (dOp ltR (dVar 3) (dOp powR (dC (.int 10)) (dC (.int 18))))) (dSeq (dAsg (dOp mulR (dOp addR (dOp addR (dOp mulR (dVar 3) (dC (.int 1103515249))) (dOp mulR (dC (.int 12820163)) (dVar 2))) (dC (.int 2147480009))) (dOp addR (dOp addR (dVar 3) (dC (.int 86028157))) (dVar 2))) (dgName 3)) <|
          dAsg (dOp addR (dOp fdivR (dOp mulR (dVar 3) (dVar 3)) (dC (.int 4093))) (dOp mulR (dVar 3) (dC (.int 6700417)))) (dgName 3)) (dNext)) <|
      t_pick3
def t_pick0 : DTS :=
      dSeq (dAsg (dIf (dTest (dOp geR (dVar 3) (dC (.int 0)))) (dOp mulR (dC (.int 2)) (dVar 3)) (dOp subR (dOp mulR (dUn negR (dC (.int 2))) (dVar 3)) (dC (.int 1)))) (dgName 3)) <| t_pick1
theorem atL3 {α : Type} {a b c d : α} {r : List α} : atI (a :: b :: c :: d :: r) 3 = some d := by rw [atN (by decide) (by simp; omega)]; rfl
theorem v_pick2 {W : DW} {E : DEnds} {m : AH} {a : Addr} {many : Int} {x y z : Option D} (hb : Bag m a) (h1 : 0 < many) (h2 : many < 1000000)
    (q : ∀ r o, 0 ≤ r → r < many → BagV o → E.rt (.int r) (put m a o)) : t_pick2 W E [some (.ref a), some (.int many), x, y, z] m := by
  obtain ⟨_, hm, cells, i, b, c, rfl, l, i0, b0, c0⟩ := hb
  unfold t_pick2
  simp only [S, SS', SB]
  refine ixR_w hm atL2 ?_
  simp only [intR, modR]
  refine ⟨h1, ?_⟩
  refine ixR_w hm atL2 ?_
  simp only [fdivR]
  refine ⟨⟨h1, by omega⟩, _, 2, hm, rfl, ?_⟩
  exact q _ _ (Int.emod_nonneg _ (by omega)) (Int.emod_lt_of_pos _ h1) ⟨cells, _, _, _, rfl, l, i0, Int.ediv_nonneg b0 (by omega), c0⟩
theorem log_le {i : Int} {n : Nat} (h0 : 0 ≤ i) (h : i < 2 ^ n) : i.natAbs.log2 ≤ n := by
  by_cases z : i.natAbs = 0
  · rw [z]; simp
  · have h3 : i.natAbs < 2 ^ n := by
      have : (i.natAbs : Int) < ((2 ^ n : Nat) : Int) := by
        rw [Int.natAbs_of_nonneg h0]
        exact_mod_cast h
      exact_mod_cast this
    exact Nat.le_of_lt ((Nat.log2_lt z).mpr h3)
theorem v_pick1 {W : DW} {E : DEnds} {m : AH} {a : Addr} {many cell i b c : Int} {cells : List Int} {z : Option D} (hm : m a = some (.lst [.lst (cells.map D.int), .int i, .int b, .int c])) (l : cells.length ≤ 63) (i0 : 0 ≤ i) (b0 : 0 ≤ b) (c0 : 0 ≤ c) (cell0 : 0 ≤ cell)
    (hi : cell < 1000000000000000000 → i < 20000000000000) (q : ∀ o x, BagV o → E.nx [some (.ref a), some (.int many), some (.int i), x, z] (put m a o)) : t_pick1 W E [some (.ref a), some (.int many), some (.int i), some (.int cell), z] m := by
  have e18 : ((10 : Int) ^ (18 : Int).toNat) = 1000000000000000000 := by decide
  unfold t_pick1
  simp only [S, SS', SB, powR, e18, ordR, ltR]
  have fin : ∀ cell : Int, 0 ≤ cell → t_pick3 W E [some (.ref a), some (.int many), some (.int i), some (.int cell), z] m := fun cell cell0 => by
    unfold t_pick3
    simp only [S, SS', SB, addR, setR]
    refine ⟨_, 1, hm, rfl, ?_⟩
    simp only [List.set]
    refine ⟨_, 2, put_same, rfl, ?_⟩
    rw [put_put]
    simp only [List.set]
    refine ixR_w put_same atL3 ?_
    simp only [mulR, intR, modR]
    refine ⟨mulS (by decide), by decide, _, 3, put_same, rfl, ?_⟩
    rw [put_put]
    simp only [List.set]
    exact q _ _ ⟨cells, i + 1, cell, _, rfl, l, by omega, cell0, Int.emod_nonneg _ (by decide)⟩
  refine ⟨by decide, ?_⟩
  by_cases g : cell < 1000000000000000000
  · have hi := hi g
    rw [if_pos (by simpa using g)]
    simp only [mulR, addR, fdivR]
    refine ⟨.inr (.inl ⟨by decide, by decide⟩), .inl ⟨by decide, by decide⟩, .inr (.inl ⟨by omega, by omega⟩), ?_⟩
    have p1 : 0 ≤ (cell * 1103515249 + 12820163 * i + 2147480009) * (cell + 86028157 + i) := Int.mul_nonneg (by omega) (by omega)
    have p2 : (cell * 1103515249 + 12820163 * i + 2147480009) * (cell + 86028157 + i) < 2 ^ 200 := by
      have a1 : cell * 1103515249 + 12820163 * i + 2147480009 < 2 ^ 100 := by omega
      have a2 : cell + 86028157 + i < 2 ^ 100 := by omega
      calc (cell * 1103515249 + 12820163 * i + 2147480009) * (cell + 86028157 + i) ≤ 2 ^ 100 * (cell + 86028157 + i) := Int.mul_le_mul_of_nonneg_right (by omega) (by omega)
        _ < 2 ^ 100 * 2 ^ 100 := Int.mul_lt_mul_of_pos_left a2 (by decide)
        _ = 2 ^ 200 := by decide
    generalize (cell * 1103515249 + 12820163 * i + 2147480009) * (cell + 86028157 + i) = c2 at *
    have lg := log_le p1 p2
    refine ⟨.inr (.inr (by omega)), ⟨by decide, by decide⟩, .inr (.inl ⟨by decide, by decide⟩), ?_⟩
    have p3 : 0 ≤ c2 * c2 / 4093 + c2 * 6700417 := by
      have h1 : 0 ≤ c2 * c2 := Int.mul_nonneg p1 p1
      have h2 : 0 ≤ c2 * c2 / 4093 := Int.ediv_nonneg h1 (by decide)
      omega
    exact fin _ p3
  · rw [if_neg (by simpa using g)]
    exact fin cell cell0
theorem v_pick0 {W : DW} {E : DEnds} {m : AH} {a : Addr} {many cell i b c : Int} {cells : List Int} {z : Option D} (hm : m a = some (.lst [.lst (cells.map D.int), .int i, .int b, .int c])) (l : cells.length ≤ 63) (i0 : 0 ≤ i) (b0 : 0 ≤ b) (c0 : 0 ≤ c)
    (hi : i < 63 ∨ 77003 * i ≤ cell) (q : ∀ o x, BagV o → E.nx [some (.ref a), some (.int many), some (.int i), x, z] (put m a o)) : t_pick0 W E [some (.ref a), some (.int many), some (.int i), some (.int cell), z] m := by
  unfold t_pick0
  simp only [S, SS', SB, ordR]
  by_cases g : 0 ≤ cell
  · rw [if_pos (by simpa using g)]
    simp only [mulR]
    refine ⟨.inl ⟨by decide, by decide⟩, v_pick1 hm l i0 b0 c0 (by omega) (fun h => by omega) q⟩
  · rw [if_neg (by simpa using g)]
    simp only [mulR, subR, negR]
    refine ⟨.inl ⟨by decide, by decide⟩, v_pick1 hm l i0 b0 c0 (by omega) (fun h => by omega) q⟩
theorem v__law_pick {W : DW} {E : DEnds} {m : AH} {a : Addr} {many : Int} (hb : Bag m a) (h1 : 0 < many) (h2 : many < 1000000)
    (q : ∀ r o, 0 ≤ r → r < many → BagV o → E.rt (.int r) (put m a o)) : t__law_pick W E [some (.ref a), some (.int many), none, none, none] m := by
  have e : t__law_pick = dSeq (dIfS (dTest (dOp ltR (dOp ixR (dVar 0) (dC (.int 2))) (dVar 1))) (dSeq (dAsg (dOp ixR (dVar 0) (dC (.int 1))) (dgName 2)) <|
      dSeq (dAsg (dIf (dTest (dOp ltR (dVar 2) (dCall lenR (dCons (dOp ixR (dVar 0) (dC (.int 0))) dNil)))) (dOp ixR (dOp ixR (dVar 0) (dC (.int 0))) (dVar 2)) (dOp addR (dOp fdivR (dOp ixR (dVar 0) (dC (.int 3))) (dC (.int 3))) (dOp mulR (dC (.int 77003)) (dVar 2)))) (dgName 3)) <| t_pick0) (dNext)) t_pick2 := rfl
  rw [e]
  obtain ⟨_, hm, cells, i, b, c, rfl, l, i0, b0, c0⟩ := hb
  simp only [S, SS', SB]
  refine ixR_w hm atL2 ?_
  simp only [ordR, ltR, SB]
  by_cases g : b < many
  · rw [if_pos (by simpa using g)]
    refine ixR_w hm atL1 ?_
    refine ixR_w hm atL0 ?_
    simp only [lenR, VL, SB, List.length_map]
    have fin : ∀ o x, BagV o → t_pick2 W E [some (.ref a), some (.int many), some (.int i), x, none] (put m a o) := fun o x ho => v_pick2 (Bag.put ho) h1 h2 fun r o r0 r1 ro => by rw [put_put]; exact q r o r0 r1 ro
    by_cases g2 : i < (cells.length : Int)
    · rw [if_pos (by simpa using g2)]
      refine ixR_w hm atL0 ?_
      have h3 : i.toNat < cells.length := by omega
      refine ixL (x := .int cells[i.toNat]) (by rw [atN i0 (by rw [List.length_map]; exact g2), List.getElem?_map, List.getElem?_eq_getElem h3]; rfl) ?_
      exact v_pick0 hm l i0 b0 c0 (.inl (by omega)) fin
    · rw [if_neg (by simpa using g2)]
      refine ixR_w hm atL3 ?_
      simp only [fdivR, mulR, addR]
      refine ⟨⟨by decide, by decide⟩, .inl ⟨by decide, by decide⟩, ?_⟩
      exact v_pick0 hm l i0 b0 c0 (.inr (by omega)) fin
  · rw [if_neg (by simpa using g)]
    exact v_pick2 ⟨_, hm, cells, i, b, c, rfl, l, i0, b0, c0⟩ h1 h2 q
theorem V__law_pick : ∀ ds m Q E, ds.length = 2 → sp__law_pick ds m Q E → t__law_pick (fun cls d _ m' => E cls d m') (bodyEnds Q) (startD ["bag", "many", "at", "cell", "got"] ds) m := by
  intro ds m Q E hl q
  unfold sp__law_pick at q
  split at q
  · exact v__law_pick q.1 q.2.1 q.2.2.1 fun r o r0 r1 wo => rt (q.2.2.2 r o r0 r1 wo)
  · exact q.elim
/-! ### the same -/
def sp_same (n : Nat) : DSp := fun ds m Q _ => match ds with
  | [d, e] => d = e ∧ gd d = true ∧ isKey d = true ∧ dep d ≤ n ∧ n ≤ 64 ∧ ndD d ≤ 1000000 ∧ Q (.bl true) m
  | _ => False
def spr__law_same : Nat → DSp
  | 0 => fun _ _ _ _ => False
  | n + 1 => sp_same n
def sp__law_same : DSp := spr__law_same 64
def t__law_same (n : Nat) : DTS :=
  dSeq (dIfS (dTruth (dCall (isiR .tuple) (dCons (dVar 1) (dCons (dC (.ty (Kd.name .tuple))) dNil)))) (dSeq (dIfS (dOrT (dNotT (dTruth (dCall (isiR .tuple) (dCons (dVar 0) (dCons (dC (.ty (Kd.name .tuple))) dNil))))) (dTest (dOp neR (dCall lenR (dCons (dVar 0) dNil)) (dCall lenR (dCons (dVar 1) dNil))))) (dRet (dC (.bl false))) (dNext)) <|
      dRet (dOp eqR (dLc false (diRange1 (dCons (dCall lenR (dCons (dVar 1) dNil)) dNil)) (dgName 2) (dNotT (dTruth (dCallF 2 (spr__law_same n) (dCons (dOp ixR (dVar 0) (dVar 2)) (dCons (dOp ixR (dVar 1) (dVar 2)) dNil))))) (dVar 2) [2]) (dLst false dNil))) (dNext)) <|
  dSeq (dIfS (dOrT (dTruth (dCall (isiR .tuple) (dCons (dVar 0) (dCons (dC (.ty (Kd.name .tuple))) dNil)))) (dTest (dOp neR (dCall (isiR .bool) (dCons (dVar 0) (dCons (dC (.ty (Kd.name .bool))) dNil))) (dCall (isiR .bool) (dCons (dVar 1) (dCons (dC (.ty (Kd.name .bool))) dNil)))))) (dRet (dC (.bl false))) (dNext)) <|
  dRet (dAnd (dOp eqR (dCall (isiR .str) (dCons (dVar 0) (dCons (dC (.ty (Kd.name .str))) dNil))) (dCall (isiR .str) (dCons (dVar 1) (dCons (dC (.ty (Kd.name .str))) dNil)))) (dAnd (dOp eqR (dOp isR (dVar 0) (dC .non)) (dOp isR (dVar 1) (dC .non))) (dOp eqR (dVar 0) (dVar 1))))
theorem val_gd {d : D} {m : AH} (g : gd d = true) : val m d = d := by cases d <;> first | rfl | (simp [gd] at g)
theorem eqR_key {d : D} {m : AH} {Q : DQ} (g : gd d = true) (k : isKey d = true) (hd : dep d ≤ 64) (q : Q (.bl true) m) : eqR d d m Q := by
  refine ⟨by rw [val_gd g]; exact gd_lay d g, by rw [val_gd g]; exact gd_lay d g, by rw [val_gd g]; omega, ?_⟩
  rw [val_gd g, eqD_self k]
  exact q
theorem eqR_ii {i j : Int} {m : AH} {Q : DQ} (q : Q (.bl (i == j)) m) : eqR (.int i) (.int j) m Q := ⟨rfl, rfl, Nat.zero_le _, by simpa [val, eqI] using q⟩
theorem eqR_bb {a b : Bool} {m : AH} {Q : DQ} (q : Q (.bl (a == b)) m) : eqR (.bl a) (.bl b) m Q := ⟨rfl, rfl, Nat.zero_le _, by simpa [val, eqD] using q⟩
theorem deps_mem : ∀ (xs : List D) (x : D), x ∈ xs → dep x ≤ deps xs
  | [], _, h => by cases h
  | y :: xs, x, h => by
    rw [deps]
    rcases List.mem_cons.mp h with rfl | h
    · omega
    · have := deps_mem xs x h
      omega
theorem nds_mem : ∀ (xs : List D) (x : D), x ∈ xs → ndD x ≤ ndDs xs
  | [], _, h => by cases h
  | y :: xs, x, h => by
    rw [ndDs]
    rcases List.mem_cons.mp h with rfl | h
    · omega
    · have := nds_mem xs x h
      omega
theorem V__law_same (n : Nat) : ∀ ds m Q E, ds.length = 2 → spr__law_same (n + 1) ds m Q E → t__law_same n (fun cls d _ m' => E cls d m') (bodyEnds Q) (startD ["found", "due", "k"] ds) m := by
  intro ds m Q E hl q
  replace q : sp_same n ds m Q E := q
  unfold sp_same at q
  split at q
  · rename_i d e
    obtain ⟨rfl, g, hk, hd, hn, hz, q⟩ := q
    have big : (1000000 : Nat) ≤ sizeLine := sl0
    show t__law_same n _ _ [some d, some d, none] m
    unfold t__law_same
    simp only [S, SS', SB, isiR, kd_gd g, true_and]
    by_cases ht : ∃ xs, d = .tup xs
    · obtain ⟨xs, rfl⟩ := ht
      have gx : gds xs = true := by simpa [gd] using g
      have kx := isKeys hk
      have lx := nd_len xs
      rw [ndD] at hz
      rw [dep] at hd
      obtain ⟨n, rfl⟩ : ∃ n', n = n' + 1 := ⟨n - 1, by omega⟩
      have es : spr__law_same (n + 1) = sp_same n := rfl
      simp only [kd0, KDT, TR, if_true, Bool.not_true, Bool.false_eq_true, if_false, S, SS', SB, SL, lenR]
      refine ⟨xs, rfl, xs, rfl, neR_ii ?_⟩
      simp only [SB, beq_self_eq_true, Bool.not_true, Bool.false_eq_true, if_false]
      refine ⟨xs, rfl, _, rfl, ⟨by omega, by omega⟩, ?_⟩
      rw [Int.toNat_natCast]
      refine lc_fm (rng 0 1 xs.length) (fun _ => none) (fun _ _ => rfl) (by rw [rng1_len]; omega) (fun x hx m2 C N _ _ hN => ?_) ?_
      · obtain ⟨k, hk2, rfl⟩ := rng_mem hx
        simp only [S, SS', SB, wipeD, List.set]
        have e : atI xs (k : Nat) = some xs[k] := by
          rw [atN (by omega) (by omega), Int.toNat_natCast, List.getElem?_eq_getElem hk2]
        have mx : xs[k] ∈ xs := List.getElem_mem hk2
        have h1 := deps_mem xs _ mx
        have h2 := nds_mem xs _ mx
        rw [es]
        simp only [sp_same]
        refine ixT e (ixT e ⟨rfl, gds_mem gx _ mx, kx _ mx, by omega, by omega, by omega, ?_⟩)
        simp only [TR, Bool.not_true, Bool.false_eq_true, if_false]
        exact hN rfl
      · have en : (rng 0 1 xs.length).filterMap (fun _ => (none : Option D)) = [] := by simp
        rw [en]
        exact ⟨by omega, rfl, rfl, by simp [val, dep, deps], rt q⟩
    · have leaf : ∀ {m : AH} {Q : DQ}, Q (.bl true) m → eqR d d m Q := fun {m Q} h => eqR_key g hk (by omega) h
      cases d with
      | tup ts => exact absurd ⟨_, rfl⟩ ht
      | lst ts => simp [isKey, keyD] at hk
      | ref _ => simp [gd] at g
      | ty _ => simp [gd] at g
      | fn _ => simp [gd] at g
      | rdl _ => simp [gd] at g
      | _ =>
        simp only [kd0, KDT, TR, if_true, Bool.not_true, Bool.false_eq_true, if_false, S, SS', SB, SL, isR]
        refine neR_bb ?_
        simp only [SB, beq_self_eq_true, Bool.not_true, Bool.false_eq_true, if_false]
        refine eqR_bb ?_
        simp only [SB, beq_self_eq_true, if_true]
        refine eqR_bb ?_
        simp only [SB, beq_self_eq_true, if_true]
        exact leaf (rt q)
  · exact q.elim
end L2.AP
set_option Elab.async false
set_option linter.all false
set_option maxRecDepth 100000
set_option maxHeartbeats 4000000
/-! BG2: signatures, sizes and trees drawn from the bag. -/
namespace L2.AP
open PySem PySem.Spec PyProof.Rows
def sp__law_sigb : DSp := fun ds m Q _ => match ds with
  | [.ref a] => Bag m a ∧ ∀ es o, sigB (.tup es) = true → gds es = true → BagV o → Q (.tup es) (put m a o)
  | _ => False
def t__law_sigb : DTS :=
  dSeq (dAsg (dLst true (dCons (dTup (dCons (dC (.str "a")) (dCons (dC (.int 0)) dNil))) (dCons (dTup (dCons (dC (.str "f")) (dCons (dC (.int 1)) dNil))) dNil))) (dgName 1)) <|
  dSeq (dFor (diAny (dLst false (dCons (dTup (dCons (dC (.str "b")) (dCons (dC (.int 0)) dNil))) (dCons (dTup (dCons (dC (.str "h")) (dCons (dC (.int 1)) dNil))) (dCons (dTup (dCons (dC (.str "g")) (dCons (dC (.int 2)) dNil))) (dCons (dTup (dCons (dC (.str "g")) (dCons (dC (.int 2)) dNil))) dNil)))))) (dgName 2) (dIfS (dAndT (dTest (dOp (inR true) (dVar 2) (dVar 1))) (dTest (dOp eqR (dCallF 2 sp__law_pick (dCons (dVar 0) (dCons (dC (.int 2)) dNil))) (dC (.int 0))))) (dDrop (dBM appendR (dVar 1) (dCons (dVar 2) dNil))) (dNext))) <|
  dSeq (dAsg (dCallF 2 sp__law_pick (dCons (dVar 0) (dCons (dCall lenR (dCons (dVar 1) dNil)) dNil))) (dgName 3)) <|
  dRet (dCall tupleR (dCons (dOp addR (dSl false (dVar 1) (dPart (dVar 3)) dNoPart) (dSl false (dVar 1) dNoPart (dPart (dVar 3)))) dNil))
def bagRows : List D := [.tup [.str "b", .int 0], .tup [.str "h", .int 1], .tup [.str "g", .int 2], .tup [.str "g", .int 2]]
def nextRows (x : D) (rs : List (List D)) : List (List D) := rs ++ (rs.filter fun r => !(r.any fun z => eqD z x)).map (· ++ [x])
def rowsAt : Nat → List (List D)
  | 0 => [[.tup [.str "a", .int 0], .tup [.str "f", .int 1]]]
  | i + 1 => nextRows (bagRows.getD i .non) (rowsAt i)
theorem bagRows_ok : ∀ x ∈ bagRows, isTupD x = true ∧ lay x = true ∧ dep x = 1 := by
  intro x hx
  simp only [bagRows, List.mem_cons, List.not_mem_nil, or_false] at hx
  rcases hx with rfl | rfl | rfl | rfl <;> exact ⟨rfl, by decide +kernel, by simp [dep, deps]⟩
theorem rowsAt_ok : ∀ i, i ≤ 4 → ∀ r ∈ rowsAt i, lays r = true ∧ 2 ≤ r.length ∧ r.length ≤ 6 := by
  have : ∀ i ∈ List.range 5, ∀ r ∈ rowsAt i, lays r = true ∧ 2 ≤ r.length ∧ r.length ≤ 6 := by decide +kernel
  exact fun i hi => this i (List.mem_range.mpr (by omega))
theorem rows_sig : ∀ r ∈ rowsAt 4, ∀ t, t < r.length → sigB (.tup (r.drop t ++ r.take t)) = true ∧ gds (r.drop t ++ r.take t) = true := by
  have : ∀ r ∈ rowsAt 4, ∀ t ∈ List.range r.length, sigB (.tup (r.drop t ++ r.take t)) = true ∧ gds (r.drop t ++ r.take t) = true := by decide +kernel
  exact fun r hr t ht => this r hr t (List.mem_range.mpr ht)
theorem rows_keep {i : Nat} {r : List D} (h : r ∈ rowsAt i) : r ∈ rowsAt (i + 1) := List.mem_append_left _ h
theorem rows_more {i : Nat} {r : List D} {x : D} (h : r ∈ rowsAt i) (hx : bagRows[i]? = some x) (hn : (r.any fun z => eqD z x) = false) : r ++ [x] ∈ rowsAt (i + 1) := by
  refine List.mem_append_right _ (List.mem_map.mpr ⟨r, List.mem_filter.mpr ⟨h, ?_⟩, ?_⟩)
  · rw [List.getD_eq_getElem?_getD, hx]
    simp only [Option.getD_some, hn, Bool.not_false]
  · rw [List.getD_eq_getElem?_getD, hx]
    rfl
theorem V__law_sigb : ∀ ds m Q E, ds.length = 1 → sp__law_sigb ds m Q E → t__law_sigb (fun cls d _ m' => E cls d m') (bodyEnds Q) (startD ["bag", "rows", "row", "turn"] ds) m := by
  intro ds m Q E hl q
  unfold sp__law_sigb at q
  split at q
  · rename_i a
    obtain ⟨hb, q⟩ := q
    have big : (1000000 : Nat) ≤ sizeLine := sl0
    show t__law_sigb _ _ [some (.ref a), none, none, none] m
    unfold t__law_sigb
    simp only [S, SS', SL, SB, VL]
    refine ⟨by omega, by omega, by omega, fun p hp => ?_⟩
    have ne : a ≠ p := fun z => by
      obtain ⟨u, h1, _⟩ := hb
      rw [z, hp] at h1
      cases h1
    have comm : ∀ {m : AH} {o : MO} {x : MO}, put (put m p x) a o = put (put m a o) p x := fun {m o x} => AP.put_comm (Ne.symm ne)
    obtain ⟨o0, ho, wo⟩ := hb
    have e0 : m = put m a o0 := by
      funext b
      by_cases c : b = a
      · rw [c, put_same]; exact ho
      · rw [put_ne c]
    refine ⟨by omega, by omega, by omega, by omega, by omega, ⟨_, rfl⟩, ?_⟩
    refine for_fix bagRows (fun i δ m' => ∃ o r x2, BagV o ∧ r ∈ rowsAt i ∧ m' = put (put m a o) p (.lst r) ∧ δ = [some (.ref a), some (.ref p), x2, none]) (fun _ _ _ _ => rfl) ⟨o0, _, none, wo, List.mem_cons_self, by rw [← e0], rfl⟩ ?_ ?_
    · rintro i k x δ m' hx hi hl2 ⟨o, r, x2, wo, hr, rfl, rfl⟩
      obtain ⟨ly, l2, l6⟩ := rowsAt_ok i (by have : bagRows.length = 4 := rfl; omega) r hr
      obtain ⟨tx, lx, dx⟩ := bagRows_ok x (List.mem_of_getElem? hx)
      obtain ⟨ys, rfl⟩ : ∃ ys, x = .tup ys := by cases x <;> first | exact ⟨_, rfl⟩ | (simp [isTupD] at tx)
      simp only [S, SS', SB]
      refine ⟨r, .inl (by simp only [val, put_same]), ly, lx, ?_, ?_⟩
      · show min (deps r) (dep (.tup ys)) ≤ 64
        omega
      · have ev : val (put (put m a o) p (.lst r)) (.tup ys) = .tup ys := rfl
        rw [ev]
        refine ⟨_, rfl, ?_⟩
        cases c2 : r.any fun z => eqD z (.tup ys) with
        | true =>
          simp only [bne_self_eq_false, Bool.false_eq_true, if_false]
          exact fN_intro hi hl2 ⟨o, r, _, wo, rows_keep hr, rfl, rfl⟩
        | false =>
          simp only [show ((false != true) = true) by decide, if_true, sp__law_pick, SB]
          refine ⟨Bag.other (Bag.put wo) ne, by decide, by decide, fun d o2 d0 d1 w2 => ?_⟩
          rw [comm, put_put]
          refine eqR_ii ?_
          simp only [SB]
          by_cases c3 : d = 0
          · subst c3
            simp only [beq_self_eq_true, if_true]
            refine ⟨⟨_, asLp⟩, r, put_same, by omega, ?_⟩
            rw [put_put]
            exact fN_intro hi hl2 ⟨o2, _, _, w2, rows_more hr hx c2, rfl, rfl⟩
          · rw [if_neg (by simpa using c3)]
            exact fN_intro hi hl2 ⟨o2, r, _, w2, rows_keep hr, rfl, rfl⟩
    · rintro δ m' ⟨o, r, x2, wo, hr, rfl, rfl⟩
      have hr : r ∈ rowsAt 4 := hr
      obtain ⟨ly, l2, l6⟩ := rowsAt_ok 4 (by decide) r hr
      simp only [S, SS', SB, lenR, sp__law_pick]
      refine ⟨r, asQp put_same, Bag.other (Bag.put wo) ne, by omega, by omega, fun t o2 t0 t1 w2 => ?_⟩
      rw [comm, put_put]
      simp only [slR, asQ, asLp, Bool.false_eq_true, if_false]
      refine ⟨_, rfl, _, rfl, ?_⟩
      rw [cut_from _ t0, cut_to _ t0]
      simp only [addR, VL, SB]
      refine ⟨_, _, rfl, rfl, by rw [List.length_drop, List.length_take]; omega, ?_⟩
      simp only [tupleR, VL, SB]
      obtain ⟨s1, s2⟩ := rows_sig r hr t.toNat (by omega)
      exact ⟨put m a o2, Le.new (by rw [put_ne (Ne.symm ne)]; exact hp), q _ o2 s1 s2 w2⟩
  · exact q.elim
end L2.AP
set_option Elab.async false
set_option linter.all false
set_option maxRecDepth 100000
set_option maxHeartbeats 4000000
/-! BG3: sizes of trees, drawn trees and rules (recursive defs). -/
namespace L2.AP
open PySem PySem.Spec PyProof.Rows
def sp_sizeb (n : Nat) : DSp := fun ds m Q _ => match ds with
  | [d] => hT d = true ∧ dpD d ≤ n ∧ szD d ≤ 1000000 ∧ Q (.int (szD d)) m
  | _ => False
def spr__law_sizeb : Nat → DSp
  | 0 => fun _ _ _ _ => False
  | n + 1 => sp_sizeb (n + 1)
def sp__law_sizeb : DSp := spr__law_sizeb 64
def t__law_sizeb (n : Nat) : DTS :=
  dRet (dOp addR (dC (.int 1)) (dCall sumR (dCons (dLc false (diAny (dSl false (dVar 0) (dPart (dC (.int 1))) dNoPart)) (dgName 1) dYes (dCallF 1 (spr__law_sizeb n) (dCons (dVar 1) dNil)) [1]) dNil)))
theorem szs_sum : ∀ cs : List D, (cs.map fun c => (szD c : Int)).sum = (szs cs : Int)
  | [] => rfl
  | c :: cs => by rw [List.map_cons, List.sum_cons, szs_sum cs, szs]; omega
theorem dps_mem : ∀ (xs : List D) (x : D), x ∈ xs → dpD x ≤ dps xs
  | [], _, h => by cases h
  | y :: xs, x, h => by
    rw [dps]
    rcases List.mem_cons.mp h with rfl | h
    · omega
    · have := dps_mem xs x h
      omega
theorem szs_mem : ∀ (xs : List D) (x : D), x ∈ xs → szD x ≤ szs xs
  | [], _, h => by cases h
  | y :: xs, x, h => by
    rw [szs]
    rcases List.mem_cons.mp h with rfl | h
    · omega
    · have := szs_mem xs x h
      omega
theorem V__law_sizeb (n : Nat) : ∀ ds m Q E, ds.length = 1 → spr__law_sizeb (n + 1) ds m Q E → t__law_sizeb n (fun cls d _ m' => E cls d m') (bodyEnds Q) (startD ["tree", "child"] ds) m := by
  intro ds m Q E hl q
  replace q : sp_sizeb (n + 1) ds m Q E := q
  unfold sp_sizeb at q
  split at q
  · rename_i d
    obtain ⟨h, hd, hz, q⟩ := q
    have big : (1000000 : Nat) ≤ sizeLine := sl0
    obtain ⟨x, e, hk⟩ := hT_tup h
    have e1 := sz_kids h
    have e2 := dp_kids h
    have l := szs_len (kids d)
    generalize kids d = ks at *
    subst e
    show t__law_sizeb n _ _ [some (.tup (x :: ks)), none] m
    unfold t__law_sizeb
    simp only [S, SS', SB, SL, slR, cut1]
    refine ⟨⟨_, rfl⟩, lc_map ks (fun c => .int (szD c)) (fun _ _ => rfl) (by omega) (fun c hc m2 C _ hC => ?_) ?_⟩
    · simp only [S, SS', SB, wipeD, List.set]
      have d1 := dps_mem ks c hc
      have d2 := dp_pos c
      have s1 := szs_mem ks c hc
      cases n with
      | zero => omega
      | succ n => exact ⟨hTs_mem hk c hc, by omega, by omega, hC⟩
    · refine ⟨ks.map fun c => (szD c : Int), by simp only [VL, List.map_map]; rfl, ?_⟩
      rw [szs_sum]
      simp only [addR]
      have : ((1 : Int) + (szs ks : Int)) = (szD (.tup (x :: ks)) : Int) := by omega
      rw [this]
      exact rt q
  · exact q.elim
/-- a drawn tree of at most k symbols -/
structure TreeN (es : List D) (k : Nat) (t : D) : Prop where
  v : vld es t = true
  g : gd t = true
  s : szD t ≤ k
  d : dpD t ≤ k
theorem pow_ge : ∀ k : Nat, k + 1 ≤ 2 ^ k
  | 0 => by decide
  | k + 1 => by have := pow_ge k; rw [Nat.pow_succ]; omega
theorem TreeN.tg {es : List D} {k : Nat} {t : D} (h : TreeN es (k + 1) t) : TG es k t := ⟨h.v, h.g, by have := h.s; have := pow_ge (k + 1); omega, h.d⟩
theorem TreeN.mono {es : List D} {j k : Nat} {t : D} (h : TreeN es j t) (l : j ≤ k) : TreeN es k t := ⟨h.v, h.g, Nat.le_trans h.s l, Nat.le_trans h.d l⟩
def sp_treeb (n : Nat) : DSp := fun ds m Q _ => match ds with
  | [.ref a, .tup es, .int size] => Bag m a ∧ sigB (.tup es) = true ∧ gds es = true ∧ 1 ≤ size ∧ size ≤ n ∧ size ≤ 60 ∧ ∀ t o, TreeN es size.toNat t → BagV o → Q t (put m a o)
  | _ => False
def spr__law_treeb : Nat → DSp
  | 0 => fun _ _ _ _ => False
  | n + 1 => sp_treeb (n + 1)
def sp__law_treeb : DSp := spr__law_treeb 64
def t__law_treeb (n : Nat) : DTS :=
  dSeq (dAsg (dLc false (diRange1 (dCons (dCall lenR (dCons (dVar 1) dNil)) dNil)) (dgName 6) (dTest (dOp ltR (dOp ixR (dOp ixR (dVar 1) (dVar 6)) (dC (.int 1))) (dVar 2))) (dVar 6) [6]) (dgName 3)) <|
  dSeq (dAsg (dOp ixR (dVar 3) (dCallF 2 sp__law_pick (dCons (dVar 0) (dCons (dCall lenR (dCons (dVar 3) dNil)) dNil)))) (dgName 4)) <|
  dSeq (dIfS (dTest (dOp eqR (dOp ixR (dOp ixR (dVar 1) (dVar 4)) (dC (.int 1))) (dC (.int 0)))) (dRet (dTup (dCons (dVar 4) dNil))) (dNext)) <|
  dSeq (dAsg (dCallF 3 (spr__law_treeb n) (dCons (dVar 0) (dCons (dVar 1) (dCons (dOp subR (dVar 2) (dOp ixR (dOp ixR (dVar 1) (dVar 4)) (dC (.int 1)))) dNil)))) (dgName 5)) <|
  dSeq (dIfS (dTest (dOp eqR (dOp ixR (dOp ixR (dVar 1) (dVar 4)) (dC (.int 1))) (dC (.int 1)))) (dRet (dTup (dCons (dVar 4) (dCons (dVar 5) dNil)))) (dNext)) <|
  dRet (dTup (dCons (dVar 4) (dCons (dVar 5) (dCons (dCallF 3 (spr__law_treeb n) (dCons (dVar 0) (dCons (dVar 1) (dCons (dOp subR (dOp subR (dVar 2) (dC (.int 1))) (dCallF 1 sp__law_sizeb (dCons (dVar 5) dNil))) dNil)))) dNil))))
theorem sig_zero {es : List D} (hs : sigB (.tup es) = true) : ∃ k, k < es.length ∧ arity es k = 0 := by
  simp only [sigB, Bool.and_eq_true, decide_eq_true_eq] at hs
  obtain ⟨_, e, he, ze⟩ := hs
  obtain ⟨k, hk, ek⟩ := List.getElem_of_mem he
  refine ⟨k, hk, ?_⟩
  unfold arity
  rw [List.getD_eq_getElem?_getD, List.getElem?_eq_getElem hk, ek]
  exact ze
theorem treeb_call {n : Nat} {a : Addr} {es : List D} {size : Int} {m : AH} {Q : DQ} {E : DXK} (hb : Bag m a) (hs : sigB (.tup es) = true) (gs : gds es = true) (h1 : 1 ≤ size) (h2 : size ≤ n) (h3 : size ≤ 60) (q : ∀ t o, TreeN es size.toNat t → BagV o → Q t (put m a o)) :
    spr__law_treeb n [.ref a, .tup es, .int size] m Q E := by
  cases n with
  | zero => omega
  | succ n => exact ⟨hb, hs, gs, h1, h2, h3, q⟩
theorem ixTT {m : AH} {xs : List D} {Q : DQ} {i : Int} {nm : D} {v : Int} (e : atI xs i = some (.tup [nm, .int v])) (q : Q (.int v) m) : ixR (.tup xs) (.int i) m fun d m1 => ixR d (.int 1) m1 Q := ixT e (ixT atL1 q)
theorem V__law_treeb (n : Nat) : ∀ ds m Q E, ds.length = 3 → spr__law_treeb (n + 1) ds m Q E → t__law_treeb n (fun cls d _ m' => E cls d m') (bodyEnds Q) (startD ["bag", "signature", "size", "some", "symbol", "first", "k"] ds) m := by
  intro ds m Q E hl q
  replace q : sp_treeb (n + 1) ds m Q E := q
  unfold sp_treeb at q
  split at q
  · rename_i a es size
    obtain ⟨hb, hs, gs, h1, h2, h3, q⟩ := q
    have big : (1000000 : Nat) ≤ sizeLine := sl0
    obtain ⟨s1, s2, ent⟩ := sig_ent hs
    have entI : ∀ f : Int, 0 ≤ f → f < es.length → ∃ nm, atI es f = some (.tup [.str nm, .int (arity es f.toNat)]) ∧ 0 ≤ arity es f.toNat ∧ arity es f.toNat ≤ 2 := fun f f0 f1 => by
      obtain ⟨nm, e, h⟩ := ent f.toNat (by omega)
      exact ⟨nm, by rw [atN f0 f1]; exact e, h⟩
    show t__law_treeb n _ _ [some (.ref a), some (.tup es), some (.int size), none, none, none, none] m
    unfold t__law_treeb
    simp only [S, SS', SB, SL, lenR, VL]
    refine ⟨_, rfl, ⟨by omega, by omega⟩, ?_⟩
    rw [Int.toNat_natCast]
    refine lc_fm (rng 0 1 es.length) (fun d => if arity es (num d).toNat < size then some d else none) (fun _ _ => rfl) (by rw [rng1_len]; omega) (fun x hx m2 C N _ hC hN => ?_) ?_
    · obtain ⟨k, hk, rfl⟩ := rng_mem hx
      obtain ⟨nm, e, _⟩ := entI k (by omega) (by omega)
      have ek : (num (.int (k : Nat))).toNat = k := by simp [num]
      rw [Int.toNat_natCast] at e
      simp only [S, SS', SB, wipeD, List.set]
      refine ixT e (ixT atL1 ?_)
      simp only [ltR, ordR, SB]
      by_cases c : arity es k < size
      · rw [if_pos (by simpa using c)]
        exact hC _ (by rw [ek, if_pos c])
      · rw [if_neg (by simpa using c)]
        exact hN (by rw [ek, if_neg c])
    · have pool : ∀ x ∈ (rng 0 1 es.length).filterMap (fun d => if arity es (num d).toNat < size then some d else none), ∃ f : Int, x = .int f ∧ 0 ≤ f ∧ f < es.length ∧ arity es f.toNat < size := fun x hx => by
        obtain ⟨d, hd, e⟩ := List.mem_filterMap.mp hx
        obtain ⟨k, hk, rfl⟩ := rng_mem hd
        have ek : (num (.int (k : Nat))).toNat = k := by simp [num]
        rw [ek] at e
        by_cases c : arity es k < size
        · rw [if_pos c] at e
          cases e
          exact ⟨k, rfl, by omega, by omega, by rw [Int.toNat_natCast]; exact c⟩
        · rw [if_neg c] at e
          cases e
      have pl : ((rng 0 1 es.length).filterMap (fun d => if arity es (num d).toNat < size then some d else none)).length ≤ es.length := by
        have := List.length_filterMap_le (fun d => if arity es (num d).toNat < size then some d else none) (rng 0 1 es.length)
        rw [rng1_len] at this
        exact this
      have pn : 1 ≤ ((rng 0 1 es.length).filterMap (fun d => if arity es (num d).toNat < size then some d else none)).length := by
        obtain ⟨k, hk, ak⟩ := sig_zero hs
        have : D.int (k : Nat) ∈ (rng 0 1 es.length).filterMap (fun d => if arity es (num d).toNat < size then some d else none) := by
          refine List.mem_filterMap.mpr ⟨.int (k : Nat), ?_, ?_⟩
          · refine List.mem_of_getElem? (i := k) ?_
            unfold rng
            rw [List.getElem?_map, List.getElem?_range hk]
            simp
          · have ek : (num (.int (k : Nat))).toNat = k := by simp [num]
            rw [ek, if_pos (by omega)]
        exact List.length_pos_of_mem this
      generalize (rng 0 1 es.length).filterMap (fun d => if arity es (num d).toNat < size then some d else none) = ps at *
      simp only [SB, sp__law_pick]
      refine ⟨ps, rfl, hb, by omega, by omega, fun r o1 r0 r1 w1 => ?_⟩
      obtain ⟨t, mt, et⟩ := at_mem r0 r1
      obtain ⟨f, rfl, f0, f1, fa⟩ := pool t mt
      obtain ⟨nm, ef, a0, a2⟩ := entI f f0 f1
      refine ixL et (ixT ef (ixT atL1 (eqR_ii ?_)))
      simp only [SB]
      by_cases z0 : arity es f.toNat = 0
      · rw [if_pos (by simpa using z0)]
        refine ⟨by omega, rt (q _ o1 ⟨by simp [vld, vldT, vlds, f0, f1, z0], by simp [gd, gds], by simp [szD, szT, szs]; omega, by simp [dpD, dpT, dps]; omega⟩ w1)⟩
      · rw [if_neg (by simpa using z0)]
        refine ixT ef (ixT atL1 ?_)
        simp only [subR]
        refine treeb_call (Bag.put w1) hs gs (by omega) (by omega) (by omega) fun u o2 hu w2 => ?_
        rw [put_put]
        refine ixT ef (ixT atL1 (eqR_ii ?_))
        simp only [SB]
        by_cases z1 : arity es f.toNat = 1
        · rw [if_pos (by simpa using z1)]
          have u1 := hu.s
          have u2 := hu.d
          refine ⟨by omega, rt (q _ o2 ⟨by simp [vld, vldT, vlds, f0, f1, z1, hu.v], by simp [gd, gds, hu.g], by simp only [szD, szT, szs]; omega, by simp only [dpD, dpT, dps]; omega⟩ w2)⟩
        · rw [if_neg (by simpa using z1)]
          have z2 : arity es f.toNat = 2 := by omega
          have u1 := hu.s
          have u2 := hu.d
          have u3 := sz_pos u
          refine ⟨vld_hT _ hu.v, (by show dpD u ≤ 64; omega), by omega, ?_⟩
          refine treeb_call (Bag.put w2) hs gs (by omega) (by omega) (by omega) fun v o3 hv w3 => ?_
          rw [put_put]
          have v1 := hv.s
          have v2 := hv.d
          refine ⟨by omega, rt (q _ o3 ⟨by simp [vld, vldT, vlds, f0, f1, z2, hu.v, hv.v], by simp [gd, gds, hu.g, hv.g], by simp only [szD, szT, szs]; omega, by simp only [dpD, dpT, dps]; omega⟩ w3)⟩
  · exact q.elim
end L2.AP
set_option Elab.async false
set_option linter.all false
set_option maxRecDepth 100000
set_option maxHeartbeats 4000000
/-! BG4: drawn rules, places by recursion. -/
namespace L2.AP
open PySem PySem.Spec PyProof.Rows
def sp__law_rulesb : DSp := fun ds m Q _ => match ds with
  | [.ref a, .tup es, .int most, .int size] => Bag m a ∧ sigB (.tup es) = true ∧ gds es = true ∧ 0 ≤ most ∧ most ≤ 1000 ∧ 1 ≤ size ∧ size ≤ 7 ∧ ∀ xs o, RulesG es (size.toNat - 1) most.toNat xs → BagV o → Q (.tup xs) (put m a o)
  | _ => False
def t__law_rulesb : DTS :=
  dSeq (dAsg (dLst true dNil) (dgName 4)) <|
  dSeq (dFor (diRange1 (dCons (dCallF 2 sp__law_pick (dCons (dVar 0) (dCons (dOp addR (dVar 2) (dC (.int 1))) dNil))) dNil)) (dgName 5) (dSeq (dAsg (dTup (dCons (dCallF 3 sp__law_treeb (dCons (dVar 0) (dCons (dVar 1) (dCons (dVar 3) dNil)))) (dCons (dCallF 3 sp__law_treeb (dCons (dVar 0) (dCons (dVar 1) (dCons (dVar 3) dNil)))) dNil))) (dgName 6)) <|
      dIfS (dAndT (dTest (dOp neR (dOp ixR (dVar 6) (dC (.int 0))) (dOp ixR (dVar 6) (dC (.int 1))))) (dTest (dOp (inR true) (dVar 6) (dVar 4)))) (dDrop (dBM appendR (dVar 4) (dCons (dVar 6) dNil))) (dNext))) <|
  dRet (dCall tupleR (dCons (dVar 4) dNil))
theorem V__law_rulesb : ∀ ds m Q E, ds.length = 4 → sp__law_rulesb ds m Q E → t__law_rulesb (fun cls d _ m' => E cls d m') (bodyEnds Q) (startD ["bag", "signature", "many", "size", "found", "k", "rule"] ds) m := by
  intro ds m Q E hl q
  unfold sp__law_rulesb at q
  split at q
  · rename_i a es most size
    obtain ⟨hw, hs, gs, m0, m1, n1, n7, q⟩ := q
    have big : (1000000 : Nat) ≤ sizeLine := sl0
    show t__law_rulesb _ _ [some (.ref a), some (.tup es), some (.int most), some (.int size), none, none, none] m
    unfold t__law_rulesb
    simp only [S, SS', SL, SB]
    refine ⟨by omega, fun p hp => ?_⟩
    have ne : a ≠ p := fun z => by
      obtain ⟨u, h1, _⟩ := hw
      rw [z, hp] at h1
      cases h1
    have pn : ∀ {o : MO}, (put m a o) p = none := fun {o} => by
      rw [put_ne (Ne.symm ne)]
      exact hp
    have comm : ∀ {m : AH} {o : MO} {x : MO}, put (put m p x) a o = put (put m a o) p x := fun {m o x} => AP.put_comm (Ne.symm ne)
    simp only [sp__law_pick, addR]
    refine ⟨Bag.other hw ne, by omega, by omega, fun r o2 r0 r1 w2 => ?_⟩
    rw [comm]
    refine ⟨r, rfl, ⟨by omega, by omega⟩, ?_⟩
    have call : ∀ {m : AH} {Q : DQ} {E : DXK}, Bag m a → (∀ t o, TG es (size.toNat - 1) t → BagV o → Q t (put m a o)) → sp__law_treeb [.ref a, .tup es, .int size] m Q E := fun {m Q E} hb q =>
      treeb_call hb hs gs n1 (by show size ≤ (64 : Nat); omega) (by omega) fun t o ht wo => q t o (TreeN.tg (by rw [show size.toNat - 1 + 1 = size.toNat by omega]; exact ht)) wo
    refine for_fix (rng 0 1 r.toNat) (fun i δ m' => ∃ o xs k x, BagV o ∧ m' = put (put m a o) p (.lst xs) ∧ δ = [some (.ref a), some (.tup es), some (.int most), some (.int size), some (.ref p), k, x] ∧ RulesG es (size.toNat - 1) i xs) (fun _ _ _ _ => rfl)
      ⟨o2, [], none, none, w2, rfl, rfl, ⟨by simp, (fun x hx => by cases hx), List.nodup_nil⟩⟩ ?_ ?_
    · rintro i k x δ m' hx hi hl2 ⟨o, xs, kk, xx, wo, rfl, rfl, hR⟩
      rw [rng1_len] at hl2
      have l2 := hR.len
      simp only [S, SS', SB, List.set]
      refine call (Bag.other (Bag.put wo) ne) fun y1 o3 g1 w3 => ?_
      rw [comm, put_put]
      refine call (Bag.other (Bag.put w3) ne) fun y2 o4 g2 w4 => ?_
      rw [comm, put_put]
      refine ⟨by omega, ixT atL0 (ixT atL1 ?_)⟩
      simp only [neR, val_vld g1.v, val_vld g2.v, SB]
      have d1 := g1.dep
      have d2 := g2.dep
      refine ⟨gd_lay _ g1.g, gd_lay _ g2.g, by omega, ?_⟩
      have keep : ∀ x : Option D, fN (rng 0 1 r.toNat) (fun i δ m' => ∃ o xs k x, BagV o ∧ m' = put (put m a o) p (.lst xs) ∧ δ = [some (.ref a), some (.tup es), some (.int most), some (.int size), some (.ref p), k, x] ∧ RulesG es (size.toNat - 1) i xs) i k
          [some (.ref a), some (.tup es), some (.int most), some (.int size), some (.ref p), some (x.getD .non), some (.tup [y1, y2])] (put (put m a o4) p (.lst xs)) := fun x =>
        fN_intro hi (by rw [rng1_len]; exact hl2) ⟨o4, xs, _, _, w4, rfl, rfl, ⟨by omega, hR.all, hR.nd⟩⟩
      cases c1 : eqD y1 y2 with
      | true =>
        simp only [Bool.not_true, Bool.false_eq_true, if_false]
        exact keep (some x)
      | false =>
        simp only [Bool.not_false, if_true]
        have hr : RuleG es (size.toNat - 1) (.tup [y1, y2]) := ⟨y1, y2, rfl, g1, g2, c1⟩
        have ly : lays xs = true := lays_of fun z hz => gd_lay _ (hR.all z hz).g
        refine ⟨xs, .inl (by simp only [val, put_same]), ly, gd_lay _ hr.g, ?_, ?_⟩
        · have := hr.dep
          show min (deps xs) (dep (.tup [y1, y2])) ≤ 64
          omega
        · have ev : val (put (put m a o4) p (.lst xs)) (.tup [y1, y2]) = .tup [y1, y2] := rfl
          rw [ev]
          refine ⟨_, rfl, ?_⟩
          cases c2 : xs.any fun z => eqD z (.tup [y1, y2]) with
          | true => exact keep (some x)
          | false =>
            simp only [show ((false != true) = true) by decide, if_true]
            refine ⟨⟨_, asLp⟩, xs, put_same, by omega, ?_⟩
            rw [put_put]
            exact fN_intro hi (by rw [rng1_len]; exact hl2) ⟨o4, xs ++ [.tup [y1, y2]], _, _, w4, rfl, rfl, hR.snoc hr c2⟩
    · rintro δ m' ⟨o, xs, k, x, wo, rfl, rfl, hR⟩
      rw [rng1_len] at hR
      simp only [S, SS', SB]
      refine ⟨xs, asQp put_same, put m a o, Le.new pn, q xs o ⟨by have := hR.len; omega, hR.all, hR.nd⟩ wo⟩
  · exact q.elim
end L2.AP
set_option Elab.async false
set_option linter.all false
set_option maxRecDepth 100000
set_option maxHeartbeats 4000000
/-! BG5: places and exchanges by recursion. -/
namespace L2.AP
open PySem PySem.Spec PyProof.Rows
theorem rngL_get {lo : Int} {n i : Nat} {x : D} (h : (rng lo 1 n)[i]? = some x) : i < n ∧ x = D.int (lo + (i : Nat)) := by
  unfold rng at h
  rw [List.getElem?_map] at h
  cases e : (List.range n)[i]? with
  | none => rw [e] at h; cases h
  | some k =>
    rw [e] at h
    have hi := (List.getElem?_eq_some_iff.mp e).1
    rw [List.length_range] at hi
    rw [List.getElem?_range hi] at e
    cases e
    cases h
    exact ⟨hi, by simp⟩
theorem rngL_len {lo : Int} {n : Nat} : (rng lo 1 n).length = n := by unfold rng; simp
def shiftP (pl : List Int) (x : List Int × D) : List Int × D := (pl ++ x.1, x.2)
mutual
theorem spots_shift : ∀ (d : D) (pl q : List Int), spotsD (pl ++ q) d = (spotsD q d).map (shiftP pl)
  | .tup xs, pl, q => by rw [spotsD, spotsD, List.map_cons, spotsT_shift xs pl q]; rfl
  | .non, _, _ => by simp [spotsD, shiftP]
  | .bl _, _, _ => by simp [spotsD, shiftP]
  | .int _, _, _ => by simp [spotsD, shiftP]
  | .str _, _, _ => by simp [spotsD, shiftP]
  | .ref _, _, _ => by simp [spotsD, shiftP]
  | .ty _, _, _ => by simp [spotsD, shiftP]
  | .fn _, _, _ => by simp [spotsD, shiftP]
  | .rdl _, _, _ => by simp [spotsD, shiftP]
  | .lst _, _, _ => by simp [spotsD, shiftP]
theorem spotsT_shift : ∀ (xs : List D) (pl q : List Int), spotsT (pl ++ q) xs = (spotsT q xs).map (shiftP pl)
  | [], _, _ => by simp [spotsT]
  | _ :: cs, pl, q => by rw [spotsT, spotsT, spotsK_shift cs pl q 0]
theorem spotsK_shift : ∀ (cs : List D) (pl q : List Int) (i : Nat), spotsK (pl ++ q) i cs = (spotsK q i cs).map (shiftP pl)
  | [], _, _, _ => by simp [spotsK]
  | c :: cs, pl, q, i => by rw [spotsK, spotsK, List.map_append, List.append_assoc, spots_shift c, spotsK_shift cs]
end
theorem spotsK_app (pl : List Int) : ∀ (xs ys : List D) (i : Nat), spotsK pl i (xs ++ ys) = spotsK pl i xs ++ spotsK pl (i + xs.length) ys
  | [], ys, i => by simp [spotsK]
  | x :: xs, ys, i => by rw [List.cons_append, spotsK, spotsK, spotsK_app pl xs ys, List.append_assoc, List.length_cons, show i + 1 + xs.length = i + (xs.length + 1) by omega]
mutual
theorem spots_short : ∀ (d : D) (pl : List Int) (x : List Int × D), x ∈ spotsD pl d → x.1.length ≤ pl.length + dpD d
  | .tup xs, pl, x, h => by
    rw [spotsD] at h
    rcases List.mem_cons.mp h with rfl | h
    · exact Nat.le_add_right _ _
    · rw [dpD]
      exact spotsT_short xs pl x h
  | .non, pl, x, h => by simp only [spotsD] at h; rw [List.mem_singleton.mp h]; exact Nat.le_add_right _ _
  | .bl _, pl, x, h => by simp only [spotsD] at h; rw [List.mem_singleton.mp h]; exact Nat.le_add_right _ _
  | .int _, pl, x, h => by simp only [spotsD] at h; rw [List.mem_singleton.mp h]; exact Nat.le_add_right _ _
  | .str _, pl, x, h => by simp only [spotsD] at h; rw [List.mem_singleton.mp h]; exact Nat.le_add_right _ _
  | .ref _, pl, x, h => by simp only [spotsD] at h; rw [List.mem_singleton.mp h]; exact Nat.le_add_right _ _
  | .ty _, pl, x, h => by simp only [spotsD] at h; rw [List.mem_singleton.mp h]; exact Nat.le_add_right _ _
  | .fn _, pl, x, h => by simp only [spotsD] at h; rw [List.mem_singleton.mp h]; exact Nat.le_add_right _ _
  | .rdl _, pl, x, h => by simp only [spotsD] at h; rw [List.mem_singleton.mp h]; exact Nat.le_add_right _ _
  | .lst _, pl, x, h => by simp only [spotsD] at h; rw [List.mem_singleton.mp h]; exact Nat.le_add_right _ _
theorem spotsT_short : ∀ (xs : List D) (pl : List Int) (x : List Int × D), x ∈ spotsT pl xs → x.1.length ≤ pl.length + dpT xs
  | [], pl, x, h => by rw [spotsT] at h; cases h
  | f :: cs, pl, x, h => by
    rw [spotsT] at h
    have := spotsK_short cs pl 0 x h
    rw [dpT]
    omega
theorem spotsK_short : ∀ (cs : List D) (pl : List Int) (i : Nat) (x : List Int × D), x ∈ spotsK pl i cs → x.1.length ≤ pl.length + 1 + dps cs
  | [], pl, i, x, h => by rw [spotsK] at h; cases h
  | c :: cs, pl, i, x, h => by
    rw [spotsK] at h
    rw [dps]
    rcases List.mem_append.mp h with h | h
    · have := spots_short c _ x h
      rw [List.length_append, List.length_singleton] at this
      omega
    · have := spotsK_short cs pl (i + 1) x h
      omega
end
def sp_spotsb (n : Nat) : DSp := fun ds m Q _ => match ds with
  | [t] => hT t = true ∧ dpD t ≤ n ∧ n ≤ 1000 ∧ szD t ≤ 10000 ∧ ∀ p, m p = none → Q (.ref p) (put m p (.lst ((spotsD [] t).map spotD)))
  | _ => False
def spr__law_spotsb : Nat → DSp
  | 0 => fun _ _ _ _ => False
  | n + 1 => sp_spotsb (n + 1)
def sp__law_spotsb : DSp := spr__law_spotsb 64
def t__law_spotsb (n : Nat) : DTS :=
  dSeq (dAsg (dLst true (dCons (dTup (dCons (dTup dNil) (dCons (dVar 0) dNil))) dNil)) (dgName 1)) <|
  dSeq (dFor (diRange2 (dCons (dC (.int 1)) (dCons (dCall lenR (dCons (dVar 0) dNil)) dNil))) (dgName 2) (dDrop (dBM extendR (dVar 1) (dCons (dLc false (diAny (dCallF 1 (spr__law_spotsb n) (dCons (dOp ixR (dVar 0) (dVar 2)) dNil))) (dgTup 2 (dgCons (dgName 3) (dgCons (dgName 4) dgNil))) dYes (dTup (dCons (dOp addR (dTup (dCons (dOp subR (dVar 2) (dC (.int 1))) dNil)) (dVar 3)) (dCons (dVar 4) dNil))) [3, 4]) dNil)))) <|
  dRet (dVar 1)
theorem le_put_of {m m' : AH} {p : Addr} {o : MO} (l : Le m m') (h : m' p = some o) : Le (put m p o) m' := fun a u e => by
  by_cases c : a = p
  · rw [c, put_same] at e
    cases e
    rw [c]
    exact h
  · rw [put_ne c] at e
    exact l a u e
theorem V__law_spotsb (n : Nat) : ∀ ds m Q E, ds.length = 1 → spr__law_spotsb (n + 1) ds m Q E → t__law_spotsb n (fun cls d _ m' => E cls d m') (bodyEnds Q) (startD ["tree", "found", "i", "place", "part"] ds) m := by
  intro ds m Q E hl q
  replace q : sp_spotsb (n + 1) ds m Q E := q
  unfold sp_spotsb at q
  split at q
  · rename_i t
    obtain ⟨ht, hd, hn, hz, q⟩ := q
    have big : (1000000 : Nat) ≤ sizeLine := sl0
    obtain ⟨f, et, hk⟩ := hT_tup ht
    have e1 := sz_kids ht
    have e2 := dp_kids ht
    have lk := szs_len (kids t)
    generalize kids t = cs at *
    subst et
    show t__law_spotsb n _ _ [some (.tup (f :: cs)), none, none, none, none] m
    unfold t__law_spotsb
    simp only [S, SS', SB, SL]
    refine ⟨by omega, by omega, by omega, fun p hp => ?_⟩
    simp only [diRange2, S, SB, lenR, VL, List.length_cons]
    refine ⟨_, _, rfl, ⟨by omega, by omega⟩, ⟨by omega, by omega⟩, ?_⟩
    rw [show (((cs.length + 1 : Nat) : Int) - 1).toNat = cs.length by omega]
    refine for_fix (rng 1 1 cs.length) (fun i δ m' => ∃ x2, m' p = some (.lst ((([], .tup (f :: cs)) :: spotsK [] 0 (cs.take i)).map spotD)) ∧ Le m m' ∧ δ = [some (.tup (f :: cs)), some (.ref p), x2, none, none]) (fun _ _ _ _ => rfl)
      ⟨none, by rw [put_same]; rfl, Le.new hp, rfl⟩ ?_ ?_
    · rintro i k x δ m' hx hi hl2 ⟨x2, hp', le, rfl⟩
      obtain ⟨hi2, rfl⟩ := rngL_get hx
      rw [rngL_len] at hl2 hi
      have mc : cs[i] ∈ cs := List.getElem_mem hi2
      have hc : cs[i]? = some cs[i] := List.getElem?_eq_getElem hi2
      generalize cs[i] = c at mc hc
      have d1 := dps_mem cs c mc
      have d2 := dp_pos c
      have z1 := szs_mem cs c mc
      obtain ⟨n, rfl⟩ : ∃ n', n = n' + 1 := ⟨n - 1, by omega⟩
      have es : spr__law_spotsb (n + 1) = sp_spotsb (n + 1) := rfl
      rw [es]
      simp only [S, SS', SB, SL, sp_spotsb]
      refine ⟨⟨_, asL_ref hp'⟩, ?_⟩
      refine ixT (x := c) (by rw [show ((1 : Int) + (i : Int)) = (i : Int) + 1 by omega]; exact at_kid (by omega) (by rw [Int.toNat_natCast]; exact hc)) ?_
      refine ⟨hTs_mem hk c mc, by omega, by omega, by omega, fun p2 hp2 => ?_⟩
      have ne : p ≠ p2 := fun z => by rw [← z, hp'] at hp2; cases hp2
      have hn2 : m p2 = none := le.none hp2
      refine ⟨⟨(spotsD [] c).map spotD, asQp put_same⟩, lc_map ((spotsD [] c).map spotD) (fun d => .tup [.tup (.int (i : Int) :: els (fst d)), snd d]) (fun m2 l => ?_) ?_ (fun y hy m2 C _ hC => ?_) ?_⟩
      · exact asQp (l p2 _ put_same)
      · rw [List.length_map, spots_len]
        omega
      · obtain ⟨z, hz2, rfl⟩ := List.mem_map.mp hy
        have zl := spots_short c [] z hz2
        simp only [spotD, plD, S, SS', SB, wipeD, List.set, subR, addR, List.length_map, show ((1 : Int) + (i : Int) - 1) = (i : Int) by omega]
        refine ⟨by omega, by simp only [List.length_nil] at zl; omega, ?_⟩
        refine ⟨by omega, ?_⟩
        simpa [fst, snd, els, spotD, plD] using hC
      · have st : szs (cs.take i) ≤ szs cs := by
          have := szs_app (cs.take i) (cs.drop i)
          rw [List.take_append_drop] at this
          omega
        refine ⟨_, _, by rw [put_ne ne]; exact hp', .inl rfl, ?_, ?_⟩
        · simp only [List.length_map, List.length_cons, spots_len, spotsK_len]
          omega
        · have ea : ((([], D.tup (f :: cs)) :: spotsK [] 0 (cs.take i)).map spotD) ++ ((spotsD [] c).map spotD).map (fun d => D.tup [.tup (.int (i : Int) :: els (fst d)), snd d]) = ((([], D.tup (f :: cs)) :: spotsK [] 0 (cs.take (i + 1))).map spotD) := by
            have e5 : cs.take (i + 1) = cs.take i ++ [c] := by rw [List.take_succ, hc]; rfl
            have e6 : (cs.take i).length = i := by rw [List.length_take]; omega
            rw [e5, spotsK_app, e6, spotsK, spotsK, List.append_nil, List.nil_append, Nat.zero_add]
            have e7 := spots_shift c [(i : Int)] []
            rw [List.append_nil] at e7
            rw [e7, List.map_cons, List.map_cons, List.map_append, List.cons_append, List.map_map, List.map_map]
            rfl
          rw [ea]
          exact fN_intro (by rw [rngL_len]; exact hi) (by rw [rngL_len]; exact hl2) ⟨_, put_same, (le.put_new hn2).put_new hp, rfl⟩
    · rintro δ m' ⟨x2, hp', le, rfl⟩
      rw [rngL_len, List.take_of_length_le (Nat.le_refl _)] at hp'
      simp only [S, SS', SB]
      refine ⟨_, le_put_of le hp', ?_⟩
      have := q p hp
      rw [spotsD, spotsT] at this
      exact this
  · exact q.elim
end L2.AP
set_option Elab.async false
set_option linter.all false
set_option maxRecDepth 100000
set_option maxHeartbeats 4000000
/-! SI1: spots_in. -/
namespace L2.AP
open PySem PySem.Spec PyProof.Rows
theorem kids_downS (x : List Int × D) : (rng (((kids x.2).length : Int) - 1) (-1) (kids x.2).length).map (fun d => spotD (x.1 ++ [num d], (kids x.2).getD (num d).toNat .non)) = ((kidsX x).reverse).map spotD := by
  rw [kidsX, kidsK_rng, rngd_map, List.map_reverse, List.map_map]
  congr 1
  refine List.map_congr_left fun k _ => ?_
  simp [num]
def sp_spots_in : DSp := fun ds m Q _ => match ds with
  | [t] => (∃ es, vld es t = true) ∧ gd t = true ∧ szD t ≤ 1000 ∧ dpD t ≤ 60 ∧ ∀ p, m p = none → Q (.ref p) (put m p (.lst ((spotsD [] t).map spotD)))
  | _ => False
def t_spinC : DTS :=
      dDrop (dBM extendR (dVar 2) (dCons (dLc false (diRange3 (dCons (dOp subR (dCall lenR (dCons (dVar 4) dNil)) (dC (.int 2))) (dCons (dUn negR (dC (.int 1))) (dCons (dUn negR (dC (.int 1))) dNil)))) (dgName 5) dYes (dTup (dCons (dOp addR (dVar 3) (dTup (dCons (dVar 5) dNil))) (dCons (dOp ixR (dVar 4) (dOp addR (dVar 5) (dC (.int 1)))) dNil))) [5]) dNil))
def t_spinB : DTS := (dSeq (dAsg (dBM popR (dVar 2) dNil) (dgTup 2 (dgCons (dgName 3) (dgCons (dgName 4) dgNil)))) <|
      dSeq (dDrop (dBM appendR (dVar 1) (dCons (dTup (dCons (dVar 3) (dCons (dVar 4) dNil))) dNil))) <| t_spinC)
def t_spots_in : DTS :=
  dSeq (dPar 1 2 (dCons (dLst true dNil) (dCons (dLst true (dCons (dTup (dCons (dTup dNil) (dCons (dVar 0) dNil))) dNil)) dNil))) <|
  dSeq (dWhile (dTest (dOp neR (dVar 2) (dLst false dNil))) t_spinB) <|
  dRet (dVar 1)
theorem v_spinB {W : DW} {E : DEnds} {m : AH} {p pw : Addr} {w fnd : List (List Int × D)} {x : List Int × D} {x0 x3 x4 x5 : Option D} (hp : m p = some (.lst (fnd.map spotD))) (hw : m pw = some (.lst (w.map spotD ++ [spotD x]))) (ne : p ≠ pw)
    (ht : hT x.2 = true) (lf : fnd.length ≤ 100000) (lw : w.length + (kids x.2).length ≤ 100000) (lx : x.1.length ≤ 1000)
    (q : ∀ m', m' p = some (.lst ((fnd ++ [x]).map spotD)) → m' pw = some (.lst ((w ++ (kidsX x).reverse).map spotD)) → (∀ m0, Le m0 m → m0 p = none → m0 pw = none → Le m0 m') → E.nx [x0, some (.ref p), some (.ref pw), some (plD x.1), some x.2, x5] m') :
    t_spinB W E [x0, some (.ref p), some (.ref pw), x3, x4, x5] m := by
  have big : (1000000 : Nat) ≤ sizeLine := sl0
  obtain ⟨f, et, hk⟩ := hT_tup ht
  unfold t_spinB
  simp only [S, SS', SB]
  refine ⟨⟨_, asL_ref hw⟩, w.map spotD, spotD x, hw, ?_⟩
  have sx : spotD x = .tup [plD x.1, x.2] := rfl
  rw [sx]
  simp only [SS', S, SB]
  have hp1 : (put m pw (.lst (w.map spotD))) p = some (.lst (fnd.map spotD)) := by rw [put_ne ne]; exact hp
  refine ⟨⟨_, asL_ref hp1⟩, by omega, fnd.map spotD, hp1, by rw [List.length_map]; omega, ?_⟩
  generalize em : put (put m pw (.lst (w.map spotD))) p (.lst (fnd.map spotD ++ [.tup [plD x.1, x.2]])) = m2
  have hp2 : m2 p = some (.lst ((fnd ++ [x]).map spotD)) := by rw [← em, put_same, List.map_append]; rfl
  have hw2 : m2 pw = some (.lst (w.map spotD)) := by rw [← em, put_ne (Ne.symm ne), put_same]
  have hL : ∀ m0, Le m0 m → m0 p = none → m0 pw = none → Le m0 m2 := fun m0 l n1 n2 => by rw [← em]; exact (l.put_new n2).put_new n1
  unfold t_spinC
  have q' := q (put m2 pw (.lst ((w ++ (kidsX x).reverse).map spotD))) (by rw [put_ne ne]; exact hp2) put_same fun m0 l n1 n2 => (hL m0 l n1 n2).put_new n2
  generalize ek : kids x.2 = cs at et hk lw
  rw [et] at q' ⊢
  simp only [S, SS', SL, SB, diRange3, lenR, VL, subR, negR]
  refine ⟨⟨_, asL_ref hw2⟩, _, _, _, cs.length, rfl, ?_, ?_⟩
  · rw [show (((cs.length + 1 : Nat) : Int) - 2) = (cs.length : Int) - 1 by omega]
    exact rgc_down cs.length (by omega)
  · rw [show (((cs.length + 1 : Nat) : Int) - 2) = (cs.length : Int) - 1 by omega]
    refine lc_map (rng ((cs.length : Int) - 1) (-1) cs.length) (fun d => spotD (x.1 ++ [num d], cs.getD (num d).toNat .non)) (fun _ _ => rfl) (by rw [rng_len]; omega) (fun y hy m3 C _ hC => ?_) ?_
    · obtain ⟨i, hi, ey⟩ := List.getElem_of_mem hy
      obtain ⟨h1, h2⟩ := rngd_get (List.getElem?_eq_some_iff.mpr ⟨hi, ey⟩)
      have h3 : cs.length - 1 - i < cs.length := by omega
      generalize cs.length - 1 - i = k at h2 h3
      subst h2
      simp only [S, SS', SB, wipeD, List.set, addR, plD, List.length_map]
      refine ⟨by omega, by omega, ixT (at_kid (by omega) (c := cs.getD k .non) (by rw [Int.toNat_natCast]; exact (getD_mem h3).1)) ⟨by omega, ?_⟩⟩
      simpa [spotD, plD, num] using hC
    · have e := kids_downS x
      rw [ek] at e
      rw [e]
      refine ⟨w.map spotD, _, hw2, .inl rfl, ?_, ?_⟩
      · rw [List.length_map, List.length_map, List.length_reverse, kidsX, kidsK_rng, ek, List.length_map, List.length_range]
        omega
      · rw [← List.map_append]
        exact q'
theorem V_spots_in : ∀ ds m Q E, ds.length = 1 → sp_spots_in ds m Q E → t_spots_in (fun cls d _ m' => E cls d m') (bodyEnds Q) (startD ["tree", "found", "waiting", "place", "part", "i"] ds) m := by
  intro ds m Q E hl q
  unfold sp_spots_in at q
  split at q
  · rename_i t
    obtain ⟨⟨es, v⟩, g, hs, hd, q⟩ := q
    have big : (1000000 : Nat) ≤ sizeLine := sl0
    show t_spots_in _ _ [some t, none, none, none, none, none] m
    unfold t_spots_in
    simp only [S, SS', SB]
    refine ⟨by omega, fun p hp => ⟨by omega, by omega, by omega, fun pw hpw => ?_⟩⟩
    have n0 : p ≠ pw := fun z => by rw [← z, put_same] at hpw; cases hpw
    have hpw0 : m pw = none := by rwa [put_ne (Ne.symm n0)] at hpw
    refine ⟨fun k δ m' => ∃ (w vis : List (List Int × D)) (x3 x4 : Option D), δ = [some t, some (.ref p), some (.ref pw), x3, x4, none] ∧ m' p = some (.lst (vis.map spotD)) ∧ m' pw = some (.lst (w.map spotD)) ∧ Le m m' ∧ vis ++ w.reverse.flatMap spotsX = spotsD [] t ∧ k = (w.reverse.flatMap spotsX).length,
      ⟨_, [([], t)], [], none, none, rfl, by rw [put_ne n0, put_same]; rfl, by rw [put_same]; rfl, (Le.new hp).put_new hpw0, by simp [spotsX], rfl⟩, ?_⟩
    rintro k δ m' ⟨w, vis, x3, x4, rfl, h1, h2, le, pm, rfl⟩
    have all : ∀ x ∈ vis ++ w.reverse.flatMap spotsX, partD x.1 t = some x.2 ∧ vld es x.2 = true ∧ gd x.2 = true ∧ szD x.2 ≤ szD t ∧ dpD x.2 + x.1.length ≤ dpD t := fun x hx => spots_all v g (by rw [← pm]; exact hx)
    have len := congrArg List.length pm
    rw [spots_len, List.length_append] at len
    have ww : ∀ {x : List Int × D}, x ∈ w → x ∈ vis ++ w.reverse.flatMap spotsX := fun {x} hx => List.mem_append_right _ (List.mem_flatMap.mpr ⟨x, List.mem_reverse.mpr hx, spotsX_mem x⟩)
    have ly : lays (w.map spotD) = true := lays_of fun y hy => by
      obtain ⟨x, hx, rfl⟩ := List.mem_map.mp hy
      exact lay_spot (all x (ww hx)).2.2.1
    have lw := flat_len w.reverse
    rw [List.length_reverse] at lw
    simp only [S, SS', SB, neR, val, h2, lay, ly, lays, eqD, eqDs_nil, dep, deps, map_nil_iff]
    refine ⟨by omega, by omega, ?_⟩
    rcases List.eq_nil_or_concat w with rfl | ⟨w, x, rfl⟩
    · simp only [List.isEmpty_nil, Bool.not_true, Bool.false_eq_true, if_false]
      simp only [List.reverse_nil, List.flatMap_nil, List.append_nil] at pm
      rw [pm] at h1
      exact ⟨_, (fun a u e => by
        by_cases c : a = p
        · subst c; rw [put_same] at e; rw [h1]; exact e
        · rw [put_ne c] at e; exact le a u e), q p hp⟩
    · have hcon : w.concat x = w ++ [x] := by simp
      rw [hcon] at h2 pm len ww all lw ⊢
      rw [if_pos (by simp)]
      have hx := all x (ww (by simp))
      have hT := vld_hT x.2 hx.2.1
      have sk := sz_kids hT
      have sl := szs_len (kids x.2)
      have er : (w ++ [x]).reverse.flatMap spotsX = x :: (w ++ (kidsX x).reverse).reverse.flatMap spotsX := by
        rw [List.reverse_append, List.reverse_append, List.reverse_reverse, List.reverse_singleton, List.flatMap_append, List.flatMap_append, List.flatMap_cons, List.flatMap_nil, List.append_nil, spotsX_eq x]
        rfl
      rw [List.map_append] at h2
      rw [List.length_append] at lw
      refine v_spinB h1 h2 n0 hT (by omega) (by omega) (by omega) fun m2 a1 a2 a3 => ?_
      have b1 := a3 m le hp hpw0
      refine ⟨((w ++ (kidsX x).reverse).reverse.flatMap spotsX).length, _, _, ?_, LeL.refl _, Le.refl _, w ++ (kidsX x).reverse, vis ++ [x], _, _, rfl, a1, a2, b1, ?_, rfl⟩
      · rw [er, List.length_cons]
        exact Nat.lt_succ_self _
      · rw [← pm, er, List.append_assoc]
        rfl
  · exact q.elim
end L2.AP
set_option Elab.async false
set_option linter.all false
set_option maxRecDepth 100000
set_option maxHeartbeats 4000000
/-! BG6: exchanges by recursion. -/
namespace L2.AP
open PySem PySem.Spec PyProof.Rows
def sp_putb (n : Nat) : DSp := fun ds m Q _ => match ds with
  | [t, .tup pl, u] => ∃ q w, pl = q.map D.int ∧ partD q t = some w ∧ hT t = true ∧ szD t ≤ 10000 ∧ q.length ≤ n ∧ n ≤ 1000 ∧ Q (putD q t u) m
  | _ => False
def spr__law_putb : Nat → DSp
  | 0 => fun _ _ _ _ => False
  | n + 1 => sp_putb n
def sp__law_putb : DSp := spr__law_putb 64
def t__law_putb (n : Nat) : DTS :=
  dSeq (dIfS (dTest (dOp eqR (dVar 1) (dTup dNil))) (dRet (dVar 2)) (dNext)) <|
  dSeq (dAsg (dOp addR (dOp ixR (dVar 1) (dC (.int 0))) (dC (.int 1))) (dgName 3)) <|
  dRet (dOp addR (dOp addR (dSl false (dVar 0) dNoPart (dPart (dVar 3))) (dTup (dCons (dCallF 3 (spr__law_putb n) (dCons (dOp ixR (dVar 0) (dVar 3)) (dCons (dSl false (dVar 1) (dPart (dC (.int 1))) dNoPart) (dCons (dVar 2) dNil)))) dNil))) (dSl false (dVar 0) (dPart (dOp addR (dVar 3) (dC (.int 1)))) dNoPart))
theorem V__law_putb (n : Nat) : ∀ ds m Q E, ds.length = 3 → spr__law_putb (n + 1) ds m Q E → t__law_putb n (fun cls d _ m' => E cls d m') (bodyEnds Q) (startD ["tree", "place", "other", "i"] ds) m := by
  intro ds m Q E hl q
  replace q : sp_putb n ds m Q E := q
  unfold sp_putb at q
  split at q
  · rename_i t pl u
    obtain ⟨p, w, rfl, hp, ht, hz, hn, n1, q⟩ := q
    have big : (1000000 : Nat) ≤ sizeLine := sl0
    show t__law_putb n _ _ [some t, some (.tup (p.map D.int)), some u, none] m
    unfold t__law_putb
    simp only [S, SS', SB]
    refine ⟨by omega, eq_plR (b := []) ⟨_, rfl, ?_⟩⟩
    cases p with
    | nil =>
      rw [if_pos (by decide)]
      exact rt q
    | cons j p =>
      rw [if_neg (by simp)]
      obtain ⟨c, j0, e1, e2, e3⟩ := partD_cons hp
      obtain ⟨f, et, hk⟩ := hT_tup ht
      have lk := szs_len (kids t)
      have sk := sz_kids ht
      rw [putD, e2] at q
      generalize kids t = cs at *
      subst et
      have hj := (List.getElem?_eq_some_iff.mp e1).1
      have mc : c ∈ cs := List.mem_of_getElem? e1
      have z1 := szs_mem cs c mc
      rw [List.length_cons] at hn
      obtain ⟨n, rfl⟩ : ∃ n', n = n' + 1 := ⟨n - 1, by omega⟩
      have es : spr__law_putb (n + 1) = sp_putb n := rfl
      rw [es]
      simp only [List.map_cons]
      refine ixT atL0 ?_
      simp only [addR, SB, slR, cut1]
      refine ixT (at_kid j0 e1) ⟨p, w, rfl, e3, hTs_mem hk c mc, by omega, by omega, by omega, ?_⟩
      refine ⟨by omega, ?_⟩
      rw [show j + 1 + 1 = j + 2 by omega]
      have ec := cut_put (f := f) (cs := cs) (i := j) (u := putD p c u) j0 (by omega)
      have lc : (AP.cut (f :: cs) none (some (j + 1)) ++ [putD p c u]).length + (AP.cut (f :: cs) (some (j + 2)) none).length = (cs.length + 1) := by
        have := congrArg List.length ec
        rw [List.length_append, List.length_cons, List.length_set] at this
        exact this
      have l1 : (AP.cut (f :: cs) none (some (j + 1))).length + 1 ≤ cs.length + 1 := by
        rw [List.length_append, List.length_singleton] at lc
        omega
      refine ⟨by omega, by omega, ?_⟩
      rw [ec]
      exact rt q
  · exact q.elim
end L2.AP
set_option Elab.async false
set_option linter.all false
set_option maxRecDepth 100000
set_option maxHeartbeats 4000000
/-! CR1: crossings of rules in plain. -/
namespace L2.AP
open PySem PySem.Spec PyProof.Rows
def lhs (rs : List D) (k : Nat) : D := fst (rs.getD k .non)
def rhs (rs : List D) (k : Nat) : D := snd (rs.getD k .non)
def crossT (rs : List D) (i : Nat) (x : List Int × D) (j : Nat) : D := .tup [.int (i : Int), plD x.1, .int (j : Int), lhs rs i, rhs rs i, putD x.1 (lhs rs i) (rhs rs j)]
def crossC (rs : List D) (i : Nat) (x : List Int × D) (j : Nat) : Bool := eqD x.2 (lhs rs j) && (!decide (x.1 = []) || decide (i < j))
def crossJ (rs : List D) (i : Nat) (x : List Int × D) (js : List Nat) : List D := (js.filter (crossC rs i x)).map (crossT rs i x)
def crossX (rs : List D) (i : Nat) (xs : List (List Int × D)) : List D := xs.flatMap fun x => crossJ rs i x (List.range rs.length)
def crossL (rs : List D) (is : List Nat) : List D := is.flatMap fun i => crossX rs i (spotsD [] (lhs rs i))
def crossAll (rs : List D) : List D := crossL rs (List.range rs.length)
/-- rules between drawn trees -/
structure RlsG (es : List D) (rs : List D) : Prop where
  len : rs.length ≤ 30
  at_ : ∀ k, k < rs.length → rs[k]? = some (.tup [lhs rs k, rhs rs k]) ∧ TG es 7 (lhs rs k) ∧ TG es 7 (rhs rs k)
theorem RulesG.rls {es : List D} {n most : Nat} {rs : List D} (h : RulesG es n most rs) (hn : n ≤ 7) (hm : most ≤ 30) : RlsG es rs := by
  refine ⟨by have := h.len; omega, fun k hk => ?_⟩
  have e : rs[k]? = some rs[k] := List.getElem?_eq_getElem hk
  obtain ⟨l, r, er, h1, h2, _⟩ := h.all _ (List.getElem_mem hk)
  have e1 : rs.getD k .non = .tup [l, r] := by rw [List.getD_eq_getElem?_getD, e, er]; rfl
  simp only [lhs, rhs, e1, fst, snd]
  exact ⟨by rw [e, er], h1.mono hn, h2.mono hn⟩
section
variable {es rs : List D}
theorem RlsG.spot (h : RlsG es rs) {i : Nat} (hi : i < rs.length) {x : List Int × D} (hx : x ∈ spotsD [] (lhs rs i)) : partD x.1 (lhs rs i) = some x.2 ∧ vld es x.2 = true ∧ gd x.2 = true ∧ szD x.2 ≤ 255 ∧ dpD x.2 + x.1.length ≤ 8 := by
  obtain ⟨_, h1, _⟩ := h.at_ i hi
  obtain ⟨a1, a2⟩ := h1.sz (by decide)
  obtain ⟨b1, b2, b3, b4, b5⟩ := spots_all h1.v h1.g hx
  exact ⟨b1, b2, b3, by omega, by omega⟩
/-- what a crossing is made of -/
theorem RlsG.cross (h : RlsG es rs) {i j : Nat} (hi : i < rs.length) (hj : j < rs.length) {x : List Int × D} (hx : x ∈ spotsD [] (lhs rs i)) :
    vld es (putD x.1 (lhs rs i) (rhs rs j)) = true ∧ gd (putD x.1 (lhs rs i) (rhs rs j)) = true ∧ szD (putD x.1 (lhs rs i) (rhs rs j)) ≤ 600 ∧ dpD (putD x.1 (lhs rs i) (rhs rs j)) ≤ 20 := by
  obtain ⟨_, h1, _⟩ := h.at_ i hi
  obtain ⟨_, _, h2⟩ := h.at_ j hj
  have := PlantG.put h1 (by decide) h2 (by decide) (h.spot hi hx).1
  exact ⟨this.v, this.g, this.s, this.d⟩
theorem cross_mem {c : D} (hc : c ∈ crossAll rs) : ∃ i x j, i < rs.length ∧ x ∈ spotsD [] (lhs rs i) ∧ j < rs.length ∧ c = crossT rs i x j := by
  obtain ⟨i, hi, hc⟩ := List.mem_flatMap.mp hc
  obtain ⟨x, hx, hc⟩ := List.mem_flatMap.mp hc
  obtain ⟨j, hj, rfl⟩ := List.mem_map.mp hc
  exact ⟨i, x, j, List.mem_range.mp hi, hx, List.mem_range.mp (List.mem_filter.mp hj).1, rfl⟩
theorem crossJ_len (i : Nat) (x : List Int × D) (js : List Nat) : (crossJ rs i x js).length ≤ js.length := by
  unfold crossJ
  rw [List.length_map]
  exact List.length_filter_le _ _
theorem crossX_len (i : Nat) : ∀ xs : List (List Int × D), (crossX rs i xs).length ≤ rs.length * xs.length
  | [] => Nat.zero_le _
  | x :: xs => by
    have h1 := crossX_len i xs
    have h2 := crossJ_len (rs := rs) i x (List.range rs.length)
    rw [List.length_range] at h2
    unfold crossX at h1 ⊢
    rw [List.flatMap_cons, List.length_append, List.length_cons, Nat.mul_add]
    omega
theorem RlsG.len_le (h : RlsG es rs) : ∀ is : List Nat, (∀ i ∈ is, i < rs.length) → (crossL rs is).length ≤ 7650 * is.length
  | [], _ => Nat.zero_le _
  | i :: is, hi => by
    have h1 := h.len_le is fun k hk => hi k (List.mem_cons_of_mem _ hk)
    have h2 := crossX_len (rs := rs) i (spotsD [] (lhs rs i))
    obtain ⟨_, h3, _⟩ := h.at_ i (hi i List.mem_cons_self)
    have h4 := (h3.sz (by decide)).1
    rw [spots_len] at h2
    have h5 := h.len
    have h6 : rs.length * szD (lhs rs i) ≤ 30 * 255 := Nat.mul_le_mul h5 h4
    unfold crossL at h1 ⊢
    rw [List.flatMap_cons, List.length_append, List.length_cons, Nat.mul_add]
    omega
/-! ### their order -/
theorem RlsG.key (h : RlsG es rs) {i j : Nat} (hi : i < rs.length) (hj : j < rs.length) {x : List Int × D} (hx : x ∈ spotsD [] (lhs rs i)) :
    ∃ k l u, keyD (lhs rs i) = some k ∧ keyD (rhs rs i) = some l ∧ keyD (putD x.1 (lhs rs i) (rhs rs j)) = some u ∧ k.depth ≤ 8 ∧ l.depth ≤ 8 ∧ u.depth ≤ 20 ∧
      keyD (crossT rs i x j) = some (.tup [.num (i : Int), .tup (x.1.map NestedKey.num), .num (j : Int), k, l, u]) := by
  obtain ⟨_, h1, h2⟩ := h.at_ i hi
  obtain ⟨c1, c2, c3, c4⟩ := h.cross hi hj hx
  obtain ⟨k, e1, d1⟩ := tree_key _ h1.v
  obtain ⟨l, e2, d2⟩ := tree_key _ h2.v
  obtain ⟨u, e3, d3⟩ := tree_key _ c1
  have s1 := (h1.sz (by decide)).2
  have s2 := (h2.sz (by decide)).2
  exact ⟨k, l, u, e1, e2, e3, by omega, by omega, by omega, by simp [crossT, keyD, keysD, plD, keys_ints, e1, e2, e3]⟩
theorem RlsG.lt (h : RlsG es rs) {i j i' j' : Nat} (hi : i < rs.length) (hj : j < rs.length) (hi' : i' < rs.length) (hj' : j' < rs.length) {x y : List Int × D} (hx : x ∈ spotsD [] (lhs rs i)) (hy : y ∈ spotsD [] (lhs rs i'))
    (c : i < i' ∨ (i = i' ∧ BefP x y) ∨ (i = i' ∧ x.1 = y.1 ∧ j < j')) : ltD (crossT rs i x j) (crossT rs i' y j') = true := by
  obtain ⟨k, l, u, _, _, _, _, _, _, e1⟩ := h.key hi hj hx
  obtain ⟨k', l', u', _, _, _, _, _, _, e2⟩ := h.key hi' hj' hy
  simp only [ltD, keyL_of e1, keyL_of e2, ltK, ltKs, NestedKey.num.injEq]
  rcases c with c | ⟨rfl, c⟩ | ⟨rfl, e, c⟩
  · rw [if_neg (by omega)]
    exact decide_eq_true (by omega)
  · rw [if_pos rfl]
    have c : ltKs (x.1.map NestedKey.num) (y.1.map NestedKey.num) = true := c
    rw [if_neg]
    · exact c
    · intro z
      injection z with z
      rw [z, ltKs_irr] at c
      cases c
  · rw [if_pos rfl, if_pos (by rw [e]), if_neg (by omega)]
    exact decide_eq_true (by omega)
theorem RlsG.pairs (h : RlsG es rs) : (crossAll rs).Pairwise fun x y => ltD x y = true := by
  unfold crossAll crossL
  rw [List.pairwise_flatMap]
  refine ⟨fun i hi => ?_, ?_⟩
  · have hi := List.mem_range.mp hi
    unfold crossX
    rw [List.pairwise_flatMap]
    refine ⟨fun x hx => ?_, ?_⟩
    · unfold crossJ
      rw [List.pairwise_map]
      refine ((List.pairwise_lt_range (n := rs.length)).filter _).imp_of_mem fun {j j'} mj mj' c => ?_
      exact h.lt hi (List.mem_range.mp (List.mem_filter.mp mj).1) hi (List.mem_range.mp (List.mem_filter.mp mj').1) hx hx (.inr (.inr ⟨rfl, rfl, c⟩))
    · refine (spots_pw (lhs rs i) []).imp_of_mem fun {x y} mx my c a ha b hb => ?_
      obtain ⟨j, hj, rfl⟩ := List.mem_map.mp ha
      obtain ⟨j', hj', rfl⟩ := List.mem_map.mp hb
      exact h.lt hi (List.mem_range.mp (List.mem_filter.mp hj).1) hi (List.mem_range.mp (List.mem_filter.mp hj').1) mx my (.inr (.inl ⟨rfl, c⟩))
  · refine (List.pairwise_lt_range (n := rs.length)).imp_of_mem fun {i i'} mi mi' c a ha b hb => ?_
    obtain ⟨x, hx, ha⟩ := List.mem_flatMap.mp ha
    obtain ⟨j, hj, rfl⟩ := List.mem_map.mp ha
    obtain ⟨y, hy, hb⟩ := List.mem_flatMap.mp hb
    obtain ⟨j', hj', rfl⟩ := List.mem_map.mp hb
    exact h.lt (List.mem_range.mp mi) (List.mem_range.mp (List.mem_filter.mp hj).1) (List.mem_range.mp mi') (List.mem_range.mp (List.mem_filter.mp hj').1) hx hy (.inl c)
theorem RlsG.sort (h : RlsG es rs) : SortOk true (crossAll rs) := by
  refine ⟨noBls_all fun c hc => ?_, fun c hc => ?_, fun c hc d hd => ?_⟩
  · obtain ⟨i, x, j, hi, hx, hj, rfl⟩ := cross_mem hc
    obtain ⟨_, h1, h2⟩ := h.at_ i hi
    obtain ⟨c1, _⟩ := h.cross hi hj hx
    simp only [crossT, plD, noBl, noBls, noBl_ints, vld_noBl _ h1.v, vld_noBl _ h2.v, vld_noBl _ c1]
    rfl
  · obtain ⟨i, x, j, hi, hx, hj, rfl⟩ := cross_mem hc
    obtain ⟨k, l, u, _, _, _, d1, d2, d3, e1⟩ := h.key hi hj hx
    refine ⟨_, e1, ⟨_, _, rfl, (fun _ => ⟨_, rfl⟩), fun z => by cases z⟩, ?_⟩
    simp only [NestedKey.depth, NestedKey.depthAll, depth_ints]
    omega
  · obtain ⟨i, x, j, hi, hx, hj, rfl⟩ := cross_mem hc
    obtain ⟨i', y, j', hi', hy, hj', rfl⟩ := cross_mem hd
    obtain ⟨k, l, u, a1, a2, a3, _, _, _, e1⟩ := h.key hi hj hx
    obtain ⟨k', l', u', b1, b2, b3, _, _, _, e2⟩ := h.key hi' hj' hy
    obtain ⟨_, h1, h2⟩ := h.at_ i hi
    obtain ⟨_, h1', h2'⟩ := h.at_ i' hi'
    obtain ⟨c1, _⟩ := h.cross hi hj hx
    obtain ⟨c2, _⟩ := h.cross hi' hj' hy
    rw [keyL_of e1, keyL_of e2, cmpOk]
    simp only [cmpOks, cmpOk, cmp_ints, tree_cmp _ _ _ _ h1.v h1'.v a1 b1, tree_cmp _ _ _ _ h2.v h2'.v a2 b2, tree_cmp _ _ _ _ c1 c2 a3 b3, Bool.or_true, Bool.and_true]
theorem RlsG.good (h : RlsG es rs) : gd (.tup (crossAll rs)) = true ∧ isKey (.tup (crossAll rs)) = true ∧ dep (.tup (crossAll rs)) ≤ 40 ∧ ndD (.tup (crossAll rs)) ≤ 1 + 2300 * (crossAll rs).length := by
  refine ⟨?_, ?_, ?_, ?_⟩
  · simp only [gd]
    refine gds_of fun c hc => ?_
    obtain ⟨i, x, j, hi, hx, hj, rfl⟩ := cross_mem hc
    obtain ⟨_, h1, h2⟩ := h.at_ i hi
    obtain ⟨_, c1, _⟩ := h.cross hi hj hx
    simp only [crossT, plD, gd, gds, gds_intsW, h1.g, h2.g, c1]
    rfl
  · obtain ⟨ks, e, _⟩ := keysD_of (xs := crossAll rs) fun c hc => by
      obtain ⟨i, x, j, hi, hx, hj, rfl⟩ := cross_mem hc
      obtain ⟨k, l, u, _, _, _, _, _, _, e1⟩ := h.key hi hj hx
      exact ⟨_, e1⟩
    simp [AP.isKey, keyD, e]
  · rw [dep]
    have : ∀ xs : List D, (∀ c ∈ xs, dep c ≤ 39) → deps xs ≤ 39 := fun xs => by
      induction xs with
      | nil => intro _; simp [deps]
      | cons y ys ih =>
        intro hh
        rw [deps]
        have h1 := hh y List.mem_cons_self
        have h2 := ih fun c hc => hh c (List.mem_cons_of_mem _ hc)
        omega
    have := this (crossAll rs) fun c hc => by
      obtain ⟨i, x, j, hi, hx, hj, rfl⟩ := cross_mem hc
      obtain ⟨_, h1, h2⟩ := h.at_ i hi
      obtain ⟨c1, _, _, c4⟩ := h.cross hi hj hx
      have s1 := h1.dep
      have s2 := h2.dep
      simp only [crossT, plD, dep, deps, dep_ints, dep_dp _ c1]
      omega
    omega
  · rw [ndD]
    have := nds_le (n := 2300) (xs := crossAll rs) fun c hc => by
      obtain ⟨i, x, j, hi, hx, hj, rfl⟩ := cross_mem hc
      obtain ⟨_, h1, h2⟩ := h.at_ i hi
      obtain ⟨c1, _, c3, _⟩ := h.cross hi hj hx
      have s1 := (h1.sz (by decide)).1
      have s2 := (h2.sz (by decide)).1
      have s3 := (h.spot hi hx).2.2.2.2
      have nd : ∀ ns : List Int, ndDs (ns.map D.int) = ns.length := fun ns => by
        induction ns with
        | nil => rfl
        | cons n ns ih => rw [List.map_cons, ndDs, ih, List.length_cons]; simp [ndD]; omega
      simp only [crossT, plD, ndD, ndDs, nd, nd_tree _ h1.v, nd_tree _ h2.v, nd_tree _ c1]
      omega
    omega
end
end L2.AP
set_option Elab.async false
set_option linter.all false
set_option maxRecDepth 100000
set_option maxHeartbeats 4000000
/-! CR2: crossings_of, crossings. -/
namespace L2.AP
open PySem PySem.Spec PyProof.Rows
/-- all but p stays -/
def KeepB (p : Addr) (m m' : AH) : Prop := ∀ a o, a ≠ p → m a = some o → m' a = some o
theorem KeepB.refl {p : Addr} {m : AH} : KeepB p m m := fun _ _ _ h => h
theorem KeepB.trans {p : Addr} {m m1 m2 : AH} (a : KeepB p m m1) (b : KeepB p m1 m2) : KeepB p m m2 := fun c o n h => b c o n (a c o n h)
theorem KeepB.put {p : Addr} {m m' : AH} {o : MO} (h : KeepB p m m') : KeepB p m (AP.put m' p o) := fun a u n e => by rw [put_ne n]; exact h a u n e
theorem KeepB.le {p : Addr} {m m' m0 : AH} (h : KeepB p m m') (l : Le m0 m) (n : m0 p = none) : Le m0 m' := fun a o e => h a o (fun z => by rw [z, n] at e; cases e) (l a o e)
theorem KeepB.new {p q : Addr} {m m' : AH} {o : MO} (h : KeepB p m m') (n : m' q = none) : KeepB p m (AP.put m' q o) := fun a u ne e => by
  have := h a u ne e
  rw [put_ne (fun z => by rw [z, n] at this; cases this)]
  exact this
def t_cr3 : DTS := dFor (diEnum (dCons (dVar 0) dNil)) (dgTup 2 (dgCons (dgName 7) (dgCons (dgTup 2 (dgCons (dgName 8) (dgCons (dgName 9) dgNil))) dgNil))) (dIfS (dAndT (dTest (dOp eqR (dVar 6) (dVar 8))) (dOrT (dTest (dOp neR (dVar 5) (dTup dNil))) (dTest (dOp ltR (dVar 2) (dVar 7))))) (dDrop (dBM appendR (dVar 1) (dCons (dTup (dCons (dVar 2) (dCons (dVar 5) (dCons (dVar 7) (dCons (dVar 3) (dCons (dVar 4) (dCons (dCallF 3 sp_put_at (dCons (dVar 3) (dCons (dVar 5) (dCons (dVar 9) dNil)))) dNil))))))) dNil))) (dNext))
def t_cr2 : DTS := dFor (diAny (dCallF 1 sp_spots_in (dCons (dVar 3) dNil))) (dgTup 2 (dgCons (dgName 5) (dgCons (dgName 6) dgNil))) t_cr3
def t_crossings_of : DTS :=
  dSeq (dAsg (dLst true dNil) (dgName 1)) <|
  dSeq (dFor (diEnum (dCons (dVar 0) dNil)) (dgTup 2 (dgCons (dgName 2) (dgCons (dgTup 2 (dgCons (dgName 3) (dgCons (dgName 4) dgNil))) dgNil))) t_cr2) <|
  dRet (dVar 1)
theorem enum_get {xs : List D} {i : Nat} {x : D} (h : (enumD 0 xs)[i]? = some x) : ∃ y, xs[i]? = some y ∧ x = .tup [.int (i : Nat), y] := by
  rw [enumD_rng, List.getElem?_map] at h
  cases e : (List.range xs.length)[i]? with
  | none => rw [e] at h; cases h
  | some k =>
    rw [e] at h
    have hi := (List.getElem?_eq_some_iff.mp e).1
    rw [List.length_range] at hi
    rw [List.getElem?_range hi] at e
    cases e
    cases h
    exact ⟨xs[i], List.getElem?_eq_getElem hi, by simp [List.getD_eq_getElem?_getD, List.getElem?_eq_getElem hi]⟩
theorem enum_len (xs : List D) : (enumD 0 xs).length = xs.length := by rw [enumD_rng, List.length_map, List.length_range]
theorem ne_plR {a b : List Int} {m : AH} {Q : DQ} (q : Q (.bl (!decide (a = b))) m) : neR (.tup (a.map D.int)) (.tup (b.map D.int)) m Q := by
  have h : eqD (.tup (a.map D.int)) (.tup (b.map D.int)) = decide (a = b) := eq_pl a b
  simp only [neR, val, h]
  exact ⟨gd_lay _ (by simp only [gd]; exact gds_intsW a), gd_lay _ (by simp only [gd]; exact gds_intsW b), by simp only [dep, dep_ints]; omega, q⟩
theorem eq_treeR {es : List D} {a b : D} {m : AH} {Q : DQ} (va : vld es a = true) (vb : vld es b = true) (ga : gd a = true) (gb : gd b = true) (hd : dpD a ≤ 60) (q : Q (.bl (eqD a b)) m) : eqR a b m Q :=
  ⟨by rw [val_gd ga]; exact gd_lay _ ga, by rw [val_gd gb]; exact gd_lay _ gb, by rw [val_gd ga, val_gd gb, dep_dp _ va]; omega, by rw [val_gd ga, val_gd gb]; exact q⟩
theorem crossJ_snoc (rs : List D) (i : Nat) (x : List Int × D) (j : Nat) : crossJ rs i x (List.range (j + 1)) = crossJ rs i x (List.range j) ++ (if crossC rs i x j = true then [crossT rs i x j] else []) := by
  unfold crossJ
  rw [List.range_succ, List.filter_append, List.map_append]
  congr 1
  by_cases c : crossC rs i x j = true
  · rw [if_pos c, List.filter_cons_of_pos c]; rfl
  · rw [if_neg c, List.filter_cons_of_neg c]; rfl
section
variable {es rs : List D}
theorem v_cr3 {W : DW} {E : DEnds} {m : AH} {p : Addr} {acc : List D} {i : Nat} {x : List Int × D} {x7 x8 x9 : Option D} (h : RlsG es rs) (hp : m p = some (.lst acc)) (hi : i < rs.length) (hx : x ∈ spotsD [] (lhs rs i)) (la : acc.length ≤ 900000)
    (q : ∀ m' x7 x8 x9, m' p = some (.lst (acc ++ crossJ rs i x (List.range rs.length))) → KeepB p m m' → E.nx [some (.tup rs), some (.ref p), some (.int (i : Int)), some (lhs rs i), some (rhs rs i), some (plD x.1), some x.2, x7, x8, x9] m') :
    t_cr3 W E [some (.tup rs), some (.ref p), some (.int (i : Int)), some (lhs rs i), some (rhs rs i), some (plD x.1), some x.2, x7, x8, x9] m := by
  have big : (1000000 : Nat) ≤ sizeLine := sl0
  have ln := h.len
  obtain ⟨s1, s2, s3, s4, s5⟩ := h.spot hi hx
  unfold t_cr3
  simp only [S, SS', SL, SB, diEnum]
  refine ⟨_, rs, rfl, rfl, for_fix (enumD 0 rs) (fun j δ m' => ∃ x7 x8 x9, m' p = some (.lst (acc ++ crossJ rs i x (List.range j))) ∧ KeepB p m m' ∧ δ = [some (.tup rs), some (.ref p), some (.int (i : Int)), some (lhs rs i), some (rhs rs i), some (plD x.1), some x.2, x7, x8, x9]) (fun _ _ _ _ => rfl)
    ⟨_, _, _, by simpa [crossJ] using hp, KeepB.refl, rfl⟩ ?_ ?_⟩
  · rintro j k y δ m' hy hj hl2 ⟨y7, y8, y9, hp', kb, rfl⟩
    rw [enum_len] at hl2
    obtain ⟨r, er, rfl⟩ := enum_get hy
    obtain ⟨e1, h1, h2⟩ := h.at_ j hl2
    rw [e1] at er
    cases er
    have lj := crossJ_len (rs := rs) i x (List.range j)
    rw [List.length_range] at lj
    have next : ∀ m2 y7 y8 y9, m2 p = some (.lst (acc ++ crossJ rs i x (List.range (j + 1)))) → KeepB p m m2 → fN (enumD 0 rs) (fun j δ m' => ∃ x7 x8 x9, m' p = some (.lst (acc ++ crossJ rs i x (List.range j))) ∧ KeepB p m m' ∧ δ = [some (.tup rs), some (.ref p), some (.int (i : Int)), some (lhs rs i), some (rhs rs i), some (plD x.1), some x.2, x7, x8, x9]) j k
        [some (.tup rs), some (.ref p), some (.int (i : Int)), some (lhs rs i), some (rhs rs i), some (plD x.1), some x.2, y7, y8, y9] m2 := fun m2 y7 y8 y9 a b =>
      fN_intro hj (by rw [enum_len]; exact hl2) ⟨_, _, _, a, b, rfl⟩
    simp only [S, SS', SB]
    refine eq_treeR s2 h1.v s3 h1.g (by omega) ?_
    have ec := crossJ_snoc rs i x j
    simp only [SB]
    have hc : crossC rs i x j = (eqD x.2 (lhs rs j) && (!decide (x.1 = []) || decide (i < j))) := rfl
    by_cases c1 : eqD x.2 (lhs rs j) = true
    · have fin : (!decide (x.1 = []) || decide (i < j)) = true → ∀ m2, m2 = m' → (∃ xs, asL m2 (.ref p) = some xs) ∧ sp_put_at [lhs rs i, plD x.1, rhs rs j] m2 (fun d m1 => 0 + 1 + 1 + 1 + 1 + 1 + 1 ≤ sizeLine ∧ appendR (.ref p) [.tup [.int (i : Int), plD x.1, .int (j : Int), lhs rs i, rhs rs i, d]] m1 fun _ m1 => fN (enumD 0 rs) (fun j δ m' => ∃ x7 x8 x9, m' p = some (.lst (acc ++ crossJ rs i x (List.range j))) ∧ KeepB p m m' ∧ δ = [some (.tup rs), some (.ref p), some (.int (i : Int)), some (lhs rs i), some (rhs rs i), some (plD x.1), some x.2, x7, x8, x9]) j k
          [some (.tup rs), some (.ref p), some (.int (i : Int)), some (lhs rs i), some (rhs rs i), some (plD x.1), some x.2, some (.int (j : Int)), some (lhs rs j), some (rhs rs j)] m1) fun cls d m' => W cls d [some (.tup rs), some (.ref p), some (.int (i : Int)), some (lhs rs i), some (rhs rs i), some (plD x.1), some x.2, some (.int (j : Int)), some (lhs rs j), some (rhs rs j)] m' := fun cc m2 em => by
        subst em
        obtain ⟨_, g1, _⟩ := h.at_ i hi
        have z1 := g1.sz (by decide)
        refine ⟨⟨_, asL_ref hp'⟩, x.1, x.2, rfl, s1, vld_hT _ g1.v, by omega, by omega, by omega, _, hp', by rw [List.length_append]; omega, ?_⟩
        refine next _ _ _ _ ?_ kb.put
        rw [put_same, ec, hc, c1, cc, if_pos (show (true && true) = true from rfl), ← List.append_assoc]
        rfl
      rw [if_pos c1]
      refine ⟨by omega, ne_plR (a := x.1) (b := []) ?_⟩
      refine ⟨_, rfl, ?_⟩
      simp only [if_true]
      by_cases c2 : x.1 = []
      · rw [if_neg (by simp [c2])]
        simp only [ltR, SB]
        by_cases c3 : i < j
        · rw [if_pos (by simpa using c3)]
          exact fin (by simp [c3]) _ rfl
        · rw [if_neg (by simpa using c3)]
          refine next _ _ _ _ ?_ kb
          rw [ec, hc, if_neg (by simp [c2, c3]), List.append_nil]
          exact hp'
      · rw [if_pos (by simp [c2])]
        exact fin (by simp [c2]) _ rfl
    · rw [if_neg c1]
      refine next _ _ _ _ ?_ kb
      rw [ec, hc, if_neg (by simp [c1]), List.append_nil]
      exact hp'
  · rintro δ m' ⟨y7, y8, y9, hp', kb, rfl⟩
    rw [enum_len] at hp'
    exact q m' _ _ _ hp' kb
theorem v_cr2 {W : DW} {E : DEnds} {m : AH} {p : Addr} {acc : List D} {i : Nat} {x5 x6 x7 x8 x9 : Option D} (h : RlsG es rs) (hp : m p = some (.lst acc)) (hi : i < rs.length) (la : acc.length ≤ 800000)
    (q : ∀ m' x5 x6 x7 x8 x9, m' p = some (.lst (acc ++ crossX rs i (spotsD [] (lhs rs i)))) → KeepB p m m' → E.nx [some (.tup rs), some (.ref p), some (.int (i : Int)), some (lhs rs i), some (rhs rs i), x5, x6, x7, x8, x9] m') :
    t_cr2 W E [some (.tup rs), some (.ref p), some (.int (i : Int)), some (lhs rs i), some (rhs rs i), x5, x6, x7, x8, x9] m := by
  have ln := h.len
  obtain ⟨_, g1, _⟩ := h.at_ i hi
  obtain ⟨z1, z2⟩ := g1.sz (by decide)
  unfold t_cr2
  simp only [S, SS', SL, SB, sp_spots_in]
  refine ⟨⟨es, g1.v⟩, g1.g, by omega, by omega, fun p2 hp2 => ⟨⟨_, asQp put_same⟩, ?_⟩⟩
  have ne : p ≠ p2 := fun z => by rw [← z, hp] at hp2; cases hp2
  refine for_fix ((spotsD [] (lhs rs i)).map spotD) (fun s δ m' => ∃ x5 x6 x7 x8 x9, m' p = some (.lst (acc ++ crossX rs i ((spotsD [] (lhs rs i)).take s))) ∧ m' p2 = some (.lst ((spotsD [] (lhs rs i)).map spotD)) ∧ KeepB p m m' ∧ δ = [some (.tup rs), some (.ref p), some (.int (i : Int)), some (lhs rs i), some (rhs rs i), x5, x6, x7, x8, x9])
    (fun s δ m2 ⟨_, _, _, _, _, _, a, _⟩ => asQp a) ⟨_, _, _, _, _, by rw [put_ne ne]; simpa [crossX] using hp, put_same, KeepB.refl.new hp2, rfl⟩ ?_ ?_
  · rintro s k y δ m' hy hs hl2 ⟨y5, y6, y7, y8, y9, hp', ha, kb, rfl⟩
    rw [List.length_map] at hl2
    rw [List.getElem?_map] at hy
    obtain ⟨x, ex, rfl⟩ := Option.map_eq_some_iff.mp hy
    have mx := List.mem_of_getElem? ex
    have sx : spotD x = .tup [plD x.1, x.2] := rfl
    rw [sx]
    simp only [S, SS', SB]
    have lx := crossX_len (rs := rs) i ((spotsD [] (lhs rs i)).take s)
    have lt : ((spotsD [] (lhs rs i)).take s).length ≤ 255 := by rw [List.length_take, spots_len]; omega
    have lm : rs.length * ((spotsD [] (lhs rs i)).take s).length ≤ 30 * 255 := Nat.mul_le_mul ln lt
    refine v_cr3 h hp' hi mx (by rw [List.length_append]; omega) fun m2 z7 z8 z9 a b => ?_
    dsimp only
    refine fN_intro hs (by rw [List.length_map]; exact hl2) ⟨_, _, _, _, _, ?_, b p2 _ (Ne.symm ne) ha, kb.trans b, rfl⟩
    rw [a, List.take_succ, ex]
    unfold crossX
    rw [List.flatMap_append, List.append_assoc]
    simp [Option.toList]
  · rintro δ m' ⟨y5, y6, y7, y8, y9, hp', ha, kb, rfl⟩
    rw [List.length_map, List.take_of_length_le (Nat.le_refl _)] at hp'
    exact q m' _ _ _ _ _ hp' kb
def sp_crossings_of : DSp := fun ds m Q _ => match ds with
  | [.tup rs] => (∃ es, RlsG es rs) ∧ ∀ p, m p = none → Q (.ref p) (put m p (.lst (crossAll rs)))
  | _ => False
theorem V_crossings_of : ∀ ds m Q E, ds.length = 1 → sp_crossings_of ds m Q E → t_crossings_of (fun cls d _ m' => E cls d m') (bodyEnds Q) (startD ["rules", "found", "i", "left", "right", "place", "part", "j", "other", "result"] ds) m := by
  intro ds m Q E hl q
  unfold sp_crossings_of at q
  split at q
  · rename_i rs
    obtain ⟨⟨es, h⟩, q⟩ := q
    have big : (1000000 : Nat) ≤ sizeLine := sl0
    have ln := h.len
    show t_crossings_of _ _ [some (.tup rs), none, none, none, none, none, none, none, none, none] m
    unfold t_crossings_of
    simp only [S, SS', SL, SB, diEnum]
    refine ⟨by omega, fun p hp => ⟨_, rs, rfl, rfl, ?_⟩⟩
    refine for_fix (enumD 0 rs) (fun i δ m' => ∃ x2 x3 x4 x5 x6 x7 x8 x9, m' p = some (.lst (crossL rs (List.range i))) ∧ KeepB p m m' ∧ δ = [some (.tup rs), some (.ref p), x2, x3, x4, x5, x6, x7, x8, x9]) (fun _ _ _ _ => rfl)
      ⟨_, _, _, _, _, _, _, _, put_same, KeepB.refl.put, rfl⟩ ?_ ?_
    · rintro i k y δ m' hy hi hl2 ⟨y2, y3, y4, y5, y6, y7, y8, y9, hp', kb, rfl⟩
      rw [enum_len] at hl2
      obtain ⟨r, er, rfl⟩ := enum_get hy
      obtain ⟨e1, h1, h2⟩ := h.at_ i hl2
      rw [e1] at er
      cases er
      have lc := h.len_le (List.range i) fun k hk => by have := List.mem_range.mp hk; omega
      rw [List.length_range] at lc
      simp only [S, SS', SB]
      refine v_cr2 h hp' hl2 (by omega) fun m2 z5 z6 z7 z8 z9 a b => ?_
      dsimp only
      refine fN_intro hi (by rw [enum_len]; exact hl2) ⟨_, _, _, _, _, _, _, _, ?_, kb.trans b, rfl⟩
      rw [a, List.range_succ]
      unfold crossL
      rw [List.flatMap_append]
      simp
    · rintro δ m' ⟨y2, y3, y4, y5, y6, y7, y8, y9, hp', kb, rfl⟩
      rw [enum_len] at hp'
      simp only [S, SS', SB]
      exact ⟨_, le_put_of (kb.le (Le.refl _) hp) hp', q p hp⟩
  · exact q.elim
variable (X : Ex)
def sp_crossings : DSp := fun ds m Q E => match ds with
  | [s, d] => gd s = true ∧ gd d = true ∧ (sigB s = true → tameR (els s) d) ∧ (sigB s = true → rulesB (els s) d = true → RlsG (els s) (els d) ∧ Q (.tup (crossAll (els d))) m) ∧ (sigB s = true → rulesB (els s) d = false → E (.ref (X.c "BadRules")) none m) ∧ (sigB s = false → E (.ref (X.c "BadSignature")) none m)
  | _ => False
def t_crossings : DTS :=
  dSeq (dDrop (dCallF 2 (sp_need_rules X) (dCons (dVar 0) (dCons (dVar 1) dNil)))) <|
  dRet (dCall tupleR (dCons (dCallF 1 sp_crossings_of (dCons (dVar 1) dNil)) dNil))
end
end L2.AP
set_option Elab.async false
set_option linter.all false
set_option maxRecDepth 100000
set_option maxHeartbeats 4000000
/-! CR3: crossings; the law's crossings. -/
namespace L2.AP
open PySem PySem.Spec PyProof.Rows
section
variable (X : Ex)
theorem V_crossings : ∀ ds m Q E, ds.length = 2 → sp_crossings X ds m Q E → t_crossings X (fun cls d _ m' => E cls d m') (bodyEnds Q) (startD ["signature", "rules"] ds) m := by
  intro ds m Q E hl q
  unfold sp_crossings at q
  split at q
  · rename_i s d
    obtain ⟨g1, g2, tm, q, r1, r2⟩ := q
    show t_crossings X _ _ [some s, some d] m
    unfold t_crossings
    simp only [S, SS', SB, sp_need_rules]
    refine ⟨g1, g2, tm, fun h1 h2 => ?_, r1, r2⟩
    obtain ⟨hR, q⟩ := q h1 h2
    obtain ⟨rs, rfl⟩ : ∃ rs, d = .tup rs := by
      unfold rulesB at h2
      split at h2
      · exact ⟨_, rfl⟩
      · cases h2
    simp only [sp_crossings_of]
    refine ⟨⟨_, hR⟩, fun p hp => ⟨_, asQp put_same, m, Le.new hp, q⟩⟩
  · exact q.elim
end
theorem eqD_comm {es : List D} {a b : D} (va : vld es a = true) (vb : vld es b = true) : eqD a b = eqD b a := by
  obtain ⟨k, e1, _⟩ := tree_key _ va
  obtain ⟨l, e2, _⟩ := tree_key _ vb
  rw [Bool.eq_iff_iff, eqD_iff e1 e2, eqD_iff e2 e1]
  exact eq_comm
def t_lc3 : DTS := dFor (diRange1 (dCons (dCall lenR (dCons (dVar 0) dNil)) dNil)) (dgName 5) (dIfS (dAndT (dTest (dOp eqR (dOp ixR (dOp ixR (dVar 0) (dVar 5)) (dC (.int 0))) (dVar 4))) (dOrT (dTest (dOp neR (dVar 3) (dTup dNil))) (dTest (dOp ltR (dVar 2) (dVar 5))))) (dDrop (dBM appendR (dVar 1) (dCons (dTup (dCons (dVar 2) (dCons (dVar 3) (dCons (dVar 5) (dCons (dOp ixR (dOp ixR (dVar 0) (dVar 2)) (dC (.int 0))) (dCons (dOp ixR (dOp ixR (dVar 0) (dVar 2)) (dC (.int 1))) (dCons (dCallF 3 sp__law_putb (dCons (dOp ixR (dOp ixR (dVar 0) (dVar 2)) (dC (.int 0))) (dCons (dVar 3) (dCons (dOp ixR (dOp ixR (dVar 0) (dVar 5)) (dC (.int 1))) dNil)))) dNil))))))) dNil))) (dNext))
def t_lc2 : DTS := dFor (diAny (dCallF 1 sp__law_spotsb (dCons (dOp ixR (dOp ixR (dVar 0) (dVar 2)) (dC (.int 0))) dNil))) (dgTup 2 (dgCons (dgName 3) (dgCons (dgName 4) dgNil))) t_lc3
def t__law_crossings : DTS :=
  dSeq (dAsg (dLst true dNil) (dgName 1)) <|
  dSeq (dFor (diRange1 (dCons (dCall lenR (dCons (dVar 0) dNil)) dNil)) (dgName 2) t_lc2) <|
  dRet (dCall tupleR (dCons (dCall (sortedR false) (dCons (dVar 1) dNil)) dNil))
section
variable {es rs : List D}
theorem RlsG.ix (h : RlsG es rs) {i : Nat} (hi : i < rs.length) {m : AH} {Q : DQ} (q : Q (.tup [lhs rs i, rhs rs i]) m) : ixR (.tup rs) (.int (i : Int)) m Q :=
  ixT (by rw [atN (by omega) (by omega), Int.toNat_natCast]; exact (h.at_ i hi).1) q
theorem v_lc3 {W : DW} {E : DEnds} {m : AH} {p : Addr} {acc : List D} {i : Nat} {x : List Int × D} {x5 : Option D} (h : RlsG es rs) (hp : m p = some (.lst acc)) (hi : i < rs.length) (hx : x ∈ spotsD [] (lhs rs i)) (la : acc.length ≤ 900000)
    (q : ∀ m' x5, m' p = some (.lst (acc ++ crossJ rs i x (List.range rs.length))) → KeepB p m m' → E.nx [some (.tup rs), some (.ref p), some (.int (i : Int)), some (plD x.1), some x.2, x5] m') :
    t_lc3 W E [some (.tup rs), some (.ref p), some (.int (i : Int)), some (plD x.1), some x.2, x5] m := by
  have big : (1000000 : Nat) ≤ sizeLine := sl0
  have ln := h.len
  obtain ⟨s1, s2, s3, s4, s5⟩ := h.spot hi hx
  unfold t_lc3
  simp only [S, SS', SL, SB, lenR, VL]
  refine ⟨_, rfl, ⟨by omega, by omega⟩, ?_⟩
  rw [Int.toNat_natCast]
  refine for_fix (rng 0 1 rs.length) (fun j δ m' => ∃ x5, m' p = some (.lst (acc ++ crossJ rs i x (List.range j))) ∧ KeepB p m m' ∧ δ = [some (.tup rs), some (.ref p), some (.int (i : Int)), some (plD x.1), some x.2, x5]) (fun _ _ _ _ => rfl)
    ⟨_, by simpa [crossJ] using hp, KeepB.refl, rfl⟩ ?_ ?_
  · rintro j k y δ m' hy hj hl2 ⟨y5, hp', kb, rfl⟩
    obtain ⟨hl2, rfl⟩ := rng1_get hy
    obtain ⟨e1, h1, h2⟩ := h.at_ j hl2
    have lj := crossJ_len (rs := rs) i x (List.range j)
    rw [List.length_range] at lj
    have next : ∀ m2 y5, m2 p = some (.lst (acc ++ crossJ rs i x (List.range (j + 1)))) → KeepB p m m2 → fN (rng 0 1 rs.length) (fun j δ m' => ∃ x5, m' p = some (.lst (acc ++ crossJ rs i x (List.range j))) ∧ KeepB p m m' ∧ δ = [some (.tup rs), some (.ref p), some (.int (i : Int)), some (plD x.1), some x.2, x5]) j k
        [some (.tup rs), some (.ref p), some (.int (i : Int)), some (plD x.1), some x.2, y5] m2 := fun m2 y5 a b =>
      fN_intro hj (by rw [rng1_len]; exact hl2) ⟨_, a, b, rfl⟩
    have ec := crossJ_snoc rs i x j
    have hc : crossC rs i x j = (eqD x.2 (lhs rs j) && (!decide (x.1 = []) || decide (i < j))) := rfl
    rw [eqD_comm s2 h1.v] at hc
    simp only [S, SS', SB]
    refine h.ix hl2 (ixT atL0 (eq_treeR h1.v s2 h1.g s3 (by have := h1.d; omega) ?_))
    simp only [SB]
    by_cases c1 : eqD (lhs rs j) x.2 = true
    · obtain ⟨_, g1, _⟩ := h.at_ i hi
      have z1 := g1.sz (by decide)
      have fin : ∀ {T : AH → Prop}, (∀ m1, m1 = put m' p (.lst (acc ++ crossJ rs i x (List.range j) ++ [crossT rs i x j])) → T m1) → (!decide (x.1 = []) || decide (i < j)) = true → (∃ xs, asL m' (.ref p) = some xs) ∧ ixR (.tup rs) (.int (i : Int)) m' (fun d m1 => ixR d (.int 0) m1 fun d m1 => ixR (.tup rs) (.int (i : Int)) m1 fun d_1 m1 => ixR d_1 (.int 1) m1 fun d_2 m1 => ixR (.tup rs) (.int (i : Int)) m1 fun d_3 m1 => ixR d_3 (.int 0) m1 fun d_4 m1 => ixR (.tup rs) (.int (j : Int)) m1 fun d_5 m1 => ixR d_5 (.int 1) m1 fun d_6 m1 =>
          sp__law_putb [d_4, plD x.1, d_6] m1 (fun d_7 m1 => 0 + 1 + 1 + 1 + 1 + 1 + 1 ≤ sizeLine ∧ appendR (.ref p) [.tup [.int (i : Int), plD x.1, .int (j : Int), d, d_2, d_7]] m1 fun _ m1 => T m1) fun cls d m' => W cls d [some (.tup rs), some (.ref p), some (.int (i : Int)), some (plD x.1), some x.2, some (.int (j : Int))] m') := fun {T} ht cc => by
        refine ⟨⟨_, asL_ref hp'⟩, h.ix hi (ixT atL0 (h.ix hi (ixT atL1 (h.ix hi (ixT atL0 (h.ix hl2 (ixT atL1 ?_)))))))⟩
        refine ⟨x.1, x.2, rfl, s1, vld_hT _ g1.v, by omega, (by show x.1.length ≤ 63; omega), (by show 63 ≤ 1000; decide), ?_⟩
        refine ⟨by omega, _, hp', by rw [List.length_append]; omega, ht _ rfl⟩
      have fin2 : (!decide (x.1 = []) || decide (i < j)) = true → ∀ m1, m1 = put m' p (.lst (acc ++ crossJ rs i x (List.range j) ++ [crossT rs i x j])) → fN (rng 0 1 rs.length) (fun j δ m' => ∃ x5, m' p = some (.lst (acc ++ crossJ rs i x (List.range j))) ∧ KeepB p m m' ∧ δ = [some (.tup rs), some (.ref p), some (.int (i : Int)), some (plD x.1), some x.2, x5]) j k
          [some (.tup rs), some (.ref p), some (.int (i : Int)), some (plD x.1), some x.2, some (.int (j : Int))] m1 := fun cc m1 e => by
        subst e
        refine next _ _ ?_ kb.put
        rw [put_same, ec, hc, c1, cc, if_pos (show (true && true) = true from rfl), ← List.append_assoc]
      rw [if_pos c1]
      refine ⟨by omega, ne_plR (a := x.1) (b := []) ?_⟩
      refine ⟨_, rfl, ?_⟩
      by_cases c2 : x.1 = []
      · rw [if_neg (by simp [c2])]
        simp only [ltR, SB]
        by_cases c3 : i < j
        · rw [if_pos (by simpa using c3)]
          exact fin (fin2 (by simp [c3])) (by simp [c3])
        · rw [if_neg (by simpa using c3)]
          refine next _ _ ?_ kb
          rw [ec, hc, if_neg (by simp [c2, c3]), List.append_nil]
          exact hp'
      · rw [if_pos (by simp [c2])]
        simp only [if_true]
        exact fin (fin2 (by simp [c2])) (by simp [c2])
    · rw [if_neg c1]
      refine next _ _ ?_ kb
      rw [ec, hc, if_neg (by simp [c1]), List.append_nil]
      exact hp'
  · rintro δ m' ⟨y5, hp', kb, rfl⟩
    rw [rng1_len] at hp'
    exact q m' _ hp' kb
theorem v_lc2 {W : DW} {E : DEnds} {m : AH} {p : Addr} {acc : List D} {i : Nat} {x3 x4 x5 : Option D} (h : RlsG es rs) (hp : m p = some (.lst acc)) (hi : i < rs.length) (la : acc.length ≤ 800000)
    (q : ∀ m' x3 x4 x5, m' p = some (.lst (acc ++ crossX rs i (spotsD [] (lhs rs i)))) → KeepB p m m' → E.nx [some (.tup rs), some (.ref p), some (.int (i : Int)), x3, x4, x5] m') :
    t_lc2 W E [some (.tup rs), some (.ref p), some (.int (i : Int)), x3, x4, x5] m := by
  have ln := h.len
  obtain ⟨_, g1, _⟩ := h.at_ i hi
  obtain ⟨z1, z2⟩ := g1.sz (by decide)
  unfold t_lc2
  simp only [S, SS', SL, SB]
  refine h.ix hi (ixT atL0 ⟨vld_hT _ g1.v, (by show dpD (lhs rs i) ≤ 64; omega), (by show 64 ≤ 1000; decide), by omega, fun p2 hp2 => ⟨⟨_, asQp put_same⟩, ?_⟩⟩)
  have ne : p ≠ p2 := fun z => by rw [← z, hp] at hp2; cases hp2
  refine for_fix ((spotsD [] (lhs rs i)).map spotD) (fun s δ m' => ∃ x3 x4 x5, m' p = some (.lst (acc ++ crossX rs i ((spotsD [] (lhs rs i)).take s))) ∧ m' p2 = some (.lst ((spotsD [] (lhs rs i)).map spotD)) ∧ KeepB p m m' ∧ δ = [some (.tup rs), some (.ref p), some (.int (i : Int)), x3, x4, x5])
    (fun s δ m2 ⟨_, _, _, _, a, _⟩ => asQp a) ⟨_, _, _, by rw [put_ne ne]; simpa [crossX] using hp, put_same, KeepB.refl.new hp2, rfl⟩ ?_ ?_
  · rintro s k y δ m' hy hs hl2 ⟨y3, y4, y5, hp', ha, kb, rfl⟩
    rw [List.length_map] at hl2
    rw [List.getElem?_map] at hy
    obtain ⟨x, ex, rfl⟩ := Option.map_eq_some_iff.mp hy
    have mx := List.mem_of_getElem? ex
    have sx : spotD x = .tup [plD x.1, x.2] := rfl
    rw [sx]
    simp only [S, SS', SB]
    have lx := crossX_len (rs := rs) i ((spotsD [] (lhs rs i)).take s)
    have lt : ((spotsD [] (lhs rs i)).take s).length ≤ 255 := by rw [List.length_take, spots_len]; omega
    have lm : rs.length * ((spotsD [] (lhs rs i)).take s).length ≤ 30 * 255 := Nat.mul_le_mul ln lt
    refine v_lc3 h hp' hi mx (by rw [List.length_append]; omega) fun m2 z5 a b => ?_
    dsimp only
    refine fN_intro hs (by rw [List.length_map]; exact hl2) ⟨_, _, _, ?_, b p2 _ (Ne.symm ne) ha, kb.trans b, rfl⟩
    rw [a, List.take_succ, ex]
    unfold crossX
    rw [List.flatMap_append, List.append_assoc]
    simp [Option.toList]
  · rintro δ m' ⟨y3, y4, y5, hp', ha, kb, rfl⟩
    rw [List.length_map, List.take_of_length_le (Nat.le_refl _)] at hp'
    exact q m' _ _ _ hp' kb
end
def sp__law_crossings : DSp := fun ds m Q _ => match ds with
  | [.tup rs] => (∃ es, RlsG es rs) ∧ Q (.tup (crossAll rs)) m
  | _ => False
theorem V__law_crossings : ∀ ds m Q E, ds.length = 1 → sp__law_crossings ds m Q E → t__law_crossings (fun cls d _ m' => E cls d m') (bodyEnds Q) (startD ["rules", "found", "i", "place", "part", "j"] ds) m := by
  intro ds m Q E hl q
  unfold sp__law_crossings at q
  split at q
  · rename_i rs
    obtain ⟨⟨es, h⟩, q⟩ := q
    have big : (1000000 : Nat) ≤ sizeLine := sl0
    have ln := h.len
    show t__law_crossings _ _ [some (.tup rs), none, none, none, none, none] m
    unfold t__law_crossings
    simp only [S, SS', SL, SB, lenR, VL]
    refine ⟨by omega, fun p hp => ⟨_, rfl, ⟨by omega, by omega⟩, ?_⟩⟩
    rw [Int.toNat_natCast]
    refine for_fix (rng 0 1 rs.length) (fun i δ m' => ∃ x2 x3 x4 x5, m' p = some (.lst (crossL rs (List.range i))) ∧ KeepB p m m' ∧ δ = [some (.tup rs), some (.ref p), x2, x3, x4, x5]) (fun _ _ _ _ => rfl)
      ⟨_, _, _, _, put_same, KeepB.refl.put, rfl⟩ ?_ ?_
    · rintro i k y δ m' hy hi hl2 ⟨y2, y3, y4, y5, hp', kb, rfl⟩
      obtain ⟨hl2, rfl⟩ := rng1_get hy
      have lc := h.len_le (List.range i) fun k hk => by have := List.mem_range.mp hk; omega
      rw [List.length_range] at lc
      simp only [S, SS', SB]
      refine v_lc2 h hp' hl2 (by omega) fun m2 z3 z4 z5 a b => ?_
      dsimp only
      refine fN_intro hi (by rw [rng1_len]; exact hl2) ⟨_, _, _, _, ?_, kb.trans b, rfl⟩
      rw [a, List.range_succ]
      unfold crossL
      rw [List.flatMap_append]
      simp
    · rintro δ m' ⟨y2, y3, y4, y5, hp', kb, rfl⟩
      rw [rng1_len] at hp'
      simp only [S, SS', SB]
      refine ⟨_, asL_ref hp', .inr ⟨⟨true, h.sort⟩, fun ys py so => ?_⟩⟩
      rw [if_neg (by decide)]
      have e := sorted_uniq py so h.pairs
      rw [e]
      exact ⟨_, rfl, m, kb.le (Le.refl _) hp, q⟩
  · exact q.elim
end L2.AP
set_option Elab.async false
set_option linter.all false
set_option maxRecDepth 100000
set_option maxHeartbeats 4000000
/-! C64: k64's law. -/
namespace L2.AP
open PySem PySem.Spec PyProof.Rows
structure ExC (X : Ex) : Prop where
  ss : PySem.W.exmOne X.K (.ref (X.c "BadSignature")) (.ref (X.c "BadSignature")) = some true
  rs : PySem.W.exmOne X.K (.ref (X.c "BadRules")) (.ref (X.c "BadSignature")) = some false
  rr : PySem.W.exmOne X.K (.ref (X.c "BadRules")) (.ref (X.c "BadRules")) = some true
def sp__law_told : DSp := fun ds m Q _ => match ds with
  | [s, d] => gd s = true ∧ gd d = true ∧ (sigB s = true → tameR (els s) d) ∧ (sigB s = true → rulesB (els s) d = true → RlsG (els s) (els d) ∧ Q (.tup (crossAll (els d))) m) ∧ (sigB s = true → rulesB (els s) d = false → Q (.str "rules") m) ∧ (sigB s = false → Q (.str "signature") m)
  | _ => False
theorem okC : PyData.strOk "" = true ∧ PyData.strOk "rules" = true ∧ PyData.strOk "signature" = true ∧ (("rules" : Str) == "") = false ∧ (("signature" : Str) == "") = false := by decide +kernel
section
variable (X : Ex)
def t__law_told : DTS :=
  dSeq (dAsg (dC (.str "")) (dgName 2)) <|
  dSeq (dTry X.K (dAsg (dCallF 2 (sp_crossings X) (dCons (dVar 0) (dCons (dVar 1) dNil))) (dgName 3)) [(.ref (X.c "BadSignature"), dAsg (dC (.str "signature")) (dgName 2)), (.ref (X.c "BadRules"), dAsg (dC (.str "rules")) (dgName 2))]) <|
  dRet (dIf (dTest (dOp neR (dVar 2) (dC (.str "")))) (dVar 2) (dVar 3))
theorem V__law_told (xr : ExC X) : ∀ ds m Q E, ds.length = 2 → sp__law_told ds m Q E → t__law_told X (fun cls d _ m' => E cls d m') (bodyEnds Q) (startD ["signature", "rules", "error", "found"] ds) m := by
  intro ds m Q E hl q
  unfold sp__law_told at q
  split at q
  · rename_i s d
    obtain ⟨g1, g2, tm, q, r1, r2⟩ := q
    show t__law_told X _ _ [some s, some d, none, none] m
    unfold t__law_told
    simp only [S, SS', SB, sp_crossings]
    refine ⟨g1, g2, tm, fun h1 h2 => ?_, fun h1 h2 => ?_, fun h1 => ?_⟩
    · obtain ⟨hR, q⟩ := q h1 h2
      refine ⟨hR, neS okC.1 okC.1 ⟨_, rfl, ?_⟩⟩
      rw [if_neg (by simp)]
      exact rt q
    · refine ⟨false, xr.rs, (fun z => nomatch z), fun _ => ⟨true, xr.rr, fun _ => ?_, (fun z => nomatch z)⟩⟩
      simp only [S, SS', SB]
      refine neS okC.2.1 okC.1 ⟨_, rfl, ?_⟩
      rw [okC.2.2.2.1, if_pos (by decide)]
      exact rt (r1 h1 h2)
    · refine ⟨true, xr.ss, fun _ => ?_, (fun z => nomatch z)⟩
      simp only [S, SS', SB]
      refine neS okC.2.2.1 okC.1 ⟨_, rfl, ?_⟩
      rw [okC.2.2.2.2, if_pos (by decide)]
      exact rt (r2 h1)
  · exact q.elim
/-! ### the law -/
def t_d3 : DTS :=
      dSeq (dAsg (dOp ixR (dLst false (dCons (dC .non) (dCons (dCall (listR false) (dCons (dVar 4) dNil)) (dCons (dTup (dCons (dTup dNil) dNil)) (dCons (dOp addR (dVar 4) (dTup (dCons (dC .non) dNil))) (dCons (dTup (dCons (dTup (dCons (dOp mulR (dTup (dCons (dC (.int 0)) dNil)) (dC (.int 4))) (dCons (dTup (dCons (dC (.int 0)) dNil)) dNil))) dNil)) dNil)))))) (dCallF 2 sp__law_pick (dCons (dVar 1) (dCons (dC (.int 5)) dNil)))) (dgName 6)) <|
      dIfS (dOrT (dTest (dOp neR (dCallF 2 sp__law_told (dCons (dVar 3) (dCons (dVar 6) dNil))) (dC (.str "rules")))) (dTest (dOp neR (dCallF 2 sp__law_told (dCons (dTup dNil) (dCons (dVar 6) dNil))) (dC (.str "signature"))))) (dRet (dC (.bl false))) (dNext)
def t_d2 : DTS :=
      dSeq (dIfS (dOrT (dNotT (dTruth (dCallF 2 sp__law_same (dCons (dCallF 2 sp__law_told (dCons (dVar 3) (dCons (dVar 4) dNil))) (dCons (dCallF 1 sp__law_crossings (dCons (dVar 4) dNil)) dNil))))) (dNotT (dTruth (dCallF 2 sp__law_same (dCons (dCallK 2 0 2 (sp_crossings X) [1, 0] dNil (dCons (dVar 4) (dCons (dVar 3) dNil))) (dCons (dCallF 1 sp__law_crossings (dCons (dVar 4) dNil)) dNil)))))) (dRet (dC (.bl false))) (dNext)) t_d3
def t_d1 : DTS :=
      dSeq (dIfS (dAndT (dTest (dOp neR (dVar 4) (dTup dNil))) (dTest (dOp eqR (dCallF 2 sp__law_pick (dCons (dVar 1) (dCons (dC (.int 2)) dNil))) (dC (.int 0))))) (dSeq (dAsg (dTup (dCons (dOp ixR (dOp ixR (dVar 4) (dC (.int 0))) (dC (.int 0))) (dCons (dCallF 3 sp__law_treeb (dCons (dVar 1) (dCons (dVar 3) (dCons (dC (.int 3)) dNil)))) dNil))) (dgName 5)) <|
          dAsg (dOp addR (dVar 4) (dIf (dAndT (dTest (dOp neR (dOp ixR (dVar 5) (dC (.int 0))) (dOp ixR (dVar 5) (dC (.int 1))))) (dTest (dOp (inR true) (dVar 5) (dVar 4)))) (dTup (dCons (dVar 5) dNil)) (dTup dNil))) (dgName 4)) (dNext)) (t_d2 X)
def t_law : DTS :=
  dSeq (dAsg (dCallF 1 sp__law_bag (dCons (dVar 0) dNil)) (dgName 1)) <|
  dSeq (dFor (diRange1 (dCons (dC (.int 6)) dNil)) (dgName 2) (dSeq (dAsg (dCallF 1 sp__law_sigb (dCons (dVar 1) dNil)) (dgName 3)) <|
      dSeq (dAsg (dCallF 4 sp__law_rulesb (dCons (dVar 1) (dCons (dVar 3) (dCons (dC (.int 4)) (dCons (dOp addR (dC (.int 1)) (dCallF 2 sp__law_pick (dCons (dVar 1) (dCons (dC (.int 4)) dNil)))) dNil))))) (dgName 4)) (t_d1 X))) <|
  dRet (dC (.bl true))
def oddR (rs : List D) : List D := [.non, .lst rs, .tup [.tup []], .tup (rs ++ [.non]), .tup [.tup [.tup [.int 0, .int 0, .int 0, .int 0], .tup [.int 0]]]]
theorem odd_bad {es rs : List D} (h : gds rs = true) : ∀ f ∈ oddR rs, rulesB es f = false ∧ gd f = true ∧ tameR es f := fun f hf => by
  have no : ∀ {xs : List D} {y : D}, y ∈ xs → ruleB es y = false → rulesB es (.tup xs) = false ∧ tameR es (.tup xs) := fun {xs y} hy hb => by
    have : xs.all (ruleB es) = false := by
      rw [List.all_eq_false]
      exact ⟨y, hy, by rw [hb]; decide⟩
    refine ⟨by simp [rulesB, this], fun ys e _ ha => ?_⟩
    cases e
    rw [this] at ha
    cases ha
  simp only [oddR, List.mem_cons, List.not_mem_nil, or_false] at hf
  rcases hf with rfl | rfl | rfl | rfl | rfl
  · exact ⟨rfl, rfl, fun ys e => by cases e⟩
  · exact ⟨rfl, by simp only [gd]; exact h, fun ys e => by cases e⟩
  · obtain ⟨a, b⟩ := no (xs := [.tup []]) (y := .tup []) List.mem_cons_self rfl
    exact ⟨a, rfl, b⟩
  · obtain ⟨a, b⟩ := no (xs := rs ++ [.non]) (y := .non) (by simp) rfl
    refine ⟨a, ?_, b⟩
    simp only [gd]
    refine gds_of fun x hx => ?_
    rcases List.mem_append.mp hx with z | z
    · exact gds_mem h x z
    · rw [List.mem_singleton.mp z]; rfl
  · obtain ⟨a, b⟩ := no (xs := [.tup [.tup [.int 0, .int 0, .int 0, .int 0], .tup [.int 0]]]) (y := .tup [.tup [.int 0, .int 0, .int 0, .int 0], .tup [.int 0]]) List.mem_cons_self (by simp [ruleB, treeB, vld, vldT, vlds])
    exact ⟨a, rfl, b⟩
theorem told_bad {es : List D} {f : D} {m : AH} {Q : DQ} {E : DXK} (ge : gds es = true) (hs : sigB (.tup es) = true) (h : rulesB es f = false ∧ gd f = true ∧ tameR es f) (q : Q (.str "rules") m) : sp__law_told [.tup es, f] m Q E :=
  ⟨by simp only [gd]; exact ge, h.2.1, fun _ => h.2.2, (fun _ z => by have z : rulesB es f = true := z; rw [h.1] at z; cases z), fun _ _ => q, fun z => by rw [hs] at z; cases z⟩
theorem told_odd {f : D} {m : AH} {Q : DQ} {E : DXK} (g : gd f = true) (q : Q (.str "signature") m) : sp__law_told [.tup [], f] m Q E :=
  ⟨rfl, g, (fun z => by cases z), (fun z => by cases z), (fun z => by cases z), fun _ => q⟩
theorem v_d3 {W : DW} {E : DEnds} {m : AH} {a : Addr} {es rs : List D} {x0 x2 x5 x6 : Option D} (ha : Bag m a) (hs : sigB (.tup es) = true) (ge : gds es = true) (gr : gds rs = true) (lr : rs.length ≤ 30)
    (q : ∀ o x6, BagV o → E.nx [x0, some (.ref a), x2, some (.tup es), some (.tup rs), x5, x6] (put m a o)) : t_d3 W E [x0, some (.ref a), x2, some (.tup es), some (.tup rs), x5, x6] m := by
  have big : (1000000 : Nat) ≤ sizeLine := sl0
  unfold t_d3
  simp only [S, SS', SB, listR, VL, addR, mulR, sp__law_pick, Bool.false_eq_true, if_false]
  refine ⟨by omega, by omega, by omega, by omega, by omega, by decide, by decide, by decide, by omega, by omega, by omega, by omega, ha, by decide, by decide, fun r o r0 r1 wo => ?_⟩
  have e4 : (List.replicate (4 : Int).toNat [D.int 0]).flatten = [D.int 0, D.int 0, D.int 0, D.int 0] := rfl
  rw [e4]
  obtain ⟨f, mf, ef⟩ := at_mem (xs := oddR rs) r0 (by simp only [oddR, List.length_cons, List.length_nil]; omega)
  have hf := odd_bad (es := es) gr f mf
  refine ixL ef (told_bad ge hs hf ?_)
  refine neS okC.2.1 okC.2.1 ⟨_, rfl, ?_⟩
  rw [if_neg (by simp)]
  refine ⟨by omega, told_odd hf.2.1 ?_⟩
  refine neS okC.2.2.1 okC.2.2.1 ⟨_, rfl, ?_⟩
  rw [if_neg (by simp)]
  exact q o _ wo
theorem tg3 {es : List D} {t : D} (h : TG es 3 t) : szD t ≤ 15 := by have := h.s; omega
theorem cross_few {es rs : List D} (h : RlsG es rs) (l : rs.length ≤ 5) (z : ∀ k, k < rs.length → szD (lhs rs k) ≤ 15) : ndD (.tup (crossAll rs)) ≤ 1000000 := by
  have h1 := h.good.2.2.2
  have : ∀ is : List Nat, (∀ i ∈ is, i < rs.length) → (crossL rs is).length ≤ 75 * is.length := fun is => by
    induction is with
    | nil => intro _; exact Nat.zero_le _
    | cons i is ih =>
      intro hi
      have a1 := ih fun k hk => hi k (List.mem_cons_of_mem _ hk)
      have a2 := crossX_len (rs := rs) i (spotsD [] (lhs rs i))
      rw [spots_len] at a2
      have a3 := z i (hi i List.mem_cons_self)
      have a4 : rs.length * szD (lhs rs i) ≤ 5 * 15 := Nat.mul_le_mul l a3
      unfold crossL at a1 ⊢
      rw [List.flatMap_cons, List.length_append, List.length_cons, Nat.mul_add]
      omega
  have a := this (List.range rs.length) fun i hi => List.mem_range.mp hi
  rw [List.length_range] at a
  have : (crossAll rs).length = (crossL rs (List.range rs.length)).length := rfl
  omega
theorem v_d2 {W : DW} {E : DEnds} {m : AH} {a : Addr} {es rs : List D} {x0 x2 x5 x6 : Option D} (ha : Bag m a) (hs : sigB (.tup es) = true) (ge : gds es = true) (hR : RulesG es 3 5 rs)
    (q : ∀ o x6, BagV o → E.nx [x0, some (.ref a), x2, some (.tup es), some (.tup rs), x5, x6] (put m a o)) : t_d2 X W E [x0, some (.ref a), x2, some (.tup es), some (.tup rs), x5, x6] m := by
  have gr := hR.g
  have rb := hR.b (by decide) (by decide)
  have hG := hR.rls (by decide) (by decide)
  have len := hR.len
  obtain ⟨c1, c2, c3, _⟩ := hG.good
  have c4 := cross_few hG len fun k hk => tg3 (by
    obtain ⟨l, r, er, h1, _⟩ := hR.all _ (List.getElem_mem hk)
    have e1 : rs.getD k .non = .tup [l, r] := by rw [List.getD_eq_getElem?_getD, List.getElem?_eq_getElem hk, er]; rfl
    simp only [lhs, e1, fst]
    exact h1)
  have same : ∀ {m Q E}, Q (.bl true) m → sp__law_same [.tup (crossAll rs), .tup (crossAll rs)] m Q E := fun {m Q E} q => ⟨rfl, c1, c2, (by show _ ≤ 63; omega), (by show 63 ≤ 64; decide), by omega, q⟩
  have cr : ∀ {m Q E}, Q (.tup (crossAll rs)) m → sp_crossings X [.tup es, .tup rs] m Q E := fun {m Q E} q =>
    ⟨by simp only [gd]; exact ge, gr, fun _ => hR.tame (by decide), fun _ _ => ⟨hG, q⟩, (fun _ z => by have z : rulesB es (.tup rs) = false := z; rw [rb] at z; cases z), fun z => by rw [hs] at z; cases z⟩
  have tr : ∀ {m Q E}, Q (.tup (crossAll rs)) m → sp__law_told [.tup es, .tup rs] m Q E := fun {m Q E} q =>
    ⟨by simp only [gd]; exact ge, gr, fun _ => hR.tame (by decide), fun _ _ => ⟨hG, q⟩, (fun _ z => by have z : rulesB es (.tup rs) = false := z; rw [rb] at z; cases z), fun z => by rw [hs] at z; cases z⟩
  have lc : ∀ {m Q E}, Q (.tup (crossAll rs)) m → sp__law_crossings [.tup rs] m Q E := fun {m Q E} q => ⟨⟨es, hG⟩, q⟩
  have p2 : ∀ a b : D, perm [1, 0] [a, b] = [b, a] := fun _ _ => rfl
  unfold t_d2
  simp only [S, SS', SB]
  refine tr (lc (same ?_))
  simp only [TR, Bool.not_true, Bool.false_eq_true, if_false, List.nil_append, p2, S, SB]
  refine cr (lc (same ?_))
  simp only [TR, Bool.not_true, Bool.false_eq_true, if_false]
  refine v_d3 ha hs ge (by simpa [gd] using gr) (by omega) fun o y6 wo => q o _ wo
theorem v_d1 {W : DW} {E : DEnds} {m : AH} {a : Addr} {es rs : List D} {x0 x2 x5 x6 : Option D} (ha : Bag m a) (hs : sigB (.tup es) = true) (ge : gds es = true) (hR : RulesG es 3 4 rs)
    (q : ∀ o x4 x5 x6, BagV o → E.nx [x0, some (.ref a), x2, some (.tup es), x4, x5, x6] (put m a o)) : t_d1 X W E [x0, some (.ref a), x2, some (.tup es), some (.tup rs), x5, x6] m := by
  have big : (1000000 : Nat) ≤ sizeLine := sl0
  have len := hR.len
  have go : ∀ {o : MO} {rs' : List D} {x5 : Option D}, BagV o → RulesG es 3 5 rs' → t_d2 X W E [x0, some (.ref a), x2, some (.tup es), some (.tup rs'), x5, x6] (put m a o) := fun {o rs' x5} wo hR' =>
    v_d2 X (Bag.put wo) hs ge hR' fun o2 y6 w2 => by rw [put_put]; exact q o2 _ _ _ w2
  have hR5 : RulesG es 3 5 rs := ⟨by omega, hR.all, hR.nd⟩
  have ly : lays rs = true := lays_of fun z hz => gd_lay _ (hR.all z hz).g
  have dp : ∀ z ∈ rs, dep z ≤ 5 := fun z hz => (hR.all z hz).dep
  unfold t_d1
  simp only [S, SS', SB]
  refine ⟨by omega, ?_⟩
  have e0 : eqD (.tup rs) (.tup []) = rs.isEmpty := by rw [eqD, eqDs_nil]
  refine neR_of (b := rs.isEmpty) (by simpa [val, VL] using ly) rfl (by simp only [val, dep, deps]; omega) e0 ⟨_, rfl, ?_⟩
  cases ec : rs with
  | nil =>
    simp only [List.isEmpty_nil, Bool.not_true, Bool.false_eq_true, if_false]
    rw [← ec]
    exact v_d2 X ha hs ge hR5 fun o y6 wo => q o _ _ _ wo
  | cons r rs' =>
    simp only [List.isEmpty_cons, Bool.not_false, if_true, sp__law_pick]
    refine ⟨ha, by decide, by decide, fun d o d0 d1 wo => eqR_ii ⟨_, rfl, ?_⟩⟩
    rw [← ec]
    by_cases c3 : d = 0
    · subst c3
      simp only [beq_self_eq_true, if_true]
      have h0 : 0 < rs.length := by rw [ec]; simp
      obtain ⟨l, u, er, h1, h2, _⟩ := hR.all _ (List.getElem_mem h0)
      refine ixT (x := .tup [l, u]) (by rw [atN (by decide) (by omega)]; rw [show (0 : Int).toNat = 0 from rfl, List.getElem?_eq_getElem h0, er]) (ixT atL0 ?_)
      refine treeb_call (Bag.put wo) hs ge (by decide) (by show (3 : Int) ≤ (64 : Nat); decide) (by decide) fun t o2 ht w2 => ?_
      rw [put_put]
      have ht3 : TG es 3 t := (TreeN.tg (k := 2) ht).mono (by decide)
      refine ⟨by omega, ixT atL0 (ixT atL1 ?_)⟩
      simp only [neR, val_vld h1.v, val_vld ht3.v, SB]
      have d1 := h1.dep
      have d2 := ht3.dep
      refine ⟨gd_lay _ h1.g, gd_lay _ ht3.g, by omega, ?_⟩
      have nil : ∀ {Q : DQ} {m2 : AH}, Q (.tup rs) m2 → addR (.tup rs) (.tup []) m2 Q := fun {Q m2} q => by
        simp only [addR]
        exact ⟨by rw [List.length_nil]; omega, by rw [List.append_nil]; exact q⟩
      cases c1 : eqD l t with
      | true =>
        simp only [Bool.not_true, Bool.false_eq_true, if_false]
        exact ⟨by omega, nil (go w2 hR5)⟩
      | false =>
        simp only [Bool.not_false, if_true]
        have hr : RuleG es 3 (.tup [l, t]) := ⟨l, t, rfl, h1, ht3, c1⟩
        refine ⟨rs, .inr rfl, ly, gd_lay _ hr.g, ?_, ?_⟩
        · have := hr.dep
          show min (deps rs) (dep (.tup [l, t])) ≤ 64
          omega
        · have ev : val (put m a o2) (.tup [l, t]) = .tup [l, t] := rfl
          rw [ev]
          refine ⟨_, rfl, ?_⟩
          cases c2 : rs.any fun z => eqD z (.tup [l, t]) with
          | true =>
            simp only [bne_self_eq_false, Bool.false_eq_true, if_false]
            exact ⟨by omega, nil (go w2 hR5)⟩
          | false =>
            simp only [show ((false != true) = true) by decide, if_true, addR]
            refine ⟨by omega, by simp only [List.length_cons, List.length_nil]; omega, ?_⟩
            exact go w2 (hR.snoc hr c2)
    · rw [if_neg (by simpa using c3)]
      exact go wo hR5
def sp_law : DSp := fun ds m Q _ => match ds with
  | [.rdl xs] => (∃ ns : List Int, xs = ns.map D.int ∧ ns.length ≤ 63) ∧ ∀ m', Le m m' → Q (.bl true) m'
  | _ => False
theorem V_law : ∀ ds m Q E, ds.length = 1 → sp_law ds m Q E → t_law X (fun cls d _ m' => E cls d m') (bodyEnds Q) (startD ["script", "bag", "k", "signature", "rules", "more", "odd"] ds) m := by
  intro ds m Q E hl q
  unfold sp_law at q
  split at q
  · obtain ⟨⟨ns, e, hn⟩, q⟩ := q
    subst e
    show t_law X _ _ [some (.rdl (ns.map D.int)), none, none, none, none, none, none] m
    unfold t_law
    simp only [S, SS', SL, SB, sp__law_bag]
    refine ⟨⟨ns, rfl, hn⟩, fun a o0 h0 w0 => ⟨_, rfl, ⟨by decide, by decide⟩, ?_⟩⟩
    refine for_fix (rng 0 1 (6 : Int).toNat) (fun i δ m' => ∃ o x2 x3 x4 x5 x6, BagV o ∧ m' = put m a o ∧ δ = [some (.rdl (ns.map D.int)), some (.ref a), x2, x3, x4, x5, x6]) (fun _ _ _ _ => rfl) ⟨o0, _, _, _, _, _, w0, rfl, rfl⟩ ?_ ?_
    · rintro i k x δ m' hx hi hl2 ⟨o, x2, x3, x4, x5, x6, wo, rfl, rfl⟩
      simp only [S, SS', SB, sp__law_sigb]
      refine ⟨Bag.put wo, fun es o1 hs ge w1 => ?_⟩
      rw [put_put]
      simp only [sp__law_pick, addR]
      refine ⟨Bag.put w1, by decide, by decide, fun r o2 r0 r1 w2 => ?_⟩
      rw [put_put]
      simp only [sp__law_rulesb]
      refine ⟨Bag.put w2, hs, ge, by decide, by decide, by omega, by omega, fun rs o3 hR w3 => ?_⟩
      rw [put_put]
      have hR3 : RulesG es 3 4 rs := ⟨hR.len, fun x hx => by
        obtain ⟨l, u, e, h1, h2, h3⟩ := hR.all x hx
        exact ⟨l, u, e, h1.mono (by omega), h2.mono (by omega), h3⟩, hR.nd⟩
      refine v_d1 X (Bag.put w3) hs ge hR3 fun o4 y4 y5 y6 w4 => ?_
      rw [put_put]
      dsimp only
      exact fN_intro hi hl2 ⟨o4, _, _, _, _, _, w4, rfl, rfl⟩
    · rintro δ m' ⟨o, x2, x3, x4, x5, x6, wo, rfl, rfl⟩
      simp only [S, SS', SB]
      exact rt (q _ (Le.new h0))
  · exact q.elim
end
end L2.AP
set_option Elab.async false
set_option linter.all false
set_option maxRecDepth 100000
set_option maxHeartbeats 4000000
/-! L64: the law's own text. -/
namespace L2.AP
open PySem PySem.Spec PyProof.Rows
/-! ### the text -/
def topS (i : Nat) : Stmt := PySem.Challenge.pw_groundturns_k64_crossings.main.body.getD i (.Pass ⟨0, 0, 0, 0⟩)
def E3 (X : Ex) : Env3 := { K := X.K, cons := [("SMALL_LETTERS", c_SMALL_LETTERS), ("DIGITS", c_DIGITS), ("LONGEST_NAME", c_LONGEST_NAME), ("MOST_SYMBOLS", c_MOST_SYMBOLS), ("MOST_ARITY", c_MOST_ARITY), ("MOST_DEPTH", c_MOST_DEPTH), ("MOST_SIZE", c_MOST_SIZE), ("MOST_RULES", c_MOST_RULES)], excs := [("GroundError", X.c "GroundError"), ("BadSignature", X.c "BadSignature"), ("BadRules", X.c "BadRules")], blts := ["len", "all", "sum", "min", "list", "tuple", "int", "str", "bool", "isinstance", "range", "enumerate", "zip", "set", "sorted"] }
abbrev s_is_int : Stmt := topS 8
def fi_is_int : FI := ⟨["thing"], sp_is_int, []⟩
abbrev s_within : Stmt := topS 9
def fi_within : FI := ⟨["thing", "low", "high"], sp_within, []⟩
abbrev s_is_row : Stmt := topS 10
def fi_is_row : FI := ⟨["thing", "low", "high"], sp_is_row, []⟩
abbrev s_is_low_name : Stmt := topS 11
def fi_is_low_name : FI := ⟨["thing"], sp_is_low_name, []⟩
abbrev s_is_signature : Stmt := topS 17
def fi_is_signature : FI := ⟨["thing"], sp_is_signature, []⟩
abbrev s_need_signature : Stmt := topS 18
def fi_need_signature (X : Ex) : FI := ⟨["signature"], sp_need_signature X, []⟩
abbrev s_is_small_tree : Stmt := topS 19
def fi_is_small_tree : FI := ⟨["signature", "thing"], sp_is_small_tree, []⟩
abbrev s_is_rule : Stmt := topS 22
def fi_is_rule : FI := ⟨["signature", "thing"], sp_is_rule, []⟩
abbrev s_are_right_rules : Stmt := topS 23
def fi_are_right_rules : FI := ⟨["signature", "thing"], sp_are_right_rules, []⟩
abbrev s_are_rules : Stmt := topS 24
def fi_are_rules (X : Ex) : FI := ⟨["signature", "thing"], sp_are_rules X, []⟩
abbrev s_need_rules : Stmt := topS 25
def fi_need_rules (X : Ex) : FI := ⟨["signature", "rules"], sp_need_rules X, []⟩
abbrev s_spots_in : Stmt := topS 27
def fi_spots_in : FI := ⟨["tree"], sp_spots_in, []⟩
abbrev s_put_at : Stmt := topS 28
def fi_put_at : FI := ⟨["tree", "place", "other"], sp_put_at, []⟩
abbrev s_crossings_of : Stmt := topS 30
def fi_crossings_of : FI := ⟨["rules"], sp_crossings_of, []⟩
abbrev s_crossings : Stmt := topS 31
def fi_crossings (X : Ex) : FI := ⟨["signature", "rules"], sp_crossings X, [((0, ["rules", "signature"]), [1, 0])]⟩
abbrev s__law_bag : Stmt := topS 33
def fi__law_bag : FI := ⟨["script"], sp__law_bag, []⟩
abbrev s__law_pick : Stmt := topS 34
def fi__law_pick : FI := ⟨["bag", "many"], sp__law_pick, []⟩
abbrev s__law_same : Stmt := topS 35
def fi__law_same : FI := ⟨["found", "due"], sp__law_same, []⟩
def fir__law_same (n : Nat) : FI := ⟨["found", "due"], spr__law_same n, []⟩
abbrev s__law_signature : Stmt := topS 36
def fi__law_signature : FI := ⟨["bag"], sp__law_sigb, []⟩
abbrev s__law_size : Stmt := topS 37
def fi__law_size : FI := ⟨["tree"], sp__law_sizeb, []⟩
def fir__law_size (n : Nat) : FI := ⟨["tree"], spr__law_sizeb n, []⟩
abbrev s__law_tree : Stmt := topS 38
def fi__law_tree : FI := ⟨["bag", "signature", "size"], sp__law_treeb, []⟩
def fir__law_tree (n : Nat) : FI := ⟨["bag", "signature", "size"], spr__law_treeb n, []⟩
abbrev s__law_rules : Stmt := topS 39
def fi__law_rules : FI := ⟨["bag", "signature", "many", "size"], sp__law_rulesb, []⟩
abbrev s__law_spots : Stmt := topS 40
def fi__law_spots : FI := ⟨["tree"], sp__law_spotsb, []⟩
def fir__law_spots (n : Nat) : FI := ⟨["tree"], spr__law_spotsb n, []⟩
abbrev s__law_put : Stmt := topS 41
def fi__law_put : FI := ⟨["tree", "place", "other"], sp__law_putb, []⟩
def fir__law_put (n : Nat) : FI := ⟨["tree", "place", "other"], spr__law_putb n, []⟩
abbrev s__law_crossings : Stmt := topS 42
def fi__law_crossings : FI := ⟨["rules"], sp__law_crossings, []⟩
abbrev s__law_told : Stmt := topS 43
def fi__law_told : FI := ⟨["signature", "rules"], sp__law_told, []⟩
abbrev s_law : Stmt := topS 44
def fi_law : FI := ⟨["script"], sp_law, []⟩
/-! ### the readings -/
theorem sc_is_int : FnScope ["thing"] ["thing"] (defScope s_is_int) := ⟨rfl, rfl, rfl, by decide +kernel, rfl, by decide +kernel, by decide +kernel⟩
theorem r_is_int (X : Ex) : cSs ((E3 X).ge []) 40 ⟨["thing"], defScope s_is_int, true, true, []⟩ (defBody s_is_int) = some (t_is_int) := by kernel_rfl
theorem sc_within : FnScope ["thing", "low", "high"] ["thing", "low", "high"] (defScope s_within) := ⟨rfl, rfl, rfl, by decide +kernel, rfl, by decide +kernel, by decide +kernel⟩
theorem r_within (X : Ex) : cSs ((E3 X).ge [("is_int", fi_is_int)]) 40 ⟨["thing", "low", "high"], defScope s_within, true, true, []⟩ (defBody s_within) = some (t_within) := by kernel_rfl
theorem sc_is_row : FnScope ["thing", "low", "high"] ["thing", "low", "high"] (defScope s_is_row) := ⟨rfl, rfl, rfl, by decide +kernel, rfl, by decide +kernel, by decide +kernel⟩
theorem r_is_row (X : Ex) : cSs ((E3 X).ge []) 40 ⟨["thing", "low", "high"], defScope s_is_row, true, true, []⟩ (defBody s_is_row) = some (t_is_row) := by kernel_rfl
theorem sc_is_low_name : FnScope ["thing", "sign"] ["thing"] (defScope s_is_low_name) := ⟨rfl, rfl, rfl, by decide +kernel, rfl, by decide +kernel, by decide +kernel⟩
theorem r_is_low_name (X : Ex) : cSs ((E3 X).ge []) 40 ⟨["thing", "sign"], defScope s_is_low_name, true, true, []⟩ (defBody s_is_low_name) = some (t_is_low_name) := by kernel_rfl
theorem sc_is_signature : FnScope ["thing", "names", "entry", "name", "arity"] ["thing"] (defScope s_is_signature) := ⟨rfl, rfl, rfl, by decide +kernel, rfl, by decide +kernel, by decide +kernel⟩
theorem r_is_signature (X : Ex) : cSs ((E3 X).ge [("is_row", fi_is_row), ("is_low_name", fi_is_low_name), ("within", fi_within)]) 40 ⟨["thing", "names", "entry", "name", "arity"], defScope s_is_signature, true, true, []⟩ (defBody s_is_signature) = some (t_is_signature) := by kernel_rfl
theorem sc_need_signature : FnScope ["signature"] ["signature"] (defScope s_need_signature) := ⟨rfl, rfl, rfl, by decide +kernel, rfl, by decide +kernel, by decide +kernel⟩
theorem r_need_signature (X : Ex) : cSs ((E3 X).ge [("is_signature", fi_is_signature)]) 40 ⟨["signature"], defScope s_need_signature, true, true, []⟩ (defBody s_need_signature) = some (t_need_signature X) := by kernel_rfl
theorem sc_is_small_tree : FnScope ["signature", "thing", "waiting", "size", "part", "depth", "child"] ["signature", "thing"] (defScope s_is_small_tree) := ⟨rfl, rfl, rfl, by decide +kernel, rfl, by decide +kernel, by decide +kernel⟩
theorem r_is_small_tree (X : Ex) : cSs ((E3 X).ge [("within", fi_within)]) 40 ⟨["signature", "thing", "waiting", "size", "part", "depth", "child"], defScope s_is_small_tree, true, true, [(38, 21)]⟩ (defBody s_is_small_tree) = some (t_is_small_tree) := by kernel_rfl
theorem sc_is_rule : FnScope ["signature", "thing", "side"] ["signature", "thing"] (defScope s_is_rule) := ⟨rfl, rfl, rfl, by decide +kernel, rfl, by decide +kernel, by decide +kernel⟩
theorem r_is_rule (X : Ex) : cSs ((E3 X).ge [("is_row", fi_is_row), ("is_small_tree", fi_is_small_tree)]) 40 ⟨["signature", "thing", "side"], defScope s_is_rule, true, true, []⟩ (defBody s_is_rule) = some (t_is_rule) := by kernel_rfl
theorem sc_are_right_rules : FnScope ["signature", "thing", "rule"] ["signature", "thing"] (defScope s_are_right_rules) := ⟨rfl, rfl, rfl, by decide +kernel, rfl, by decide +kernel, by decide +kernel⟩
theorem r_are_right_rules (X : Ex) : cSs ((E3 X).ge [("is_row", fi_is_row), ("is_rule", fi_is_rule)]) 40 ⟨["signature", "thing", "rule"], defScope s_are_right_rules, true, true, []⟩ (defBody s_are_right_rules) = some (t_are_right_rules) := by kernel_rfl
theorem sc_are_rules : FnScope ["signature", "thing"] ["signature", "thing"] (defScope s_are_rules) := ⟨rfl, rfl, rfl, by decide +kernel, rfl, by decide +kernel, by decide +kernel⟩
theorem r_are_rules (X : Ex) : cSs ((E3 X).ge [("need_signature", fi_need_signature X), ("are_right_rules", fi_are_right_rules)]) 40 ⟨["signature", "thing"], defScope s_are_rules, true, true, []⟩ (defBody s_are_rules) = some (t_are_rules X) := by kernel_rfl
theorem sc_need_rules : FnScope ["signature", "rules"] ["signature", "rules"] (defScope s_need_rules) := ⟨rfl, rfl, rfl, by decide +kernel, rfl, by decide +kernel, by decide +kernel⟩
theorem r_need_rules (X : Ex) : cSs ((E3 X).ge [("are_rules", fi_are_rules X)]) 40 ⟨["signature", "rules"], defScope s_need_rules, true, true, []⟩ (defBody s_need_rules) = some (t_need_rules X) := by kernel_rfl
theorem sc_spots_in : FnScope ["tree", "found", "waiting", "place", "part", "i"] ["tree"] (defScope s_spots_in) := ⟨rfl, rfl, rfl, by decide +kernel, rfl, by decide +kernel, by decide +kernel⟩
theorem r_spots_in (X : Ex) : cSs ((E3 X).ge []) 40 ⟨["tree", "found", "waiting", "place", "part", "i"], defScope s_spots_in, true, true, [(64, 22), (64, 26)]⟩ (defBody s_spots_in) = some (t_spots_in) := by kernel_rfl
theorem sc_put_at : FnScope ["tree", "place", "other", "on_way", "i", "part"] ["tree", "place", "other"] (defScope s_put_at) := ⟨rfl, rfl, rfl, by decide +kernel, rfl, by decide +kernel, by decide +kernel⟩
theorem r_put_at (X : Ex) : cSs ((E3 X).ge []) 40 ⟨["tree", "place", "other", "on_way", "i", "part"], defScope s_put_at, true, true, [(71, 13)]⟩ (defBody s_put_at) = some (t_put_at) := by kernel_rfl
theorem sc_crossings_of : FnScope ["rules", "found", "i", "left", "right", "place", "part", "j", "other", "result"] ["rules"] (defScope s_crossings_of) := ⟨rfl, rfl, rfl, by decide +kernel, rfl, by decide +kernel, by decide +kernel⟩
theorem r_crossings_of (X : Ex) : cSs ((E3 X).ge [("spots_in", fi_spots_in), ("put_at", fi_put_at)]) 40 ⟨["rules", "found", "i", "left", "right", "place", "part", "j", "other", "result"], defScope s_crossings_of, true, true, [(80, 12)]⟩ (defBody s_crossings_of) = some (t_crossings_of) := by kernel_rfl
theorem sc_crossings : FnScope ["signature", "rules"] ["signature", "rules"] (defScope s_crossings) := ⟨rfl, rfl, rfl, by decide +kernel, rfl, by decide +kernel, by decide +kernel⟩
theorem r_crossings (X : Ex) : cSs ((E3 X).ge [("need_rules", fi_need_rules X), ("crossings_of", fi_crossings_of)]) 40 ⟨["signature", "rules"], defScope s_crossings, true, true, []⟩ (defBody s_crossings) = some (t_crossings X) := by kernel_rfl
theorem sc__law_bag : FnScope ["script"] ["script"] (defScope s__law_bag) := ⟨rfl, rfl, rfl, by decide +kernel, rfl, by decide +kernel, by decide +kernel⟩
theorem r__law_bag (X : Ex) : cSs ((E3 X).ge []) 40 ⟨["script"], defScope s__law_bag, true, true, [(92, 11)]⟩ (defBody s__law_bag) = some (t__law_bag) := by kernel_rfl
theorem sc__law_pick : FnScope ["bag", "many", "at", "cell", "got"] ["bag", "many"] (defScope s__law_pick) := ⟨rfl, rfl, rfl, by decide +kernel, rfl, by decide +kernel, by decide +kernel⟩
theorem r__law_pick (X : Ex) : cSs ((E3 X).ge []) 40 ⟨["bag", "many", "at", "cell", "got"], defScope s__law_pick, true, true, []⟩ (defBody s__law_pick) = some (t__law_pick) := by kernel_rfl
theorem sc__law_same : FnScope ["found", "due", "k"] ["found", "due"] (defScope s__law_same) := ⟨rfl, rfl, rfl, by decide +kernel, rfl, by decide +kernel, by decide +kernel⟩
theorem r__law_same (X : Ex) (n : Nat) : cSs ((E3 X).ge [("_law_same", fir__law_same n)]) 40 ⟨["found", "due", "k"], defScope s__law_same, true, true, []⟩ (defBody s__law_same) = some (t__law_same n) := by kernel_rfl
theorem sc__law_signature : FnScope ["bag", "rows", "row", "turn"] ["bag"] (defScope s__law_signature) := ⟨rfl, rfl, rfl, by decide +kernel, rfl, by decide +kernel, by decide +kernel⟩
theorem r__law_signature (X : Ex) : cSs ((E3 X).ge [("_law_pick", fi__law_pick)]) 40 ⟨["bag", "rows", "row", "turn"], defScope s__law_signature, true, true, [(116, 11)]⟩ (defBody s__law_signature) = some (t__law_sigb) := by kernel_rfl
theorem sc__law_size : FnScope ["tree", "child"] ["tree"] (defScope s__law_size) := ⟨rfl, rfl, rfl, by decide +kernel, rfl, by decide +kernel, by decide +kernel⟩
theorem r__law_size (X : Ex) (n : Nat) : cSs ((E3 X).ge [("_law_size", fir__law_size n)]) 40 ⟨["tree", "child"], defScope s__law_size, true, true, []⟩ (defBody s__law_size) = some (t__law_sizeb n) := by kernel_rfl
theorem sc__law_tree : FnScope ["bag", "signature", "size", "some", "symbol", "first", "k"] ["bag", "signature", "size"] (defScope s__law_tree) := ⟨rfl, rfl, rfl, by decide +kernel, rfl, by decide +kernel, by decide +kernel⟩
theorem r__law_tree (X : Ex) (n : Nat) : cSs ((E3 X).ge [("_law_tree", fir__law_tree n), ("_law_pick", fi__law_pick), ("_law_size", fi__law_size)]) 40 ⟨["bag", "signature", "size", "some", "symbol", "first", "k"], defScope s__law_tree, true, true, []⟩ (defBody s__law_tree) = some (t__law_treeb n) := by kernel_rfl
theorem sc__law_rules : FnScope ["bag", "signature", "many", "size", "found", "k", "rule"] ["bag", "signature", "many", "size"] (defScope s__law_rules) := ⟨rfl, rfl, rfl, by decide +kernel, rfl, by decide +kernel, by decide +kernel⟩
theorem r__law_rules (X : Ex) : cSs ((E3 X).ge [("_law_pick", fi__law_pick), ("_law_tree", fi__law_tree)]) 40 ⟨["bag", "signature", "many", "size", "found", "k", "rule"], defScope s__law_rules, true, true, [(134, 12)]⟩ (defBody s__law_rules) = some (t__law_rulesb) := by kernel_rfl
theorem sc__law_spots : FnScope ["tree", "found", "i", "place", "part"] ["tree"] (defScope s__law_spots) := ⟨rfl, rfl, rfl, by decide +kernel, rfl, by decide +kernel, by decide +kernel⟩
theorem r__law_spots (X : Ex) (n : Nat) : cSs ((E3 X).ge [("_law_spots", fir__law_spots n)]) 40 ⟨["tree", "found", "i", "place", "part"], defScope s__law_spots, true, true, [(141, 12)]⟩ (defBody s__law_spots) = some (t__law_spotsb n) := by kernel_rfl
theorem sc__law_put : FnScope ["tree", "place", "other", "i"] ["tree", "place", "other"] (defScope s__law_put) := ⟨rfl, rfl, rfl, by decide +kernel, rfl, by decide +kernel, by decide +kernel⟩
theorem r__law_put (X : Ex) (n : Nat) : cSs ((E3 X).ge [("_law_put", fir__law_put n)]) 40 ⟨["tree", "place", "other", "i"], defScope s__law_put, true, true, []⟩ (defBody s__law_put) = some (t__law_putb n) := by kernel_rfl
theorem sc__law_crossings : FnScope ["rules", "found", "i", "place", "part", "j"] ["rules"] (defScope s__law_crossings) := ⟨rfl, rfl, rfl, by decide +kernel, rfl, by decide +kernel, by decide +kernel⟩
theorem r__law_crossings (X : Ex) : cSs ((E3 X).ge [("_law_spots", fi__law_spots), ("_law_put", fi__law_put)]) 40 ⟨["rules", "found", "i", "place", "part", "j"], defScope s__law_crossings, true, true, [(151, 12)]⟩ (defBody s__law_crossings) = some (t__law_crossings) := by kernel_rfl
theorem sc__law_told : FnScope ["signature", "rules", "error", "found"] ["signature", "rules"] (defScope s__law_told) := ⟨rfl, rfl, rfl, by decide +kernel, rfl, by decide +kernel, by decide +kernel⟩
theorem r__law_told (X : Ex) : cSs ((E3 X).ge [("crossings", fi_crossings X)]) 40 ⟨["signature", "rules", "error", "found"], defScope s__law_told, true, true, []⟩ (defBody s__law_told) = some (t__law_told X) := by kernel_rfl
theorem sc_law : FnScope ["script", "bag", "k", "signature", "rules", "more", "odd"] ["script"] (defScope s_law) := ⟨rfl, rfl, rfl, by decide +kernel, rfl, by decide +kernel, by decide +kernel⟩
theorem r_law (X : Ex) : cSs ((E3 X).ge [("_law_bag", fi__law_bag), ("_law_signature", fi__law_signature), ("_law_rules", fi__law_rules), ("_law_pick", fi__law_pick), ("_law_tree", fi__law_tree), ("_law_same", fi__law_same), ("_law_crossings", fi__law_crossings), ("_law_told", fi__law_told), ("crossings", fi_crossings X)]) 40 ⟨["script", "bag", "k", "signature", "rules", "more", "odd"], defScope s_law, true, true, []⟩ (defBody s_law) = some (t_law X) := by kernel_rfl
/-! ### each def keeps its promise -/
section
variable {P : Program} {w : World} {X : Ex} {mg : Str → Option Value} {base : Heap}
theorem ok_is_int (E : EnvOk (E3 X) mg) (H : HasA X.K mg "is_int" "is_int" s_is_int)  : FIOk P w X.K mg base 1 "is_int" (fi_is_int) := by
  obtain ⟨f, fd, F, gl⟩ := H.ex
  exact ⟨f, fd, fi_x F gl (F.binds (ps := ["thing"]) fun _ _ _ _ _ _ us hl => match us, hl with | [_], _ => rfl) sc_is_int (gok E (lk_nil)) (r_is_int X) (V_is_int) (kw_nil)⟩
theorem ok_within (E : EnvOk (E3 X) mg) (H : HasA X.K mg "within" "within" s_within) (h_is_int : FIOk P w X.K mg base 1 "is_int" (fi_is_int)) : FIOk P w X.K mg base 2 "within" (fi_within) := by
  obtain ⟨f, fd, F, gl⟩ := H.ex
  exact ⟨f, fd, fi_x F gl (F.binds (ps := ["thing", "low", "high"]) fun _ _ _ _ _ _ us hl => match us, hl with | [_, _, _], _ => rfl) sc_within (gok E (lk_cons (h_is_int.mono (by decide)) (lk_nil))) (r_within X) (V_within) (kw_nil)⟩
theorem ok_is_row (E : EnvOk (E3 X) mg) (H : HasA X.K mg "is_row" "is_row" s_is_row)  : FIOk P w X.K mg base 1 "is_row" (fi_is_row) := by
  obtain ⟨f, fd, F, gl⟩ := H.ex
  exact ⟨f, fd, fi_x F gl (F.binds (ps := ["thing", "low", "high"]) fun _ _ _ _ _ _ us hl => match us, hl with | [_, _, _], _ => rfl) sc_is_row (gok E (lk_nil)) (r_is_row X) (V_is_row) (kw_nil)⟩
theorem ok_is_low_name (E : EnvOk (E3 X) mg) (H : HasA X.K mg "is_low_name" "is_low_name" s_is_low_name)  : FIOk P w X.K mg base 1 "is_low_name" (fi_is_low_name) := by
  obtain ⟨f, fd, F, gl⟩ := H.ex
  exact ⟨f, fd, fi_x F gl (F.binds (ps := ["thing"]) fun _ _ _ _ _ _ us hl => match us, hl with | [_], _ => rfl) sc_is_low_name (gok E (lk_nil)) (r_is_low_name X) (V_is_low_name) (kw_nil)⟩
theorem ok_is_signature (E : EnvOk (E3 X) mg) (H : HasA X.K mg "is_signature" "is_signature" s_is_signature) (h_is_row : FIOk P w X.K mg base 1 "is_row" (fi_is_row)) (h_is_low_name : FIOk P w X.K mg base 1 "is_low_name" (fi_is_low_name)) (h_within : FIOk P w X.K mg base 2 "within" (fi_within)) : FIOk P w X.K mg base 3 "is_signature" (fi_is_signature) := by
  obtain ⟨f, fd, F, gl⟩ := H.ex
  exact ⟨f, fd, fi_x F gl (F.binds (ps := ["thing"]) fun _ _ _ _ _ _ us hl => match us, hl with | [_], _ => rfl) sc_is_signature (gok E (lk_cons (h_is_row.mono (by decide)) (lk_cons (h_is_low_name.mono (by decide)) (lk_cons (h_within.mono (by decide)) (lk_nil))))) (r_is_signature X) (V_is_signature) (kw_nil)⟩
theorem ok_need_signature (E : EnvOk (E3 X) mg) (H : HasA X.K mg "need_signature" "need_signature" s_need_signature) (h_is_signature : FIOk P w X.K mg base 3 "is_signature" (fi_is_signature)) : FIOk P w X.K mg base 4 "need_signature" (fi_need_signature X) := by
  obtain ⟨f, fd, F, gl⟩ := H.ex
  exact ⟨f, fd, fi_x F gl (F.binds (ps := ["signature"]) fun _ _ _ _ _ _ us hl => match us, hl with | [_], _ => rfl) sc_need_signature (gok E (lk_cons (h_is_signature.mono (by decide)) (lk_nil))) (r_need_signature X) (V_need_signature X) (kw_nil)⟩
theorem ok_is_small_tree (E : EnvOk (E3 X) mg) (H : HasA X.K mg "is_small_tree" "is_small_tree" s_is_small_tree) (h_within : FIOk P w X.K mg base 2 "within" (fi_within)) : FIOk P w X.K mg base 3 "is_small_tree" (fi_is_small_tree) := by
  obtain ⟨f, fd, F, gl⟩ := H.ex
  exact ⟨f, fd, fi_x F gl (F.binds (ps := ["signature", "thing"]) fun _ _ _ _ _ _ us hl => match us, hl with | [_, _], _ => rfl) sc_is_small_tree (gok E (lk_cons (h_within.mono (by decide)) (lk_nil))) (r_is_small_tree X) (V_is_small_tree) (kw_nil)⟩
theorem ok_is_rule (E : EnvOk (E3 X) mg) (H : HasA X.K mg "is_rule" "is_rule" s_is_rule) (h_is_row : FIOk P w X.K mg base 1 "is_row" (fi_is_row)) (h_is_small_tree : FIOk P w X.K mg base 3 "is_small_tree" (fi_is_small_tree)) : FIOk P w X.K mg base 4 "is_rule" (fi_is_rule) := by
  obtain ⟨f, fd, F, gl⟩ := H.ex
  exact ⟨f, fd, fi_x F gl (F.binds (ps := ["signature", "thing"]) fun _ _ _ _ _ _ us hl => match us, hl with | [_, _], _ => rfl) sc_is_rule (gok E (lk_cons (h_is_row.mono (by decide)) (lk_cons (h_is_small_tree.mono (by decide)) (lk_nil)))) (r_is_rule X) (V_is_rule) (kw_nil)⟩
theorem ok_are_right_rules (E : EnvOk (E3 X) mg) (H : HasA X.K mg "are_right_rules" "are_right_rules" s_are_right_rules) (h_is_row : FIOk P w X.K mg base 1 "is_row" (fi_is_row)) (h_is_rule : FIOk P w X.K mg base 4 "is_rule" (fi_is_rule)) : FIOk P w X.K mg base 5 "are_right_rules" (fi_are_right_rules) := by
  obtain ⟨f, fd, F, gl⟩ := H.ex
  exact ⟨f, fd, fi_x F gl (F.binds (ps := ["signature", "thing"]) fun _ _ _ _ _ _ us hl => match us, hl with | [_, _], _ => rfl) sc_are_right_rules (gok E (lk_cons (h_is_row.mono (by decide)) (lk_cons (h_is_rule.mono (by decide)) (lk_nil)))) (r_are_right_rules X) (V_are_right_rules) (kw_nil)⟩
theorem ok_are_rules (E : EnvOk (E3 X) mg) (H : HasA X.K mg "are_rules" "are_rules" s_are_rules) (h_need_signature : FIOk P w X.K mg base 4 "need_signature" (fi_need_signature X)) (h_are_right_rules : FIOk P w X.K mg base 5 "are_right_rules" (fi_are_right_rules)) : FIOk P w X.K mg base 6 "are_rules" (fi_are_rules X) := by
  obtain ⟨f, fd, F, gl⟩ := H.ex
  exact ⟨f, fd, fi_x F gl (F.binds (ps := ["signature", "thing"]) fun _ _ _ _ _ _ us hl => match us, hl with | [_, _], _ => rfl) sc_are_rules (gok E (lk_cons (h_need_signature.mono (by decide)) (lk_cons (h_are_right_rules.mono (by decide)) (lk_nil)))) (r_are_rules X) (V_are_rules X) (kw_nil)⟩
theorem ok_need_rules (E : EnvOk (E3 X) mg) (H : HasA X.K mg "need_rules" "need_rules" s_need_rules) (h_are_rules : FIOk P w X.K mg base 6 "are_rules" (fi_are_rules X)) : FIOk P w X.K mg base 7 "need_rules" (fi_need_rules X) := by
  obtain ⟨f, fd, F, gl⟩ := H.ex
  exact ⟨f, fd, fi_x F gl (F.binds (ps := ["signature", "rules"]) fun _ _ _ _ _ _ us hl => match us, hl with | [_, _], _ => rfl) sc_need_rules (gok E (lk_cons (h_are_rules.mono (by decide)) (lk_nil))) (r_need_rules X) (V_need_rules X) (kw_nil)⟩
theorem ok_spots_in (E : EnvOk (E3 X) mg) (H : HasA X.K mg "spots_in" "spots_in" s_spots_in)  : FIOk P w X.K mg base 1 "spots_in" (fi_spots_in) := by
  obtain ⟨f, fd, F, gl⟩ := H.ex
  exact ⟨f, fd, fi_x F gl (F.binds (ps := ["tree"]) fun _ _ _ _ _ _ us hl => match us, hl with | [_], _ => rfl) sc_spots_in (gok E (lk_nil)) (r_spots_in X) (V_spots_in) (kw_nil)⟩
theorem ok_put_at (E : EnvOk (E3 X) mg) (H : HasA X.K mg "put_at" "put_at" s_put_at)  : FIOk P w X.K mg base 1 "put_at" (fi_put_at) := by
  obtain ⟨f, fd, F, gl⟩ := H.ex
  exact ⟨f, fd, fi_x F gl (F.binds (ps := ["tree", "place", "other"]) fun _ _ _ _ _ _ us hl => match us, hl with | [_, _, _], _ => rfl) sc_put_at (gok E (lk_nil)) (r_put_at X) (V_put_at) (kw_nil)⟩
theorem ok_crossings_of (E : EnvOk (E3 X) mg) (H : HasA X.K mg "crossings_of" "crossings_of" s_crossings_of) (h_spots_in : FIOk P w X.K mg base 1 "spots_in" (fi_spots_in)) (h_put_at : FIOk P w X.K mg base 1 "put_at" (fi_put_at)) : FIOk P w X.K mg base 2 "crossings_of" (fi_crossings_of) := by
  obtain ⟨f, fd, F, gl⟩ := H.ex
  exact ⟨f, fd, fi_x F gl (F.binds (ps := ["rules"]) fun _ _ _ _ _ _ us hl => match us, hl with | [_], _ => rfl) sc_crossings_of (gok E (lk_cons (h_spots_in.mono (by decide)) (lk_cons (h_put_at.mono (by decide)) (lk_nil)))) (r_crossings_of X) (V_crossings_of) (kw_nil)⟩
theorem ok_crossings (E : EnvOk (E3 X) mg) (H : HasA X.K mg "crossings" "crossings" s_crossings) (h_need_rules : FIOk P w X.K mg base 7 "need_rules" (fi_need_rules X)) (h_crossings_of : FIOk P w X.K mg base 2 "crossings_of" (fi_crossings_of)) : FIOk P w X.K mg base 8 "crossings" (fi_crossings X) := by
  obtain ⟨f, fd, F, gl⟩ := H.ex
  exact ⟨f, fd, fi_x F gl (F.binds (ps := ["signature", "rules"]) fun _ _ _ _ _ _ us hl => match us, hl with | [_, _], _ => rfl) sc_crossings (gok E (lk_cons (h_need_rules.mono (by decide)) (lk_cons (h_crossings_of.mono (by decide)) (lk_nil)))) (r_crossings X) (V_crossings X) (kw_one (fun_kw F fun _ _ _ _ _ _ us ws h1 h2 => match us, ws, h1, h2 with | [], [_, _], _, _ => rfl))⟩
theorem ok__law_bag (E : EnvOk (E3 X) mg) (H : HasA X.K mg "_law_bag" "_law_bag" s__law_bag)  : FIOk P w X.K mg base 1 "_law_bag" (fi__law_bag) := by
  obtain ⟨f, fd, F, gl⟩ := H.ex
  exact ⟨f, fd, fi_x F gl (F.binds (ps := ["script"]) fun _ _ _ _ _ _ us hl => match us, hl with | [_], _ => rfl) sc__law_bag (gok E (lk_nil)) (r__law_bag X) (V__law_bag) (kw_nil)⟩
theorem ok__law_pick (E : EnvOk (E3 X) mg) (H : HasA X.K mg "_law_pick" "_law_pick" s__law_pick)  : FIOk P w X.K mg base 1 "_law_pick" (fi__law_pick) := by
  obtain ⟨f, fd, F, gl⟩ := H.ex
  exact ⟨f, fd, fi_x F gl (F.binds (ps := ["bag", "many"]) fun _ _ _ _ _ _ us hl => match us, hl with | [_, _], _ => rfl) sc__law_pick (gok E (lk_nil)) (r__law_pick X) (V__law_pick) (kw_nil)⟩
theorem okr__law_same (E : EnvOk (E3 X) mg) (H : HasA X.K mg "_law_same" "_law_same" s__law_same)  : ∀ n, FIOk P w X.K mg base (0 + n) "_law_same" (fir__law_same n)
  | 0 => by
    obtain ⟨f, fd, F, gl⟩ := H.ex
    exact ⟨f, fd, fi_no F gl (F.binds (ps := ["found", "due"]) fun _ _ _ _ _ _ us hl => match us, hl with | [_, _], _ => rfl) (fun _ _ _ _ h => h) (kw_nil)⟩
  | n + 1 => by
    have h__law_same := okr__law_same E H  n
    obtain ⟨f, fd, F, gl⟩ := H.ex
    exact ⟨f, fd, fi_x F gl (F.binds (ps := ["found", "due"]) fun _ _ _ _ _ _ us hl => match us, hl with | [_, _], _ => rfl) sc__law_same (gok E (lk_cons h__law_same (lk_nil))) (r__law_same X n) (V__law_same n) (kw_nil)⟩
theorem ok__law_same (E : EnvOk (E3 X) mg) (H : HasA X.K mg "_law_same" "_law_same" s__law_same)  : FIOk P w X.K mg base 64 "_law_same" (fi__law_same) := okr__law_same E H  64
theorem ok__law_signature (E : EnvOk (E3 X) mg) (H : HasA X.K mg "_law_signature" "_law_signature" s__law_signature) (h__law_pick : FIOk P w X.K mg base 1 "_law_pick" (fi__law_pick)) : FIOk P w X.K mg base 2 "_law_signature" (fi__law_signature) := by
  obtain ⟨f, fd, F, gl⟩ := H.ex
  exact ⟨f, fd, fi_x F gl (F.binds (ps := ["bag"]) fun _ _ _ _ _ _ us hl => match us, hl with | [_], _ => rfl) sc__law_signature (gok E (lk_cons (h__law_pick.mono (by decide)) (lk_nil))) (r__law_signature X) (V__law_sigb) (kw_nil)⟩
theorem okr__law_size (E : EnvOk (E3 X) mg) (H : HasA X.K mg "_law_size" "_law_size" s__law_size)  : ∀ n, FIOk P w X.K mg base (0 + n) "_law_size" (fir__law_size n)
  | 0 => by
    obtain ⟨f, fd, F, gl⟩ := H.ex
    exact ⟨f, fd, fi_no F gl (F.binds (ps := ["tree"]) fun _ _ _ _ _ _ us hl => match us, hl with | [_], _ => rfl) (fun _ _ _ _ h => h) (kw_nil)⟩
  | n + 1 => by
    have h__law_size := okr__law_size E H  n
    obtain ⟨f, fd, F, gl⟩ := H.ex
    exact ⟨f, fd, fi_x F gl (F.binds (ps := ["tree"]) fun _ _ _ _ _ _ us hl => match us, hl with | [_], _ => rfl) sc__law_size (gok E (lk_cons h__law_size (lk_nil))) (r__law_size X n) (V__law_sizeb n) (kw_nil)⟩
theorem ok__law_size (E : EnvOk (E3 X) mg) (H : HasA X.K mg "_law_size" "_law_size" s__law_size)  : FIOk P w X.K mg base 64 "_law_size" (fi__law_size) := okr__law_size E H  64
theorem okr__law_tree (E : EnvOk (E3 X) mg) (H : HasA X.K mg "_law_tree" "_law_tree" s__law_tree) (h__law_pick : FIOk P w X.K mg base 1 "_law_pick" (fi__law_pick)) (h__law_size : FIOk P w X.K mg base 64 "_law_size" (fi__law_size)) : ∀ n, FIOk P w X.K mg base (64 + n) "_law_tree" (fir__law_tree n)
  | 0 => by
    obtain ⟨f, fd, F, gl⟩ := H.ex
    exact ⟨f, fd, fi_no F gl (F.binds (ps := ["bag", "signature", "size"]) fun _ _ _ _ _ _ us hl => match us, hl with | [_, _, _], _ => rfl) (fun _ _ _ _ h => h) (kw_nil)⟩
  | n + 1 => by
    have h__law_tree := okr__law_tree E H h__law_pick h__law_size n
    obtain ⟨f, fd, F, gl⟩ := H.ex
    exact ⟨f, fd, fi_x F gl (F.binds (ps := ["bag", "signature", "size"]) fun _ _ _ _ _ _ us hl => match us, hl with | [_, _, _], _ => rfl) sc__law_tree (gok E (lk_cons h__law_tree (lk_cons (h__law_pick.mono (Nat.le_trans (by decide : 1 ≤ 64) (Nat.le_add_right 64 n))) (lk_cons (h__law_size.mono (Nat.le_trans (by decide : 64 ≤ 64) (Nat.le_add_right 64 n))) (lk_nil))))) (r__law_tree X n) (V__law_treeb n) (kw_nil)⟩
theorem ok__law_tree (E : EnvOk (E3 X) mg) (H : HasA X.K mg "_law_tree" "_law_tree" s__law_tree) (h__law_pick : FIOk P w X.K mg base 1 "_law_pick" (fi__law_pick)) (h__law_size : FIOk P w X.K mg base 64 "_law_size" (fi__law_size)) : FIOk P w X.K mg base 128 "_law_tree" (fi__law_tree) := okr__law_tree E H h__law_pick h__law_size 64
theorem ok__law_rules (E : EnvOk (E3 X) mg) (H : HasA X.K mg "_law_rules" "_law_rules" s__law_rules) (h__law_pick : FIOk P w X.K mg base 1 "_law_pick" (fi__law_pick)) (h__law_tree : FIOk P w X.K mg base 128 "_law_tree" (fi__law_tree)) : FIOk P w X.K mg base 129 "_law_rules" (fi__law_rules) := by
  obtain ⟨f, fd, F, gl⟩ := H.ex
  exact ⟨f, fd, fi_x F gl (F.binds (ps := ["bag", "signature", "many", "size"]) fun _ _ _ _ _ _ us hl => match us, hl with | [_, _, _, _], _ => rfl) sc__law_rules (gok E (lk_cons (h__law_pick.mono (by decide)) (lk_cons (h__law_tree.mono (by decide)) (lk_nil)))) (r__law_rules X) (V__law_rulesb) (kw_nil)⟩
theorem okr__law_spots (E : EnvOk (E3 X) mg) (H : HasA X.K mg "_law_spots" "_law_spots" s__law_spots)  : ∀ n, FIOk P w X.K mg base (0 + n) "_law_spots" (fir__law_spots n)
  | 0 => by
    obtain ⟨f, fd, F, gl⟩ := H.ex
    exact ⟨f, fd, fi_no F gl (F.binds (ps := ["tree"]) fun _ _ _ _ _ _ us hl => match us, hl with | [_], _ => rfl) (fun _ _ _ _ h => h) (kw_nil)⟩
  | n + 1 => by
    have h__law_spots := okr__law_spots E H  n
    obtain ⟨f, fd, F, gl⟩ := H.ex
    exact ⟨f, fd, fi_x F gl (F.binds (ps := ["tree"]) fun _ _ _ _ _ _ us hl => match us, hl with | [_], _ => rfl) sc__law_spots (gok E (lk_cons h__law_spots (lk_nil))) (r__law_spots X n) (V__law_spotsb n) (kw_nil)⟩
theorem ok__law_spots (E : EnvOk (E3 X) mg) (H : HasA X.K mg "_law_spots" "_law_spots" s__law_spots)  : FIOk P w X.K mg base 64 "_law_spots" (fi__law_spots) := okr__law_spots E H  64
theorem okr__law_put (E : EnvOk (E3 X) mg) (H : HasA X.K mg "_law_put" "_law_put" s__law_put)  : ∀ n, FIOk P w X.K mg base (0 + n) "_law_put" (fir__law_put n)
  | 0 => by
    obtain ⟨f, fd, F, gl⟩ := H.ex
    exact ⟨f, fd, fi_no F gl (F.binds (ps := ["tree", "place", "other"]) fun _ _ _ _ _ _ us hl => match us, hl with | [_, _, _], _ => rfl) (fun _ _ _ _ h => h) (kw_nil)⟩
  | n + 1 => by
    have h__law_put := okr__law_put E H  n
    obtain ⟨f, fd, F, gl⟩ := H.ex
    exact ⟨f, fd, fi_x F gl (F.binds (ps := ["tree", "place", "other"]) fun _ _ _ _ _ _ us hl => match us, hl with | [_, _, _], _ => rfl) sc__law_put (gok E (lk_cons h__law_put (lk_nil))) (r__law_put X n) (V__law_putb n) (kw_nil)⟩
theorem ok__law_put (E : EnvOk (E3 X) mg) (H : HasA X.K mg "_law_put" "_law_put" s__law_put)  : FIOk P w X.K mg base 64 "_law_put" (fi__law_put) := okr__law_put E H  64
theorem ok__law_crossings (E : EnvOk (E3 X) mg) (H : HasA X.K mg "_law_crossings" "_law_crossings" s__law_crossings) (h__law_spots : FIOk P w X.K mg base 64 "_law_spots" (fi__law_spots)) (h__law_put : FIOk P w X.K mg base 64 "_law_put" (fi__law_put)) : FIOk P w X.K mg base 65 "_law_crossings" (fi__law_crossings) := by
  obtain ⟨f, fd, F, gl⟩ := H.ex
  exact ⟨f, fd, fi_x F gl (F.binds (ps := ["rules"]) fun _ _ _ _ _ _ us hl => match us, hl with | [_], _ => rfl) sc__law_crossings (gok E (lk_cons (h__law_spots.mono (by decide)) (lk_cons (h__law_put.mono (by decide)) (lk_nil)))) (r__law_crossings X) (V__law_crossings) (kw_nil)⟩
theorem ok__law_told (xt : ExC X) (E : EnvOk (E3 X) mg) (H : HasA X.K mg "_law_told" "_law_told" s__law_told) (h_crossings : FIOk P w X.K mg base 8 "crossings" (fi_crossings X)) : FIOk P w X.K mg base 9 "_law_told" (fi__law_told) := by
  obtain ⟨f, fd, F, gl⟩ := H.ex
  exact ⟨f, fd, fi_x F gl (F.binds (ps := ["signature", "rules"]) fun _ _ _ _ _ _ us hl => match us, hl with | [_, _], _ => rfl) sc__law_told (gok E (lk_cons (h_crossings.mono (by decide)) (lk_nil))) (r__law_told X) (V__law_told X xt) (kw_nil)⟩
theorem ok_law (E : EnvOk (E3 X) mg) {f : Addr} {fd : FuncData} (F : Fun X.K "law" "law" s_law f fd) (gl : mg "law" = some (.ref f)) (h__law_bag : FIOk P w X.K mg base 1 "_law_bag" (fi__law_bag)) (h__law_signature : FIOk P w X.K mg base 2 "_law_signature" (fi__law_signature)) (h__law_rules : FIOk P w X.K mg base 129 "_law_rules" (fi__law_rules)) (h__law_pick : FIOk P w X.K mg base 1 "_law_pick" (fi__law_pick)) (h__law_tree : FIOk P w X.K mg base 128 "_law_tree" (fi__law_tree)) (h__law_same : FIOk P w X.K mg base 64 "_law_same" (fi__law_same)) (h__law_crossings : FIOk P w X.K mg base 65 "_law_crossings" (fi__law_crossings)) (h__law_told : FIOk P w X.K mg base 9 "_law_told" (fi__law_told)) (h_crossings : FIOk P w X.K mg base 8 "crossings" (fi_crossings X)) : FIx P w X.K mg base 130 "law" (fi_law) f fd :=
  fi_x F gl (F.binds (ps := ["script"]) fun _ _ _ _ _ _ us hl => match us, hl with | [_], _ => rfl) sc_law (gok E (lk_cons (h__law_bag.mono (by decide)) (lk_cons (h__law_signature.mono (by decide)) (lk_cons (h__law_rules.mono (by decide)) (lk_cons (h__law_pick.mono (by decide)) (lk_cons (h__law_tree.mono (by decide)) (lk_cons (h__law_same.mono (by decide)) (lk_cons (h__law_crossings.mono (by decide)) (lk_cons (h__law_told.mono (by decide)) (lk_cons (h_crossings.mono (by decide)) (lk_nil))))))))))) (r_law X) (V_law X) (kw_nil)
theorem law_all (xt : ExC X) (E : EnvOk (E3 X) mg) {f : Addr} {fd : FuncData} (F : Fun X.K "law" "law" s_law f fd) (gl : mg "law" = some (.ref f)) (H_is_int : HasA X.K mg "is_int" "is_int" s_is_int) (H_within : HasA X.K mg "within" "within" s_within) (H_is_row : HasA X.K mg "is_row" "is_row" s_is_row) (H_is_low_name : HasA X.K mg "is_low_name" "is_low_name" s_is_low_name) (H_is_signature : HasA X.K mg "is_signature" "is_signature" s_is_signature) (H_need_signature : HasA X.K mg "need_signature" "need_signature" s_need_signature) (H_is_small_tree : HasA X.K mg "is_small_tree" "is_small_tree" s_is_small_tree) (H_is_rule : HasA X.K mg "is_rule" "is_rule" s_is_rule) (H_are_right_rules : HasA X.K mg "are_right_rules" "are_right_rules" s_are_right_rules) (H_are_rules : HasA X.K mg "are_rules" "are_rules" s_are_rules) (H_need_rules : HasA X.K mg "need_rules" "need_rules" s_need_rules) (H_spots_in : HasA X.K mg "spots_in" "spots_in" s_spots_in) (H_put_at : HasA X.K mg "put_at" "put_at" s_put_at) (H_crossings_of : HasA X.K mg "crossings_of" "crossings_of" s_crossings_of) (H_crossings : HasA X.K mg "crossings" "crossings" s_crossings) (H__law_bag : HasA X.K mg "_law_bag" "_law_bag" s__law_bag) (H__law_pick : HasA X.K mg "_law_pick" "_law_pick" s__law_pick) (H__law_same : HasA X.K mg "_law_same" "_law_same" s__law_same) (H__law_signature : HasA X.K mg "_law_signature" "_law_signature" s__law_signature) (H__law_size : HasA X.K mg "_law_size" "_law_size" s__law_size) (H__law_tree : HasA X.K mg "_law_tree" "_law_tree" s__law_tree) (H__law_rules : HasA X.K mg "_law_rules" "_law_rules" s__law_rules) (H__law_spots : HasA X.K mg "_law_spots" "_law_spots" s__law_spots) (H__law_put : HasA X.K mg "_law_put" "_law_put" s__law_put) (H__law_crossings : HasA X.K mg "_law_crossings" "_law_crossings" s__law_crossings) (H__law_told : HasA X.K mg "_law_told" "_law_told" s__law_told) : FIx P w X.K mg base 130 "law" (fi_law) f fd := by
  have o_is_int := ok_is_int (P := P) (w := w) (base := base) E H_is_int 
  have o_is_row := ok_is_row (P := P) (w := w) (base := base) E H_is_row 
  have o_is_low_name := ok_is_low_name (P := P) (w := w) (base := base) E H_is_low_name 
  have o_spots_in := ok_spots_in (P := P) (w := w) (base := base) E H_spots_in 
  have o_put_at := ok_put_at (P := P) (w := w) (base := base) E H_put_at 
  have o__law_bag := ok__law_bag (P := P) (w := w) (base := base) E H__law_bag 
  have o__law_pick := ok__law_pick (P := P) (w := w) (base := base) E H__law_pick 
  have o_within := ok_within (P := P) (w := w) (base := base) E H_within (o_is_int.mono (by decide))
  have o_crossings_of := ok_crossings_of (P := P) (w := w) (base := base) E H_crossings_of (o_spots_in.mono (by decide)) (o_put_at.mono (by decide))
  have o__law_signature := ok__law_signature (P := P) (w := w) (base := base) E H__law_signature (o__law_pick.mono (by decide))
  have o_is_signature := ok_is_signature (P := P) (w := w) (base := base) E H_is_signature (o_is_row.mono (by decide)) (o_is_low_name.mono (by decide)) (o_within.mono (by decide))
  have o_is_small_tree := ok_is_small_tree (P := P) (w := w) (base := base) E H_is_small_tree (o_within.mono (by decide))
  have o_need_signature := ok_need_signature (P := P) (w := w) (base := base) E H_need_signature (o_is_signature.mono (by decide))
  have o_is_rule := ok_is_rule (P := P) (w := w) (base := base) E H_is_rule (o_is_row.mono (by decide)) (o_is_small_tree.mono (by decide))
  have o_are_right_rules := ok_are_right_rules (P := P) (w := w) (base := base) E H_are_right_rules (o_is_row.mono (by decide)) (o_is_rule.mono (by decide))
  have o_are_rules := ok_are_rules (P := P) (w := w) (base := base) E H_are_rules (o_need_signature.mono (by decide)) (o_are_right_rules.mono (by decide))
  have o_need_rules := ok_need_rules (P := P) (w := w) (base := base) E H_need_rules (o_are_rules.mono (by decide))
  have o_crossings := ok_crossings (P := P) (w := w) (base := base) E H_crossings (o_need_rules.mono (by decide)) (o_crossings_of.mono (by decide))
  have o__law_told := ok__law_told (P := P) (w := w) (base := base) xt E H__law_told (o_crossings.mono (by decide))
  have o__law_same := ok__law_same (P := P) (w := w) (base := base) E H__law_same 
  have o__law_size := ok__law_size (P := P) (w := w) (base := base) E H__law_size 
  have o__law_spots := ok__law_spots (P := P) (w := w) (base := base) E H__law_spots 
  have o__law_put := ok__law_put (P := P) (w := w) (base := base) E H__law_put 
  have o__law_crossings := ok__law_crossings (P := P) (w := w) (base := base) E H__law_crossings (o__law_spots.mono (by decide)) (o__law_put.mono (by decide))
  have o__law_tree := ok__law_tree (P := P) (w := w) (base := base) E H__law_tree (o__law_pick.mono (by decide)) (o__law_size.mono (by decide))
  have o__law_rules := ok__law_rules (P := P) (w := w) (base := base) E H__law_rules (o__law_pick.mono (by decide)) (o__law_tree.mono (by decide))
  exact ok_law E F gl (o__law_bag.mono (by decide)) (o__law_signature.mono (by decide)) (o__law_rules.mono (by decide)) (o__law_pick.mono (by decide)) (o__law_tree.mono (by decide)) (o__law_same.mono (by decide)) (o__law_crossings.mono (by decide)) (o__law_told.mono (by decide)) (o_crossings.mono (by decide))
end
/-- the end: from what stands behind the top -/
theorem fin {w : World} {K : PySem.W.Frag} {mg : Str → Option Value} {h : Heap} {fa f C0 C1 C2 : Addr} {oc : Value} {od an : Option Addr} {osl : Array (Option Value)} {kV doc pm cdv ct : Value} (KX : K.In h) (G : h.Ns mainGlobals mg) (hfa : mg "law" = some (.ref fa))
    (a : PySem.W.nsIn K mainGlobals "law" = some (some (.ref f))) (l : K.lookup f = some ⟨oc, od, .func (PySem.W.fnOf "law" "law" (defArgs s_law) (defBody s_law) (defScope s_law) .none kV doc pm an cdv ct), osl⟩) (c : PySem.W.codeIn K cdv "law" = true) (k : PySem.W.keepIn K (.ref f) = true)
    (cs : ∀ x d, (E3 ⟨K, (fun x => if x = "GroundError" then C0 else if x = "BadSignature" then C1 else C2)⟩).cons.lookup x = some d → CsOk K mg x d) (e0 : ExcOk K mg "GroundError" C0) (e1 : ExcOk K mg "BadSignature" C1) (e2 : ExcOk K mg "BadRules" C2)
    (bl : ∀ x, (E3 ⟨K, (fun x => if x = "GroundError" then C0 else if x = "BadSignature" then C1 else C2)⟩).blts.contains x = true → mg x = none)
    (p0 : PySem.W.exmOne K (.ref C1) (.ref C1) = some true) (p1 : PySem.W.exmOne K (.ref C2) (.ref C1) = some false) (p2 : PySem.W.exmOne K (.ref C2) (.ref C2) = some true)
    (H_is_int : HasA K mg "is_int" "is_int" s_is_int) (H_within : HasA K mg "within" "within" s_within) (H_is_row : HasA K mg "is_row" "is_row" s_is_row) (H_is_low_name : HasA K mg "is_low_name" "is_low_name" s_is_low_name) (H_is_signature : HasA K mg "is_signature" "is_signature" s_is_signature) (H_need_signature : HasA K mg "need_signature" "need_signature" s_need_signature) (H_is_small_tree : HasA K mg "is_small_tree" "is_small_tree" s_is_small_tree) (H_is_rule : HasA K mg "is_rule" "is_rule" s_is_rule) (H_are_right_rules : HasA K mg "are_right_rules" "are_right_rules" s_are_right_rules) (H_are_rules : HasA K mg "are_rules" "are_rules" s_are_rules) (H_need_rules : HasA K mg "need_rules" "need_rules" s_need_rules) (H_spots_in : HasA K mg "spots_in" "spots_in" s_spots_in) (H_put_at : HasA K mg "put_at" "put_at" s_put_at) (H_crossings_of : HasA K mg "crossings_of" "crossings_of" s_crossings_of) (H_crossings : HasA K mg "crossings" "crossings" s_crossings) (H__law_bag : HasA K mg "_law_bag" "_law_bag" s__law_bag) (H__law_pick : HasA K mg "_law_pick" "_law_pick" s__law_pick) (H__law_same : HasA K mg "_law_same" "_law_same" s__law_same) (H__law_signature : HasA K mg "_law_signature" "_law_signature" s__law_signature) (H__law_size : HasA K mg "_law_size" "_law_size" s__law_size) (H__law_tree : HasA K mg "_law_tree" "_law_tree" s__law_tree) (H__law_rules : HasA K mg "_law_rules" "_law_rules" s__law_rules) (H__law_spots : HasA K mg "_law_spots" "_law_spots" s__law_spots) (H__law_put : HasA K mg "_law_put" "_law_put" s__law_put) (H__law_crossings : HasA K mg "_law_crossings" "_law_crossings" s__law_crossings) (H__law_told : HasA K mg "_law_told" "_law_told" s__law_told) : ∃ fd : FuncData, (∀ (s : Shared) (u : Value), BindsTo s fd ⟨[u], []⟩ [("script", u)]) ∧ ∀ base : Heap, K.In base → base.Ns mainGlobals mg → FnOk PySem.Challenge.pw_groundturns_k64_crossings w K mg base (L2.CX PySem.Challenge.pw_groundturns_k64_crossings w) 130 fa fd ["script"] (spAll K) := by
  have e := hfa.symm.trans (PySem.W.mg_of KX G a)
  cases e
  have F := fun_mk (st := s_law) l c k
  refine ⟨PySem.W.fnOf "law" "law" (defArgs s_law) (defBody s_law) (defScope s_law) .none kV doc pm an cdv ct, fun s u => .of_eq rfl, fun base _ _ => ?_⟩
  refine law_ok (law_all (X := ⟨K, (fun x => if x = "GroundError" then C0 else if x = "BadSignature" then C1 else C2)⟩) ⟨p0, p1, p2⟩ ⟨cs, ?_, bl⟩ F (PySem.W.mg_of KX G a) H_is_int H_within H_is_row H_is_low_name H_is_signature H_need_signature H_is_small_tree H_is_rule H_are_right_rules H_are_rules H_need_rules H_spots_in H_put_at H_crossings_of H_crossings H__law_bag H__law_pick H__law_same H__law_signature H__law_size H__law_tree H__law_rules H__law_spots H__law_put H__law_crossings H__law_told) ?_
  · exact lk_cons e0 (lk_cons e1 (lk_cons e2 (lk_nil)))
  · intro ns Q E hl q
    exact ⟨⟨ns, rfl, hl⟩, fun m' _ => q m'⟩
end L2.AP
open PySem PySem.W PyProof.Rows
set_option Elab.async false
set_option maxRecDepth 100000
set_option maxHeartbeats 0
theorem PySem.Challenge.cw_groundturns_k64_crossings_holds : PySem.Challenge.rw_groundturns_k64_crossings.Holds := by
  w_on; o_law; k_head; (case hw => w_witness2)
  k_fill
  refine L2.walk_of (l := PySem.Challenge.rw_groundturns_k64_crossings) (n := 63) (k := 130) (x := "script") (CX := fun w => L2.CX PySem.Challenge.pw_groundturns_k64_crossings w) (sp := fun w => L2.AP.spAll _) rfl (by decide) rfl ⟨rfl, by decide, by decide⟩ (fun w h Y => PySem.W.kIn_of Y) ?F
    (fun _ _ a ns hl o hS => ⟨a, ns, rfl, hl, L2.AP.rdl_of o hS, fun _ => rfl⟩) (fun _ _ _ _ _ z => by obtain ⟨_, _, _, _, _, _, _, _, _, _, _, _, z⟩ := z; exact z.elim)
  case F =>
    intro w mg fa h KX G hmg
    refine' L2.AP.fin KX G hmg ?la ?ll ?lc ?lk (L2.AP.lk_cons (L2.AP.cs_str KX G ?c0) (L2.AP.lk_cons (L2.AP.cs_str KX G ?c1) (L2.AP.lk_cons (L2.AP.cs_int KX G ?c2) (L2.AP.lk_cons (L2.AP.cs_int KX G ?c3) (L2.AP.lk_cons (L2.AP.cs_int KX G ?c4) (L2.AP.lk_cons (L2.AP.cs_int KX G ?c5) (L2.AP.lk_cons (L2.AP.cs_int KX G ?c6) (L2.AP.lk_cons (L2.AP.cs_int KX G ?c7) (L2.AP.lk_nil))))))))) (L2.AP.exc_mk KX G ?xa0 ?xk0 ?xe0 ?xs0 ?xt0) (L2.AP.exc_mk KX G ?xa1 ?xk1 ?xe1 ?xs1 ?xt1) (L2.AP.exc_mk KX G ?xa2 ?xk2 ?xe2 ?xs2 ?xt2) (L2.AP.bl_cons (PySem.W.mg_none_of KX G ?b0) (L2.AP.bl_cons (PySem.W.mg_none_of KX G ?b1) (L2.AP.bl_cons (PySem.W.mg_none_of KX G ?b2) (L2.AP.bl_cons (PySem.W.mg_none_of KX G ?b3) (L2.AP.bl_cons (PySem.W.mg_none_of KX G ?b4) (L2.AP.bl_cons (PySem.W.mg_none_of KX G ?b5) (L2.AP.bl_cons (PySem.W.mg_none_of KX G ?b6) (L2.AP.bl_cons (PySem.W.mg_none_of KX G ?b7) (L2.AP.bl_cons (PySem.W.mg_none_of KX G ?b8) (L2.AP.bl_cons (PySem.W.mg_none_of KX G ?b9) (L2.AP.bl_cons (PySem.W.mg_none_of KX G ?b10) (L2.AP.bl_cons (PySem.W.mg_none_of KX G ?b11) (L2.AP.bl_cons (PySem.W.mg_none_of KX G ?b12) (L2.AP.bl_cons (PySem.W.mg_none_of KX G ?b13) (L2.AP.bl_cons (PySem.W.mg_none_of KX G ?b14) (L2.AP.bl_nil)))))))))))))))) (L2.AP.exm_of ?p0a ?p0b ?p0c ?p0d) (L2.AP.exm_of ?p1a ?p1b ?p1c ?p1d) (L2.AP.exm_of ?p2a ?p2b ?p2c ?p2d) (L2.AP.has_mk KX G ?fa0 ?fl0 ?fc0 ?fk0) (L2.AP.has_mk KX G ?fa1 ?fl1 ?fc1 ?fk1) (L2.AP.has_mk KX G ?fa2 ?fl2 ?fc2 ?fk2) (L2.AP.has_mk KX G ?fa3 ?fl3 ?fc3 ?fk3) (L2.AP.has_mk KX G ?fa4 ?fl4 ?fc4 ?fk4) (L2.AP.has_mk KX G ?fa5 ?fl5 ?fc5 ?fk5) (L2.AP.has_mk KX G ?fa6 ?fl6 ?fc6 ?fk6) (L2.AP.has_mk KX G ?fa7 ?fl7 ?fc7 ?fk7) (L2.AP.has_mk KX G ?fa8 ?fl8 ?fc8 ?fk8) (L2.AP.has_mk KX G ?fa9 ?fl9 ?fc9 ?fk9) (L2.AP.has_mk KX G ?fa10 ?fl10 ?fc10 ?fk10) (L2.AP.has_mk KX G ?fa11 ?fl11 ?fc11 ?fk11) (L2.AP.has_mk KX G ?fa12 ?fl12 ?fc12 ?fk12) (L2.AP.has_mk KX G ?fa13 ?fl13 ?fc13 ?fk13) (L2.AP.has_mk KX G ?fa14 ?fl14 ?fc14 ?fk14) (L2.AP.has_mk KX G ?fa15 ?fl15 ?fc15 ?fk15) (L2.AP.has_mk KX G ?fa16 ?fl16 ?fc16 ?fk16) (L2.AP.has_mk KX G ?fa17 ?fl17 ?fc17 ?fk17) (L2.AP.has_mk KX G ?fa18 ?fl18 ?fc18 ?fk18) (L2.AP.has_mk KX G ?fa19 ?fl19 ?fc19 ?fk19) (L2.AP.has_mk KX G ?fa20 ?fl20 ?fc20 ?fk20) (L2.AP.has_mk KX G ?fa21 ?fl21 ?fc21 ?fk21) (L2.AP.has_mk KX G ?fa22 ?fl22 ?fc22 ?fk22) (L2.AP.has_mk KX G ?fa23 ?fl23 ?fc23 ?fk23) (L2.AP.has_mk KX G ?fa24 ?fl24 ?fc24 ?fk24) (L2.AP.has_mk KX G ?fa25 ?fl25 ?fc25 ?fk25)
    (case la => k_is)
    (case ll => k_is)
    (case lc => k_is)
    (case lk => k_is)
    (case xa0 => k_is)
    (case xk0 => k_is)
    (case xe0 => k_exc)
    (case xs0 => k_is)
    (case xt0 => k_is)
    (case xa1 => k_is)
    (case xk1 => k_is)
    (case xe1 => k_exc)
    (case xs1 => k_is)
    (case xt1 => k_is)
    (case xa2 => k_is)
    (case xk2 => k_is)
    (case xe2 => k_exc)
    (case xs2 => k_is)
    (case xt2 => k_is)
    (case fa0 => k_is)
    (case fl0 => k_is)
    (case fc0 => k_is)
    (case fk0 => k_is)
    (case fa1 => k_is)
    (case fl1 => k_is)
    (case fc1 => k_is)
    (case fk1 => k_is)
    (case fa2 => k_is)
    (case fl2 => k_is)
    (case fc2 => k_is)
    (case fk2 => k_is)
    (case fa3 => k_is)
    (case fl3 => k_is)
    (case fc3 => k_is)
    (case fk3 => k_is)
    (case fa4 => k_is)
    (case fl4 => k_is)
    (case fc4 => k_is)
    (case fk4 => k_is)
    (case fa5 => k_is)
    (case fl5 => k_is)
    (case fc5 => k_is)
    (case fk5 => k_is)
    (case fa6 => k_is)
    (case fl6 => k_is)
    (case fc6 => k_is)
    (case fk6 => k_is)
    (case fa7 => k_is)
    (case fl7 => k_is)
    (case fc7 => k_is)
    (case fk7 => k_is)
    (case fa8 => k_is)
    (case fl8 => k_is)
    (case fc8 => k_is)
    (case fk8 => k_is)
    (case fa9 => k_is)
    (case fl9 => k_is)
    (case fc9 => k_is)
    (case fk9 => k_is)
    (case fa10 => k_is)
    (case fl10 => k_is)
    (case fc10 => k_is)
    (case fk10 => k_is)
    (case fa11 => k_is)
    (case fl11 => k_is)
    (case fc11 => k_is)
    (case fk11 => k_is)
    (case fa12 => k_is)
    (case fl12 => k_is)
    (case fc12 => k_is)
    (case fk12 => k_is)
    (case fa13 => k_is)
    (case fl13 => k_is)
    (case fc13 => k_is)
    (case fk13 => k_is)
    (case fa14 => k_is)
    (case fl14 => k_is)
    (case fc14 => k_is)
    (case fk14 => k_is)
    (case fa15 => k_is)
    (case fl15 => k_is)
    (case fc15 => k_is)
    (case fk15 => k_is)
    (case fa16 => k_is)
    (case fl16 => k_is)
    (case fc16 => k_is)
    (case fk16 => k_is)
    (case fa17 => k_is)
    (case fl17 => k_is)
    (case fc17 => k_is)
    (case fk17 => k_is)
    (case fa18 => k_is)
    (case fl18 => k_is)
    (case fc18 => k_is)
    (case fk18 => k_is)
    (case fa19 => k_is)
    (case fl19 => k_is)
    (case fc19 => k_is)
    (case fk19 => k_is)
    (case fa20 => k_is)
    (case fl20 => k_is)
    (case fc20 => k_is)
    (case fk20 => k_is)
    (case fa21 => k_is)
    (case fl21 => k_is)
    (case fc21 => k_is)
    (case fk21 => k_is)
    (case fa22 => k_is)
    (case fl22 => k_is)
    (case fc22 => k_is)
    (case fk22 => k_is)
    (case fa23 => k_is)
    (case fl23 => k_is)
    (case fc23 => k_is)
    (case fk23 => k_is)
    (case fa24 => k_is)
    (case fl24 => k_is)
    (case fc24 => k_is)
    (case fk24 => k_is)
    (case fa25 => k_is)
    (case fl25 => k_is)
    (case fc25 => k_is)
    (case fk25 => k_is)
    (case c0 => k_is)
    (case c1 => k_is)
    (case c2 => k_is)
    (case c3 => k_is)
    (case c4 => k_is)
    (case c5 => k_is)
    (case c6 => k_is)
    (case c7 => k_is)
    (case b0 => k_is)
    (case b1 => k_is)
    (case b2 => k_is)
    (case b3 => k_is)
    (case b4 => k_is)
    (case b5 => k_is)
    (case b6 => k_is)
    (case b7 => k_is)
    (case b8 => k_is)
    (case b9 => k_is)
    (case b10 => k_is)
    (case b11 => k_is)
    (case b12 => k_is)
    (case b13 => k_is)
    (case b14 => k_is)
    (case p0a => first | k_is | rfl)
    (case p0b => first | k_is | rfl)
    (case p0c => first | k_is | rfl)
    (case p0d => first | k_is | rfl)
    (case p1a => first | k_is | rfl)
    (case p1b => first | k_is | rfl)
    (case p1c => first | k_is | rfl)
    (case p1d => first | k_is | rfl)
    (case p2a => first | k_is | rfl)
    (case p2b => first | k_is | rfl)
    (case p2c => first | k_is | rfl)
    (case p2d => first | k_is | rfl)
