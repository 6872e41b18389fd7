import PyProof.Rows.All
import Wide.All
import OpenK.AllK
import Wide.FinOn
import HandS.ForMost
import HandS.Deep
import HandS.DeepEq
import HandS.TupAny
import HandS.TupLe
import HandS.Style
import HandS.Walk
import HandS.Conv
import HandS.SortInts
import HandS.Zip
import HandS.Rev
import HandS.RevRange
import HandS.IsInst
import PyProof.ReprRoads
import KE.DataMinMax
import HandS.TupMul
import KE.KTupSum
import PyProof.Rows.IntBool
import KE.GoesMore
import KE.GoesEnum
import HandS.Words
import HandS.Codes
import HandS.Ends
import HandS.Flt
import HandS.RevTup
import HandS.TryOnly
import HandS.Small
import PyProof.NeKinds
import HandS.SortKw
import HandS.Text
import HandS.Flow
import PyProof.TupleOfSeq
import PySem.Challenge.RW_bendtables_k49_least_ways
import PyProof.Rows.ReprOcc
import PyProof.ReprLen
set_option Elab.async false
set_option linter.all false
set_option autoImplicit false
set_option maxRecDepth 100000
/-! M1: abstract values, their representation, the relation of slots, heap and cells. -/
namespace M61
open PySem PySem.Spec PyProof.Rows L2

/-- an abstract value: trees of tuples and of lists that nobody changes any more; a cell by its address -/
inductive D where
  | non | bl (b : Bool) | int (i : Int) | str (x : Str) | tup (xs : List D) | lst (xs : List D) | ref (a : Addr)
  /-- the script -/
  | scr (xs : List D)
  /-- a dict that nobody changes -/
  | dic
/-- what such a dict is kept as -/
def isDic : HO → Prop
  | .dT _ => True
  | .dK kvs => kvs ≠ []
  | _ => False

mutual
inductive Rep (K : PySem.W.Frag) (F : Hp) : V → D → Prop
  | non : Rep K F .non .non
  | bl (b : Bool) : Rep K F (.bl b) (.bl b)
  | int (i : Int) : Rep K F (.int i) (.int i)
  | str (x : Str) : Rep K F (.str x) (.str x)
  | tup {a : Addr} {xs : List V} {ds : List D} : SqT K F a xs → Reps K F xs ds → Rep K F (.ref a) (.tup ds)
  | lst {a : Addr} {xs : List V} {ds : List D} : F a = some (HO.lst xs) → Reps K F xs ds → Rep K F (.ref a) (.lst ds)
  | scr {a : Addr} {xs : List V} {ds : List D} : SqL K F a xs → Reps K F xs ds → Rep K F (.ref a) (.scr ds)
  | ref (a : Addr) : Rep K F (.ref a) (.ref a)
  | dic {a : Addr} {u : HO} : F a = some u → isDic u → Rep K F (.ref a) .dic
inductive Reps (K : PySem.W.Frag) (F : Hp) : List V → List D → Prop
  | nil : Reps K F [] []
  | cons {v : V} {vs : List V} {d : D} {ds : List D} : Rep K F v d → Reps K F vs ds → Reps K F (v :: vs) (d :: ds)
end

section
variable {K : PySem.W.Frag} {F F' H H' : Hp}
theorem sqT_same {a : Addr} {xs : List V} (s : Same F F') (h : SqT K F a xs) : SqT K F' a xs := by
  rcases h with (q | ⟨o, q⟩) | q
  · exact .inl (.inl (s _ _ q))
  · exact .inl (.inr ⟨o, s _ _ q⟩)
  · exact .inr q
theorem sqL_same {a : Addr} {xs : List V} (s : Same F F') (h : SqL K F a xs) : SqL K F' a xs := s.seq h
mutual
theorem Rep.mono (s : Same F F') : ∀ {v : V} {d : D}, Rep K F v d → Rep K F' v d
  | _, _, .non => .non
  | _, _, .bl b => .bl b
  | _, _, .int i => .int i
  | _, _, .str x => .str x
  | _, _, .tup h r => .tup (sqT_same s h) (Reps.mono s r)
  | _, _, .lst h r => .lst (s _ _ h) (Reps.mono s r)
  | _, _, .scr h r => .scr (sqL_same s h) (Reps.mono s r)
  | _, _, .ref a => .ref a
  | _, _, .dic h d => .dic (s _ _ h) d
theorem Reps.mono (s : Same F F') : ∀ {vs : List V} {ds : List D}, Reps K F vs ds → Reps K F' vs ds
  | _, _, .nil => .nil
  | _, _, .cons r t => .cons (Rep.mono s r) (Reps.mono s t)
end
theorem Reps.length : ∀ {vs : List V} {ds : List D}, Reps K F vs ds → vs.length = ds.length
  | _, _, .nil => rfl
  | _, _, .cons _ t => by rw [List.length_cons, List.length_cons, Reps.length t]
theorem Reps.get : ∀ {vs : List V} {ds : List D} {i : Nat} {v : V}, Reps K F vs ds → vs[i]? = some v → ∃ d, ds[i]? = some d ∧ Rep K F v d
  | _, _, _, _, .nil, h => by simp at h
  | _, _, 0, _, .cons r _, h => by simp at h; subst h; exact ⟨_, rfl, r⟩
  | _, _, i + 1, _, .cons _ t, h => by
    obtain ⟨d, e, r⟩ := Reps.get (i := i) t (by simpa using h)
    exact ⟨d, by simpa using e, r⟩
theorem Reps.getD : ∀ {vs : List V} {ds : List D} {i : Nat} {d : D}, Reps K F vs ds → ds[i]? = some d → ∃ v, vs[i]? = some v ∧ Rep K F v d
  | _, _, _, _, .nil, h => by simp at h
  | _, _, 0, _, .cons r _, h => by simp at h; subst h; exact ⟨_, rfl, r⟩
  | _, _, i + 1, _, .cons _ t, h => by
    obtain ⟨d, e, r⟩ := Reps.getD (i := i) t (by simpa using h)
    exact ⟨d, by simpa using e, r⟩
theorem Reps.append : ∀ {vs ws : List V} {ds es : List D}, Reps K F vs ds → Reps K F ws es → Reps K F (vs ++ ws) (ds ++ es)
  | _, _, _, _, .nil, s => s
  | _, _, _, _, .cons r t, s => .cons r (Reps.append t s)
theorem Reps.take : ∀ {vs : List V} {ds : List D} (n : Nat), Reps K F vs ds → Reps K F (vs.take n) (ds.take n)
  | _, _, 0, _ => .nil
  | _, _, _ + 1, .nil => .nil
  | _, _, n + 1, .cons r t => .cons r (Reps.take n t)
theorem Reps.drop : ∀ {vs : List V} {ds : List D} (n : Nat), Reps K F vs ds → Reps K F (vs.drop n) (ds.drop n)
  | _, _, 0, r => r
  | _, _, _ + 1, .nil => .nil
  | _, _, n + 1, .cons _ t => Reps.drop n t
theorem Reps.set : ∀ {vs : List V} {ds : List D} {v : V} {d : D} (i : Nat), Rep K F v d → Reps K F vs ds → Reps K F (vs.set i v) (ds.set i d)
  | _, _, _, _, _, _, .nil => .nil
  | _, _, _, _, 0, r, .cons _ t => .cons r t
  | _, _, _, _, i + 1, r, .cons q t => .cons q (Reps.set i r t)
theorem Reps.reverse : ∀ {vs : List V} {ds : List D}, Reps K F vs ds → Reps K F vs.reverse ds.reverse
  | _, _, .nil => .nil
  | _, _, .cons r t => by rw [List.reverse_cons, List.reverse_cons]; exact (Reps.reverse t).append (.cons r .nil)
theorem Reps.replicate {v : V} {d : D} (r : Rep K F v d) : ∀ n : Nat, Reps K F (List.replicate n v) (List.replicate n d)
  | 0 => .nil
  | n + 1 => .cons r (Reps.replicate r n)
theorem Reps.flatten {vs : List V} {ds : List D} (r : Reps K F vs ds) : ∀ n : Nat, Reps K F (List.replicate n vs).flatten (List.replicate n ds).flatten
  | 0 => .nil
  | n + 1 => by rw [List.replicate_succ, List.replicate_succ, List.flatten_cons, List.flatten_cons]; exact r.append (Reps.flatten r n)
theorem Reps.one {v : V} {d : D} (r : Rep K F v d) : Reps K F [v] [d] := .cons r .nil
end

/-- what stands in a cell: a list, a dict -/
inductive Cell where
  | lst (xs : List D)
  | dct (kvs : List (L2.Key × D))

abbrev CM := Addr → Option Cell
inductive RepKV (K : PySem.W.Frag) (F : Hp) : List (L2.Key × V) → List (L2.Key × D) → Prop
  | nil : RepKV K F [] []
  | cons {k : L2.Key} {v : V} {d : D} {vs : List (L2.Key × V)} {ds : List (L2.Key × D)} : Rep K F v d → RepKV K F vs ds → RepKV K F ((k, v) :: vs) ((k, d) :: ds)
theorem RepKV.mono {K : PySem.W.Frag} {F F' : Hp} (s : Same F F') : ∀ {vs ds}, RepKV K F vs ds → RepKV K F' vs ds
  | _, _, .nil => .nil
  | _, _, .cons r t => .cons (r.mono s) (RepKV.mono s t)
/-- the cell at a as it stands in the heap -/
def CellRep (K : PySem.W.Frag) (F H : Hp) (a : Addr) : Cell → Prop
  | .lst xs => ∃ vs, H a = some (HO.lst vs) ∧ Reps K F vs xs
  | .dct kvs => ∃ vs, H a = some (HO.dK vs) ∧ RepKV K F vs kvs
theorem CellRep.ex {K : PySem.W.Frag} {F H : Hp} {a : Addr} {c : Cell} (h : CellRep K F H a c) : ∃ o, H a = some o := by
  cases c with
  | lst xs => obtain ⟨vs, e, _⟩ := h; exact ⟨_, e⟩
  | dct xs => obtain ⟨vs, e, _⟩ := h; exact ⟨_, e⟩
theorem CellRep.mono {K : PySem.W.Frag} {F F' H H' : Hp} {a : Addr} {c : Cell} (s : Same F F') (e : ∀ o, H a = some o → H' a = some o) (h : CellRep K F H a c) : CellRep K F' H' a c := by
  cases c with
  | lst xs => obtain ⟨vs, q, r⟩ := h; exact ⟨vs, e _ q, r.mono s⟩
  | dct xs => obtain ⟨vs, q, r⟩ := h; exact ⟨vs, e _ q, r.mono s⟩

/-- an abstract slot: a value, or a list that this slot alone holds -/
inductive Dv where
  | dat (d : D)
  | own (xs : List D)
abbrev Rho := List (Option Dv)

structure Base where
  H : Hp
  F : Hp
  C : CM

/-- how heaps go on from (H, F, C) to (H', F', C') -/
structure Fr (H F : Hp) (C : CM) (H' F' : Hp) (C' : CM) : Prop where
  ff : Same F F'
  fnew : ∀ a o, F' a = some o → F a = some o ∨ H a = none
  frame : ∀ a o, H a = some o → C a = none → H' a = some o
  cnew : ∀ a c, C' a = some c → (∃ c0, C a = some c0) ∨ H a = none
  stay : ∀ a o, H a = some o → ∃ o', H' a = some o'
theorem Fr.refl (H F : Hp) (C : CM) : Fr H F C H F C := ⟨Same.refl _, fun _ _ h => .inl h, fun _ _ h _ => h, fun _ c h => .inl ⟨c, h⟩, fun _ o h => ⟨o, h⟩⟩
theorem Fr.trans {H F H1 F1 H2 F2 : Hp} {C C1 C2 : CM} (a : Fr H F C H1 F1 C1) (b : Fr H1 F1 C1 H2 F2 C2) : Fr H F C H2 F2 C2 where
  ff := a.ff.trans b.ff
  fnew := fun x o h => by
    rcases b.fnew x o h with h | h
    · exact a.fnew x o h
    · refine .inr ?_
      cases e : H x with
      | none => rfl
      | some q => obtain ⟨o', z⟩ := a.stay x q e; rw [h] at z; cases z
  frame := fun x o h hc => by
    refine b.frame x o (a.frame x o h hc) ?_
    cases e : C1 x with
    | none => rfl
    | some q =>
      rcases a.cnew x q e with ⟨c0, z⟩ | z
      · rw [hc] at z; cases z
      · rw [h] at z; cases z
  cnew := fun x c h => by
    rcases b.cnew x c h with ⟨c1, h⟩ | h
    · exact a.cnew x c1 h
    · refine .inr ?_
      cases e : H x with
      | none => rfl
      | some q => obtain ⟨o', z⟩ := a.stay x q e; rw [h] at z; cases z
  stay := fun x o h => by
    obtain ⟨o1, h1⟩ := a.stay x o h
    exact b.stay x o1 h1

/-- the cells as they stand -/
structure Cells (K : PySem.W.Frag) (F H : Hp) (C : CM) : Prop where
  fh : Same F H
  cel : ∀ a c, C a = some c → CellRep K F H a c ∧ F a = none

/-- the slots, the heap, the cells, behind a base -/
structure Rel (K : PySem.W.Frag) (B : Base) (F : Hp) (σ : L2.St) (H : Hp) (ρ : Rho) (C : CM) : Prop where
  len : ρ.length = σ.length
  ce : Cells K F H C
  fr : Fr B.H B.F B.C H F C
  dat : ∀ (i : Nat) (d : D), ρ[i]? = some (some (Dv.dat d)) → ∃ v, σ[i]? = some (some v) ∧ Rep K F v d
  own : ∀ (i : Nat) (xs : List D), ρ[i]? = some (some (Dv.own xs)) → ∃ a vs, σ[i]? = some (some (V.ref a)) ∧ H a = some (HO.lst vs) ∧ Reps K F vs xs ∧ F a = none ∧ C a = none ∧ B.H a = none
  dis : ∀ (i j : Nat) (xs ys : List D) (a : Addr), i ≠ j → ρ[i]? = some (some (Dv.own xs)) → ρ[j]? = some (some (Dv.own ys)) → σ[i]? = some (some (V.ref a)) → σ[j]? ≠ some (some (V.ref a))

/-- no slot holds a as its own -/
def NotOwn (ρ : Rho) (σ : L2.St) (a : Addr) : Prop := ∀ (j : Nat) (ys : List D), ρ[j]? = some (some (Dv.own ys)) → σ[j]? ≠ some (some (V.ref a))

/-- heaps that only grow -/
structure Grow (F H F' H' : Hp) : Prop where
  ff : Same F F'
  hh : Same H H'
  fh : Same F' H'
  fnew : ∀ a o, F' a = some o → F a = some o ∨ H a = none
theorem Grow.refl {F H : Hp} (h : Same F H) : Grow F H F H := ⟨Same.refl _, Same.refl _, h, fun _ _ h => .inl h⟩
theorem same_upd {H : Hp} {p : Addr} {o : HO} (h : H p = none) : Same H (upd H p o) := fun b x e => by
  rw [upd_ne (ne_of_none e h)]; exact e
theorem same_none {F H : Hp} {p : Addr} (s : Same F H) (h : H p = none) : F p = none := by
  cases e : F p with
  | none => rfl
  | some o => rw [s p o e] at h; cases h
theorem same_upd2 {F H : Hp} {p : Addr} {o : HO} (s : Same F H) (h : H p = none) : Same (upd F p o) (upd H p o) := fun b x e => by
  by_cases q : b = p
  · subst q; rw [upd_same] at e ⊢; exact e
  · rw [upd_ne q] at e ⊢; exact s b x e
theorem Grow.new {F H : Hp} {p : Addr} {o : HO} (s : Same F H) (h : H p = none) : Grow F H (upd F p o) (upd H p o) :=
  ⟨same_upd (same_none s h), same_upd h, same_upd2 s h, fun a x e => by
    by_cases q : a = p
    · subst q; exact .inr h
    · rw [upd_ne q] at e; exact .inl e⟩
theorem Grow.trans {F H F1 H1 F2 H2 : Hp} (a : Grow F H F1 H1) (b : Grow F1 H1 F2 H2) : Grow F H F2 H2 :=
  ⟨a.ff.trans b.ff, a.hh.trans b.hh, b.fh, fun x o e => by
    rcases b.fnew x o e with h | h
    · exact a.fnew x o h
    · exact .inr (same_none a.hh h)⟩
theorem Grow.fr {F H F' H' : Hp} (g : Grow F H F' H') {C : CM} : Fr H F C H' F' C :=
  ⟨g.ff, g.fnew, fun a o h _ => g.hh a o h, fun _ c h => .inl ⟨c, h⟩, fun a o h => ⟨o, g.hh a o h⟩⟩
theorem Cells.grow {K : PySem.W.Frag} {F H F' H' : Hp} {C : CM} (c : Cells K F H C) (g : Grow F H F' H') : Cells K F' H' C where
  fh := g.fh
  cel := fun a x h => by
    obtain ⟨r, n⟩ := c.cel a x h
    refine ⟨r.mono g.ff (fun o => g.hh a o), ?_⟩
    cases e : F' a with
    | none => rfl
    | some o =>
      obtain ⟨o2, e2⟩ := r.ex
      rcases g.fnew a o e with z | z
      · rw [n] at z; cases z
      · rw [e2] at z; cases z

section
variable {K : PySem.W.Frag} {B : Base} {F F' H H' : Hp} {σ σ' : L2.St} {ρ ρ' : Rho} {C C' : CM}
/-- a step that leaves own lists as they are -/
theorem Rel.step (R : Rel K B F σ H ρ C) (f : Fr H F C H' F' C') (c : Cells K F' H' C') : Rel K B F' σ H' ρ C' where
  len := R.len
  ce := c
  fr := R.fr.trans f
  dat := fun i d h => by
    obtain ⟨v, e, r⟩ := R.dat i d h
    exact ⟨v, e, r.mono f.ff⟩
  own := fun i xs h => by
    obtain ⟨a, vs, e, hl, r, n1, n2, n3⟩ := R.own i xs h
    refine ⟨a, vs, e, f.frame a _ hl n2, r.mono f.ff, ?_, ?_, n3⟩
    · cases q : F' a with
      | none => rfl
      | some o =>
        rcases f.fnew a o q with z | z
        · rw [n1] at z; cases z
        · rw [hl] at z; cases z
    · cases q : C' a with
      | none => rfl
      | some o =>
        rcases f.cnew a o q with ⟨_, z⟩ | z
        · rw [n2] at z; cases z
        · rw [hl] at z; cases z
  dis := R.dis
theorem Rel.grow (R : Rel K B F σ H ρ C) (g : Grow F H F' H') : Rel K B F' σ H' ρ C := R.step g.fr (R.ce.grow g)
theorem Rel.notOwn_of (R : Rel K B F σ H ρ C) {a : Addr} (h : H a = none) : NotOwn ρ σ a := fun j ys hj e => by
  obtain ⟨b, vs, e2, hl, _⟩ := R.own j ys hj
  rw [e] at e2
  cases e2
  rw [h] at hl; cases hl
theorem Rel.base_none (R : Rel K B F σ H ρ C) {a : Addr} (h : H a = none) : B.H a = none := by
  cases e : B.H a with
  | none => rfl
  | some o => obtain ⟨o', z⟩ := R.fr.stay a o e; rw [h] at z; cases z
theorem Rel.cell_none (R : Rel K B F σ H ρ C) {a : Addr} (h : H a = none) : C a = none := by
  cases e : C a with
  | none => rfl
  | some c => obtain ⟨o, z⟩ := (R.ce.cel a c e).1.ex; rw [h] at z; cases z
/-- forget slots -/
theorem Rel.weak (R : Rel K B F σ H ρ C) (hl : ρ'.length = σ'.length) (h : ∀ (i : Nat) (x : Dv), ρ'[i]? = some (some x) → ρ[i]? = some (some x) ∧ σ'[i]? = σ[i]?) : Rel K B F σ' H ρ' C where
  len := hl
  ce := R.ce
  fr := R.fr
  dat := fun i d q => by obtain ⟨q1, q2⟩ := h i _ q; rw [q2]; exact R.dat i d q1
  own := fun i xs q => by obtain ⟨q1, q2⟩ := h i _ q; rw [q2]; exact R.own i xs q1
  dis := fun i j xs ys a n q1 q2 q3 => by
    obtain ⟨p1, e1⟩ := h i _ q1
    obtain ⟨p2, e2⟩ := h j _ q2
    rw [e2]; rw [e1] at q3
    exact R.dis i j xs ys a n p1 p2 q3
/-- a slot takes a value -/
theorem Rel.setDat (R : Rel K B F σ H ρ C) (i : Nat) {v : V} {d : D} (r : Rep K F v d) : Rel K B F (σ.set i (some v)) H (ρ.set i (some (Dv.dat d))) C where
  len := by rw [List.length_set, List.length_set]; exact R.len
  ce := R.ce
  fr := R.fr
  dat := fun j e h => by
    rw [List.getElem?_set] at h
    rw [List.getElem?_set]
    split at h
    · rename_i q
      split at h
      · rename_i q2
        rw [if_pos q, if_pos (by rw [← R.len]; exact q2)]
        cases h
        exact ⟨v, rfl, r⟩
      · cases h
    · rename_i q
      rw [if_neg q]
      exact R.dat j e h
  own := fun j xs h => by
    rw [List.getElem?_set] at h
    rw [List.getElem?_set]
    split at h
    · split at h
      · cases h
      · cases h
    · rename_i q
      rw [if_neg q]
      exact R.own j xs h
  dis := fun j k xs ys a n q1 q2 q3 => by
    rw [List.getElem?_set] at q1 q2 q3 ⊢
    split at q1
    · split at q1 <;> cases q1
    · rename_i z1
      split at q2
      · split at q2 <;> cases q2
      · rename_i z2
        rw [if_neg z1] at q3
        rw [if_neg z2]
        exact R.dis j k xs ys a n q1 q2 q3
/-- a slot takes a list as its own -/
theorem Rel.setOwn (R : Rel K B F σ H ρ C) (i : Nat) {a : Addr} {vs : List V} {xs : List D} (hl : H a = some (HO.lst vs)) (r : Reps K F vs xs) (n1 : F a = none) (n2 : C a = none) (n3 : B.H a = none) (no : NotOwn ρ σ a) :
    Rel K B F (σ.set i (some (V.ref a))) H (ρ.set i (some (Dv.own xs))) C where
  len := by rw [List.length_set, List.length_set]; exact R.len
  ce := R.ce
  fr := R.fr
  dat := fun j e h => by
    rw [List.getElem?_set] at h
    rw [List.getElem?_set]
    split at h
    · split at h <;> cases h
    · rename_i q
      rw [if_neg q]
      exact R.dat j e h
  own := fun j ys h => by
    rw [List.getElem?_set] at h
    rw [List.getElem?_set]
    split at h
    · rename_i q
      split at h
      · rename_i q2
        rw [if_pos q, if_pos (by rw [← R.len]; exact q2)]
        cases h
        exact ⟨a, vs, rfl, hl, r, n1, n2, n3⟩
      · cases h
    · rename_i q
      rw [if_neg q]
      exact R.own j ys h
  dis := fun j k ys zs b n q1 q2 q3 => by
    rw [List.getElem?_set] at q1 q2 q3 ⊢
    split at q1
    · rename_i z1
      subst z1
      rw [if_pos rfl] at q3
      rw [if_neg (Ne.symm n).symm] at q2
      rw [if_neg (Ne.symm n).symm]
      split at q3
      · cases q3
        exact no k zs q2
      · cases q3
    · rename_i z1
      rw [if_neg z1] at q3
      split at q2
      · rename_i z2
        split at q2
        · rename_i z3
          rw [if_pos z2, if_pos (by rw [← R.len]; exact z3)]
          intro e
          cases e
          exact no j ys q1 q3
        · cases q2
      · rename_i z2
        rw [if_neg z2]
        exact R.dis j k ys zs b n q1 q2 q3
end
end M61

set_option Elab.async false
set_option linter.all false
set_option autoImplicit false
set_option maxRecDepth 100000
/-! M2: the inner form of the program's text, and what it means. -/
namespace M61
open PySem PySem.Spec PyProof.Rows L2

inductive Bop where | add | sub | mul | fdiv | mod | pow | shl
  deriving DecidableEq
inductive Cop where | eq | ne | lt | le | gt | ge | is | isn | inn | nin
  deriving DecidableEq
/-- built-ins that are asked of values -/
inductive Blt where | len | tuple | sum | min | max | min2 | max2 | abs | int | all | any | repr | min3 | str | mind | maxd | min2d
  deriving DecidableEq
/-- built-in kinds -/
inductive Ty where | int | bool | tuple | list | str | dict
  deriving DecidableEq

mutual
inductive Tg where
  | nm (i : Nat)
  | tp (ts : Tgs)
inductive Tgs where
  | nil
  | cons (t : Tg) (ts : Tgs)
end

mutual
inductive E where
  | var (i : Nat)
  | mv (i : Nat)
  | non | bl (b : Bool) | int (i : Int) | str (s : String)
  | con (x : String) (i : Int)
  | cns (x : String) (s : String)
  | bin (o : Bop) (a b : E)
  | neg (a : E)
  | cmp (o : Cop) (a b : E)
  | chn (o o' : Cop) (a b c : E)
  | chn3 (o o' o'' : Cop) (a b c d : E)
  | dlk (kvs : List (String × String)) (a : E)
  | and (a b : E) | or (a b : E) | not (a : E)
  | ife (t : T) (a b : E)
  | tup (es : Es)
  | frz (l : L)
  | cel (l : L)
  | ix (a b : E)
  | sl (a : E) (lo hi : O)
  | rev (a : E)
  | call (f : String) (es : Es)
  | blt (f : Blt) (es : Es)
  | isi (a : E) (t : Ty)
  | oix (i : Nat) (b : E)
  | olen (i : Nat)
  | one (i : Nat)
  | oem (i : Nat)
  | cne (a : E) | ceq (a : E)
  | lne (a : E) | leq (a : E)
  | opop (i : Nat)
  | cpop (o : E)
  | cpopA (o k : E)
  | indx (a b : E)
  | edic
  | ndic (k : Int ⊕ String) (a : E)
  | celd (ks : List String) (es : Es)
  | dix (a : E) (k : String)
  | mxo (k : Bool) (a b : E)
  | gget (x : String) (kvs : List (String × Int)) (a : E)
  | upr (a : E)
  | orv (a b : E)
inductive T where
  | and (a b : T) | or (a b : T) | not (a : T)
  | cmp (o : Cop) (a b : E)
  | chn (o o' : Cop) (a b c : E)
  | chn3 (o o' o'' : Cop) (a b c d : E)
  | one (i : Nat) | oem (i : Nat)
  | tne (a : E) | teq (a : E)
  | lne (a : E) | leq (a : E)
  | cne (a : E) | ceq (a : E)
  | val (e : E)
inductive Es where
  | nil
  | cons (e : E) (es : Es)
inductive Oc where
  | no
  | yes (t : T)
inductive O where
  | no
  | yes (e : E)
inductive L where
  | lit (es : Es)
  | comp (own : List Nat) (elt : E) (tg : Tg) (it : I) (c : Oc)
  | compc (own : List Nat) (elt : E) (tg : Tg) (e : E) (c : Oc)
  | list (e : E)
  | srt (e : E)
  | srr (e : E)
  | lrg1 (a : E) | lrg2 (a b : E) | lrv (a : E) | ls2 (a : E)
  | rep (a b : E)
  | cat (a b : E) | rvd (a : E)
inductive I where
  | seq (e : E)
  | rng1 (a : E) | rng2 (a b : E) | rng3 (a b c : E)
  | enum (e : E)
  | zip (a b : E) | zip3 (a b c : E)
  | rvs (e : E)
  | rvr (a b : E) | rvr1 (a : E)
end

mutual
inductive S where
  | set (i : Nat) (e : E)
  | own (i : Nat) (l : L)
  | setF (i : Nat) (l : L)
  | unp (tg : Tg) (e : E)
  | par2 (i j : Nat) (es : Es) | par3 (i j l : Nat) (es : Es)
  | aug (i : Nat) (o : Bop) (e : E)
  | app (i : Nat) (e : E)
  | oset (i : Nat) (k e : E)
  | oaug (i : Nat) (k : E) (o : Bop) (e : E)
  | ext (i : Nat) (e : E)
  | csub (o k e : E)
  | capp (o e : E)
  | cins (o k e : E)
  | dset (o : E) (k : String) (e : E)
  | exp (e : E)
  | ife (t : T) (a b : Ss)
  | for (tg : Tg) (it : I) (b : Ss)
  | forc (tg : Tg) (e : E) (b : Ss)
  | whl (t : T) (b : Ss)
  | ret (e : E) | ret0 | pass | brk | cnt
  | nev
inductive Ss where
  | nil
  | cons (s : S) (ss : Ss)
end

structure Def where
  ps : Nat
  ns : Nat
  body : Ss

/-- an exception: its class, its fields -/
structure Exc where
  cls : String
  fields : List D
abbrev Gam := String → List D → CM → (D → CM → Prop) → (Exc → CM → Prop) → Prop
structure Ctx where
  Γ : Gam
  ex : Exc → CM → Prop

/-! ### operations -/
mutual
def D.py : D → PyData
  | .non => .none
  | .bl b => .bool b
  | .int i => .int i
  | .str x => .str x
  | .tup xs => .tuple (D.pys xs)
  | .lst xs => .list (D.pys xs)
  | .ref _ => .none
  | .scr _ => .none
  | .dic => .none
def D.pys : List D → List PyData
  | [] => []
  | x :: xs => D.py x :: D.pys xs
end
mutual
def D.pure : D → Bool
  | .non => true
  | .bl _ => true
  | .int _ => true
  | .str _ => true
  | .tup xs => D.pures xs
  | .lst xs => D.pures xs
  | .ref _ => false
  | .scr _ => false
  | .dic => false
def D.pures : List D → Bool
  | [] => true
  | x :: xs => D.pure x && D.pures xs
end
/-- a tree that may be compared -/
def D.Cmp (d : D) : Prop := d.pure = true ∧ SeqAt.shaped d.py = true
def D.eqv (d e : D) : Bool := PyData.eqv d.py e.py
def D.flat : D → Bool
  | .non => true
  | .bl _ => true
  | .int _ => true
  | .str _ => true
  | _ => false
def D.isNon : D → Bool
  | .non => true
  | _ => false

def intsOf : List D → Option (List Int)
  | [] => some []
  | .int i :: r => (intsOf r).map (i :: ·)
  | _ :: _ => none
def binR : Bop → D → D → (D → Prop) → Prop
  | .add, .int i, .int j, P => P (.int (i + j))
  | .add, .str x, .str y, P => x.length + y.length ≤ sizeLine ∧ P (.str (x ++ y))
  | .add, .tup xs, .tup ys, P => xs.length + ys.length ≤ sizeLine ∧ P (.tup (xs ++ ys))
  | .add, .lst xs, .lst ys, P => xs.length + ys.length ≤ sizeLine ∧ P (.lst (xs ++ ys))
  | .sub, .int i, .int j, P => P (.int (i - j))
  | .add, .bl b, .int j, P => P (.int ((if b = true then 1 else 0) + j))
  | .sub, .bl b, .int j, P => P (.int ((if b = true then 1 else 0) - j))
  | .mul, .int i, .int j, P => CMul i j ∧ P (.int (i * j))
  | .mul, .tup xs, .int k, P => -1000 ≤ k ∧ k ≤ 1000 ∧ xs.length ≤ 1000 ∧ P (.tup (List.replicate k.toNat xs).flatten)
  | .mul, .lst xs, .int k, P => -(2 ^ 63) ≤ k ∧ k < 2 ^ 63 ∧ xs.length * k.toNat ≤ sizeLine ∧ P (.lst (List.replicate k.toNat xs).flatten)
  | .fdiv, .int i, .int j, P => CDiv i j ∧ P (.int (i / j))
  | .mod, .int i, .int j, P => 0 < j ∧ P (.int (i % j))
  | .pow, .int i, .int j, P => CPow i j ∧ P (.int (i ^ j.toNat))
  | .shl, .int i, .int j, P => CPow i j ∧ P (.int (i * 2 ^ j.toNat))
  | _, _, _, _ => False

def cmpR : Cop → D → D → (Bool → Prop) → Prop
  | .eq, d, e, P => d.Cmp ∧ e.Cmp ∧ P (d.eqv e)
  | .ne, d, e, P => d.Cmp ∧ e.Cmp ∧ P (!d.eqv e)
  | .lt, .int i, .int j, P => P (decide (i < j))
  | .le, .int i, .int j, P => P (decide (i ≤ j))
  | .gt, .int i, .int j, P => P (decide (j < i))
  | .ge, .int i, .int j, P => P (decide (j ≤ i))
  | .lt, .tup xs, .tup ys, P => ∃ ns ms, intsOf xs = some ns ∧ intsOf ys = some ms ∧ P (HT.lexLt ns ms)
  | .is, d, .non, P => P d.isNon
  | .isn, d, .non, P => P (!d.isNon)
  | .is, .bl a, .bl b, P => P (decide (a = b))
  | .isn, .bl a, .bl b, P => P (!decide (a = b))
  | .inn, d, .tup ds, P => d.flat = true ∧ ds.all D.flat = true ∧ P (ds.any fun z => z.eqv d)
  | .nin, d, .tup ds, P => d.flat = true ∧ ds.all D.flat = true ∧ P (!ds.any fun z => z.eqv d)
  | .inn, d, .lst ds, P => d.Cmp ∧ (D.lst ds).Cmp ∧ P (ds.any fun z => z.eqv d)
  | .nin, d, .lst ds, P => d.Cmp ∧ (D.lst ds).Cmp ∧ P (!ds.any fun z => z.eqv d)
  | .inn, .str x, .str z, P => ∃ c, x = ⟨#[c]⟩ ∧ P (decide (c ∈ z.cps.toList))
  | .nin, .str x, .str z, P => ∃ c, x = ⟨#[c]⟩ ∧ P (!decide (c ∈ z.cps.toList))
  | _, _, _, _ => False

def truD : D → (Bool → Prop) → Prop
  | .non, P => P false
  | .bl b, P => P b
  | .int i, P => P (i != 0)
  | .str x, P => x.length ≤ sizeLine ∧ P ((x.length : Int) != 0)
  | .tup xs, P => P (!xs.isEmpty)
  | .lst xs, P => P (!xs.isEmpty)
  | _, _ => False

/-- what a cell has at a key -/
def cellAt : Option Cell → D → Option D
  | some (.lst xs), .int i => atI xs i
  | _, _ => none
def itemR (C : CM) : D → D → (D → Prop) → Prop
  | .tup xs, .int i, P => ∃ d, atI xs i = some d ∧ P d
  | .lst xs, .int i, P => ∃ d, atI xs i = some d ∧ P d
  | .str z, .int i, P => z.length ≤ sizeLine ∧ ∃ c, atI z.cps.toList i = some c ∧ P (.str ⟨#[c]⟩)
  | .scr xs, .int i, P => ∃ d, atI xs i = some d ∧ P d
  | .ref a, k, P => ∃ d, cellAt (C a) k = some d ∧ P d
  | _, _, _ => False

def cutD (xs : List D) (lo hi : Option Int) : List D := (xs.drop (HT.sIx xs.length 0 lo)).take (HT.sIx xs.length xs.length hi - HT.sIx xs.length 0 lo)
def sliceR (C : CM) : D → Option Int → Option Int → (D → Prop) → Prop
  | .tup xs, lo, hi, P => P (.tup (cutD xs lo hi))
  | .lst xs, lo, hi, P => P (.lst (cutD xs lo hi))
  | .scr xs, lo, hi, P => P (.lst (cutD xs lo hi))
  | .ref a, lo, hi, P => ∃ xs, C a = some (.lst xs) ∧ P (.lst (cutD xs lo hi))
  | _, _, _, _ => False
def revR : D → (D → Prop) → Prop
  | .lst xs, P => P (.lst xs.reverse)
  | .tup xs, P => P (.tup xs.reverse)
  | _, _ => False

def boolsOf : List D → Option (List Bool)
  | [] => some []
  | .bl i :: r => (boolsOf r).map (i :: ·)
  | _ :: _ => none
def minI : List Int → Int
  | [] => 0
  | x :: r => r.foldl min x
def maxI : List Int → Int
  | [] => 0
  | x :: r => r.foldl max x
def insI (x : Int) : List Int → List Int
  | [] => [x]
  | y :: r => if x ≤ y then x :: y :: r else y :: insI x r
def sortI : List Int → List Int
  | [] => []
  | x :: r => insI x (sortI r)

def lenD : D → Option Nat
  | .tup xs => some xs.length
  | .lst xs => some xs.length
  | .scr xs => some xs.length
  | _ => none
def cellL : Option Cell → Option (List D)
  | some (.lst xs) => some xs
  | _ => none
/-- a list's elements -/
def lstD (C : CM) : D → Option (List D)
  | .lst xs => some xs
  | .ref a => cellL (C a)
  | _ => none
def seqD (C : CM) : D → Option (List D)
  | .tup xs => some xs
  | .lst xs => some xs
  | .ref a => cellL (C a)
  | _ => none

def bltR (C : CM) : Blt → List D → (D → Prop) → Prop
  | .len, [.ref a], P => ∃ xs, C a = some (.lst xs) ∧ P (.int xs.length)
  | .len, [.str x], P => x.length ≤ sizeLine ∧ P (.int x.length)
  | .len, [d], P => ∃ n, lenD d = some n ∧ P (.int (n : Nat))
  | .tuple, [d], P => ∃ xs, seqD C d = some xs ∧ P (.tup xs)
  | .sum, [d], P => ∃ xs ns, seqD C d = some xs ∧ intsOf xs = some ns ∧ P (.int ns.sum)
  | .min, [d], P => ∃ xs ns, seqD C d = some xs ∧ intsOf xs = some ns ∧ ns ≠ [] ∧ P (.int (minI ns))
  | .max, [d], P => ∃ xs ns, seqD C d = some xs ∧ intsOf xs = some ns ∧ ns ≠ [] ∧ P (.int (maxI ns))
  | .min2, [.int i, .int j], P => P (.int (if j < i then j else i))
  | .max2, [.int i, .int j], P => P (.int (if j > i then j else i))
  | .abs, [.int i], P => P (.int (if i < 0 then -i else i))
  | .int, [.int i], P => P (.int i)
  | .int, [.bl b], P => P (.int (if b then 1 else 0))
  | .str, [.int i], P => i.natAbs.log2 < 1920 ∧ P (.str (Str.ofString (toString i)))
  | .mind, [d], P => ∃ x xs, seqD C d = some (x :: xs) ∧ D.pures (x :: xs) = true ∧ PySem.W.AlikeAll (D.pys (x :: xs)) ∧ PyData.depthAll (D.pys (x :: xs)) ≤ 64 ∧ ∀ y ∈ x :: xs, y.py = PySem.W.minD x.py (D.pys xs) → P y
  | .min2d, [x, y], P => D.pures [x, y] = true ∧ PySem.W.AlikeAll (D.pys [x, y]) ∧ PyData.depthAll (D.pys [x, y]) ≤ 64 ∧ ∀ z ∈ [x, y], z.py = PySem.W.minD x.py (D.pys [y]) → P z
  | .maxd, [d], P => ∃ x xs, seqD C d = some (x :: xs) ∧ D.pures (x :: xs) = true ∧ PySem.W.AlikeAll (D.pys (x :: xs)) ∧ PyData.depthAll (D.pys (x :: xs)) ≤ 64 ∧ ∀ y ∈ x :: xs, y.py = PySem.W.maxD x.py (D.pys xs) → P y
  | .repr, [d], P => d.pure = true ∧ d.py.showable = true ∧ d.py.hasDict = false ∧ d.py.depth ≤ 64 ∧ d.py.shown.length ≤ sizeLine ∧ P (.str d.py.shown)
  | .min3, [.int i, .int j, .int k], P => P (.int (min (min i j) k))
  | .all, [.lst xs], P => ∃ bs, boolsOf xs = some bs ∧ P (.bl (bs.all id))
  | .any, [.lst xs], P => ∃ bs, boolsOf xs = some bs ∧ P (.bl (bs.any id))
  | _, _, _ => False

def isTy : Ty → D → Option Bool
  | _, .ref _ => none
  | _, .scr _ => none
  | .int, d => some (match d with | .int _ => true | .bl _ => true | _ => false)
  | .bool, d => some (match d with | .bl _ => true | _ => false)
  | .tuple, d => some (match d with | .tup _ => true | _ => false)
  | .list, d => some (match d with | .lst _ => true | _ => false)
  | .str, d => some (match d with | .str _ => true | _ => false)
  | .dict, d => some (match d with | .dic => true | _ => false)

/-- the first place of d among ds -/
def firstAt (d : D) : List D → Option Nat
  | [] => none
  | z :: r => if z.eqv d then some 0 else (firstAt d r).map (· + 1)
def rangeD (lo : Int) (c : Int) (n : Nat) : List D := (List.range n).map fun i => .int (lo + (i : Nat) * c)
/-- how many numbers a range has -/
def rangeN (a b c : Int) : Nat := if 0 < c then ((b - a + c - 1) / c).toNat else ((a - b + (-c) - 1) / (-c)).toNat
def bnd (a b : Int) : Prop := -(2 ^ 62) ≤ a ∧ a < 2 ^ 62 ∧ -(2 ^ 62) ≤ b ∧ b < 2 ^ 62
/-- a list's or a tuple's parts -/
def sqD : D → Option (List D)
  | .tup xs => some xs
  | .lst xs => some xs
  | _ => none
def zip3D : List D → List D → List D → List D
  | x :: xs, y :: ys, z :: zs => .tup [x, y, z] :: zip3D xs ys zs
  | _, _, _ => []
/-- what a display of texts has at a text -/
def dlkAt (kvs : List (String × String)) (s : Str) : Option V := valV (mergeK [] (kvs.map fun p => (Sum.inr (Str.ofString p.1), V.str (Str.ofString p.2)))) (Sum.inr s)
def zipD : List D → List D → List D
  | x :: xs, y :: ys => .tup [x, y] :: zipD xs ys
  | _, _ => []
def enumD (k : Nat) : List D → List D
  | [] => []
  | x :: xs => .tup [.int (k : Nat), x] :: enumD (k + 1) xs
/-- slots forgotten -/
def wipeR (ρ : Rho) : List Nat → Rho
  | [] => ρ
  | v :: vs => (wipeR ρ vs).set v none

mutual
def bindT : Tg → D → Rho → (Rho → Prop) → Prop
  | .nm i, d, ρ, P => P (ρ.set i (some (.dat d)))
  | .tp ts, .tup ds, ρ, P => bindTs ts ds ρ P
  | .tp ts, .lst ds, ρ, P => bindTs ts ds ρ P
  | .tp _, _, _, _ => False
def bindTs : Tgs → List D → Rho → (Rho → Prop) → Prop
  | .nil, [], ρ, P => P ρ
  | .cons t ts, d :: ds, ρ, P => bindT t d ρ fun ρ' => bindTs ts ds ρ' P
  | _, _, _, _ => False
end

def varD (ρ : Rho) (i : Nat) (P : D → Prop) : Prop := match ρ[i]? with
  | some (some (.dat d)) => P d
  | _ => False
def varO (ρ : Rho) (i : Nat) (P : List D → Prop) : Prop := match ρ[i]? with
  | some (some (.own xs)) => P xs
  | _ => False

/-- a slot's list, the slot's own or a cell's -/
def varL (ρ : Rho) (C : CM) (i : Nat) (P : List D → Prop) : Prop := match ρ[i]? with
  | some (some (.own xs)) => P xs
  | some (some (.dat (.ref a))) => ∃ xs, C a = some (.lst xs) ∧ P xs
  | _ => False
/-- a slot's value: an own list is let go -/
def varM (ρ : Rho) (i : Nat) (P : D → Rho → Prop) : Prop := match ρ[i]? with
  | some (some (.own xs)) => P (.lst xs) (ρ.set i (some (.dat (.lst xs))))
  | some (some (.dat d)) => P d ρ
  | _ => False

/-- values by written keys -/
def keyed {α : Type} : List String → List α → List (L2.Key × α)
  | k :: ks, x :: xs => (Sum.inr (Str.ofString k), x) :: keyed ks xs
  | _, _ => []
/-- what a dict has at a key -/
def dctAt (kvs : List (L2.Key × D)) (k : L2.Key) : Option D := (kvs.find? fun kv => decide (kv.1 = k)).map (·.2)
def dctPut (kvs : List (L2.Key × D)) (k : L2.Key) (d : D) : List (L2.Key × D) :=
  if (kvs.any fun kv => decide (kv.1 = k)) = true then kvs.map (fun kv => if kv.1 = k then (kv.1, d) else kv) else kvs ++ [(k, d)]
/-- the turns of a comprehension: bt binds the target and asks the element (none: passed over) -/
def compGo (turn : D → CM → (Option D → CM → Prop) → Prop) : List D → List D → CM → (List D → CM → Prop) → Prop
  | [], acc, C, P => P acc C
  | d :: ds, acc, C, P => turn d C fun o C' => match o with
    | some y => acc.length < sizeLine ∧ compGo turn ds (acc ++ [y]) C' P
    | none => compGo turn ds acc C' P
/-- .. over a cell's numbers, that stay as they are meanwhile -/
def compGoC (a : Addr) (ns : List Int) (turn : D → CM → (Option D → CM → Prop) → Prop) : List Int → List D → CM → (List D → CM → Prop) → Prop
  | [], acc, C, P => C a = some (.lst (ns.map .int)) ∧ P acc C
  | d :: ds, acc, C, P => C a = some (.lst (ns.map .int)) ∧ turn (.int d) C fun o C' => match o with
    | some y => acc.length < sizeLine ∧ compGoC a ns turn ds (acc ++ [y]) C' P
    | none => compGoC a ns turn ds acc C' P
/-- what a dict of numbers by texts gives of anything -/
def ggetD (kvs : List (String × Int)) (s : Str) : D := match (kvs.find? fun kv => decide (Str.ofString kv.1 = s)) with
  | some kv => .int kv.2
  | none => .non
mutual
def denE (G : Ctx) : E → Rho → CM → (D → Rho → CM → Prop) → Prop
  | .var i, ρ, C, P => varD ρ i fun d => P d ρ C
  | .mv i, ρ, C, P => varM ρ i fun d ρ1 => P d ρ1 C
  | .non, ρ, C, P => P .non ρ C
  | .bl b, ρ, C, P => P (.bl b) ρ C
  | .int i, ρ, C, P => P (.int i) ρ C
  | .str s, ρ, C, P => P (.str (Str.ofString s)) ρ C
  | .con _ i, ρ, C, P => P (.int i) ρ C
  | .cns _ s, ρ, C, P => P (.str (Str.ofString s)) ρ C
  | .bin o a b, ρ, C, P => denE G a ρ C fun x ρ1 C1 => denE G b ρ1 C1 fun y ρ2 C2 => binR o x y fun d => P d ρ2 C2
  | .neg a, ρ, C, P => denE G a ρ C fun x ρ1 C1 => match x with
    | .int i => P (.int (-i)) ρ1 C1
    | _ => False
  | .cmp o a b, ρ, C, P => denE G a ρ C fun x ρ1 C1 => denE G b ρ1 C1 fun y ρ2 C2 => cmpR o x y fun b => P (.bl b) ρ2 C2
  | .chn o o' a b c, ρ, C, P => denE G a ρ C fun x ρ1 C1 => denE G b ρ1 C1 fun y ρ2 C2 => cmpR o x y fun k =>
      if k = true then denE G c ρ2 C2 fun z ρ3 C3 => cmpR o' y z fun k' => P (.bl k') ρ3 C3 else P (.bl false) ρ2 C2
  | .chn3 o o' o'' a b c d, ρ, C, P => denE G a ρ C fun x ρ1 C1 => denE G b ρ1 C1 fun y ρ2 C2 => cmpR o x y fun k =>
      if k = true then denE G c ρ2 C2 fun z ρ3 C3 => cmpR o' y z fun k' => if k' = true then denE G d ρ3 C3 fun u ρ4 C4 => cmpR o'' z u fun k'' => P (.bl k'') ρ4 C4 else P (.bl false) ρ3 C3 else P (.bl false) ρ2 C2
  | .dlk kvs a, ρ, C, P => denE G a ρ C fun x ρ1 C1 => match x with
    | .str s => ∃ y, dlkAt kvs s = some (.str y) ∧ P (.str y) ρ1 C1
    | _ => False
  | .and a b, ρ, C, P => denE G a ρ C fun x ρ1 C1 => match x with
    | .bl k => if k = true then denE G b ρ1 C1 P else P (.bl false) ρ1 C1
    | _ => False
  | .or a b, ρ, C, P => denE G a ρ C fun x ρ1 C1 => match x with
    | .bl k => if k = true then P (.bl true) ρ1 C1 else denE G b ρ1 C1 P
    | _ => False
  | .not a, ρ, C, P => denE G a ρ C fun x ρ1 C1 => match x with
    | .bl k => P (.bl (!k)) ρ1 C1
    | _ => False
  | .ife t a b, ρ, C, P => denT G t ρ C fun k ρ1 C1 => if k = true then denE G a ρ1 C1 P else denE G b ρ1 C1 P
  | .tup es, ρ, C, P => denEs G es ρ C fun ds ρ1 C1 => ds.length ≤ sizeLine ∧ P (.tup ds) ρ1 C1
  | .frz l, ρ, C, P => denL G l ρ C fun ds ρ1 C1 => P (.lst ds) ρ1 C1
  | .cel l, ρ, C, P => denL G l ρ C fun ds ρ1 C1 => ∀ a, C1 a = none → P (.ref a) ρ1 (fun b => if b = a then some (.lst ds) else C1 b)
  | .ix a b, ρ, C, P => denE G a ρ C fun x ρ1 C1 => denE G b ρ1 C1 fun y ρ2 C2 => itemR C2 x y fun d => P d ρ2 C2
  | .sl a lo hi, ρ, C, P => denE G a ρ C fun x ρ1 C1 => denO G lo ρ1 C1 fun l ρ2 C2 => denO G hi ρ2 C2 fun h ρ3 C3 => sliceR C3 x l h fun d => P d ρ3 C3
  | .rev a, ρ, C, P => denE G a ρ C fun x ρ1 C1 => revR x fun d => P d ρ1 C1
  | .call f es, ρ, C, P => denEs G es ρ C fun ds ρ1 C1 => G.Γ f ds C1 (fun d C2 => P d ρ1 C2) G.ex
  | .blt f es, ρ, C, P => denEs G es ρ C fun ds ρ1 C1 => bltR C1 f ds fun d => P d ρ1 C1
  | .isi a t, ρ, C, P => denE G a ρ C fun x ρ1 C1 => ∃ b, isTy t x = some b ∧ P (.bl b) ρ1 C1
  | .oix i b, ρ, C, P => varO ρ i fun xs => denE G b ρ C fun y ρ1 C1 => ρ1 = ρ ∧ itemR C1 (.lst xs) y fun d => P d ρ1 C1
  | .olen i, ρ, C, P => varO ρ i fun xs => P (.int xs.length) ρ C
  | .one i, ρ, C, P => varL ρ C i fun xs => (D.lst xs).Cmp ∧ P (.bl (!xs.isEmpty)) ρ C
  | .oem i, ρ, C, P => varL ρ C i fun xs => (D.lst xs).Cmp ∧ P (.bl xs.isEmpty) ρ C
  | .lne a, ρ, C, P => denE G a ρ C fun x ρ1 C1 => ∃ xs, lstD C1 x = some xs ∧ P (.bl (!xs.isEmpty)) ρ1 C1
  | .leq a, ρ, C, P => denE G a ρ C fun x ρ1 C1 => ∃ xs, lstD C1 x = some xs ∧ P (.bl xs.isEmpty) ρ1 C1
  | .cne a, ρ, C, P => denE G a ρ C fun x ρ1 C1 => ∃ xs, lstD C1 x = some xs ∧ (D.lst xs).Cmp ∧ P (.bl (!xs.isEmpty)) ρ1 C1
  | .ceq a, ρ, C, P => denE G a ρ C fun x ρ1 C1 => ∃ xs, lstD C1 x = some xs ∧ (D.lst xs).Cmp ∧ P (.bl xs.isEmpty) ρ1 C1
  | .opop i, ρ, C, P => varO ρ i fun xs => ∃ y, xs[xs.length - 1]? = some y ∧ P y (ρ.set i (some (.own xs.dropLast))) C
  | .cpop o, ρ, C, P => denE G o ρ C fun x ρ1 C1 => match x with
    | .ref a => ∃ xs y, C1 a = some (.lst xs) ∧ xs[xs.length - 1]? = some y ∧ P y ρ1 (fun b => if b = a then some (.lst xs.dropLast) else C1 b)
    | _ => False
  | .cpopA o k, ρ, C, P => denE G o ρ C fun x ρ1 C1 => match x with
    | .ref a => ∃ xs0, C1 a = some (.lst xs0) ∧ denE G k ρ1 C1 fun y ρ2 C2 => match y with
      | .int i => ∃ xs j y, C2 a = some (.lst xs) ∧ -(2 ^ 63) ≤ i ∧ i < 2 ^ 63 ∧ seqIndex? i xs.length = some j ∧ xs[j]? = some y ∧ P y ρ2 (fun b => if b = a then some (.lst (xs.eraseIdx j)) else C2 b)
      | _ => False
    | _ => False
  | .celd ks es, ρ, C, P => denEs G es ρ C fun ds ρ1 C1 => ((keyed ks ds).map (·.1)).Nodup ∧ ∀ a, C1 a = none → P (.ref a) ρ1 (fun b => if b = a then some (.dct (keyed ks ds)) else C1 b)
  | .dix a k, ρ, C, P => denE G a ρ C fun x ρ1 C1 => match x with
    | .ref p => ∃ kvs d, C1 p = some (.dct kvs) ∧ dctAt kvs (Sum.inr (Str.ofString k)) = some d ∧ P d ρ1 C1
    | _ => False
  | .edic, ρ, C, P => P .dic ρ C
  | .ndic _ a, ρ, C, P => denE G a ρ C fun _ ρ1 C1 => P .dic ρ1 C1
  | .mxo k a b, ρ, C, P => denE G a ρ C fun x ρ1 C1 => denE G b ρ1 C1 fun y ρ2 C2 => ∃ xs ns, seqD C2 x = some xs ∧ intsOf xs = some ns ∧ P (if ns = [] then y else .int (if k = true then maxI ns else minI ns)) ρ2 C2
  | .gget _ kvs a, ρ, C, P => denE G a ρ C fun x ρ1 C1 => match x with
    | .str s => P (ggetD kvs s) ρ1 C1
    | _ => False
  | .upr a, ρ, C, P => denE G a ρ C fun x ρ1 C1 => match x with
    | .str s => s.length ≤ 5592405 ∧ P (.str (Txt.upper s)) ρ1 C1
    | _ => False
  | .orv a b, ρ, C, P => denE G a ρ C fun x ρ1 C1 => truD x fun k => if k = true then P x ρ1 C1 else denE G b ρ1 C1 P
  | .indx a b, ρ, C, P => denE G a ρ C fun x ρ1 C1 => match x with
    | .lst xs => denE G b ρ1 C1 fun y ρ2 C2 => (D.lst xs).Cmp ∧ y.Cmp ∧ ∃ j, firstAt y xs = some j ∧ P (.int (j : Nat)) ρ2 C2
    | _ => False
def denT (G : Ctx) : T → Rho → CM → (Bool → Rho → CM → Prop) → Prop
  | .and a b, ρ, C, P => denT G a ρ C fun k ρ1 C1 => if k = true then denT G b ρ1 C1 P else P false ρ1 C1
  | .or a b, ρ, C, P => denT G a ρ C fun k ρ1 C1 => if k = true then P true ρ1 C1 else denT G b ρ1 C1 P
  | .not a, ρ, C, P => denT G a ρ C fun k ρ1 C1 => P (!k) ρ1 C1
  | .cmp o a b, ρ, C, P => denE G a ρ C fun x ρ1 C1 => denE G b ρ1 C1 fun y ρ2 C2 => cmpR o x y fun b => P b ρ2 C2
  | .chn o o' a b c, ρ, C, P => denE G a ρ C fun x ρ1 C1 => denE G b ρ1 C1 fun y ρ2 C2 => cmpR o x y fun k =>
      if k = true then denE G c ρ2 C2 fun z ρ3 C3 => cmpR o' y z fun k' => P k' ρ3 C3 else P false ρ2 C2
  | .chn3 o o' o'' a b c d, ρ, C, P => denE G a ρ C fun x ρ1 C1 => denE G b ρ1 C1 fun y ρ2 C2 => cmpR o x y fun k =>
      if k = true then denE G c ρ2 C2 fun z ρ3 C3 => cmpR o' y z fun k' => if k' = true then denE G d ρ3 C3 fun u ρ4 C4 => cmpR o'' z u fun k'' => P k'' ρ4 C4 else P false ρ3 C3 else P false ρ2 C2
  | .one i, ρ, C, P => varL ρ C i fun xs => (D.lst xs).Cmp ∧ P (!xs.isEmpty) ρ C
  | .oem i, ρ, C, P => varL ρ C i fun xs => (D.lst xs).Cmp ∧ P xs.isEmpty ρ C
  | .tne a, ρ, C, P => denE G a ρ C fun x ρ1 C1 => match x with | .tup xs => P (!xs.isEmpty) ρ1 C1 | _ => False
  | .teq a, ρ, C, P => denE G a ρ C fun x ρ1 C1 => match x with | .tup xs => P xs.isEmpty ρ1 C1 | _ => False
  | .lne a, ρ, C, P => denE G a ρ C fun x ρ1 C1 => ∃ xs, lstD C1 x = some xs ∧ P (!xs.isEmpty) ρ1 C1
  | .leq a, ρ, C, P => denE G a ρ C fun x ρ1 C1 => ∃ xs, lstD C1 x = some xs ∧ P xs.isEmpty ρ1 C1
  | .cne a, ρ, C, P => denE G a ρ C fun x ρ1 C1 => ∃ xs, lstD C1 x = some xs ∧ (D.lst xs).Cmp ∧ P (!xs.isEmpty) ρ1 C1
  | .ceq a, ρ, C, P => denE G a ρ C fun x ρ1 C1 => ∃ xs, lstD C1 x = some xs ∧ (D.lst xs).Cmp ∧ P xs.isEmpty ρ1 C1
  | .val e, ρ, C, P => denE G e ρ C fun d ρ1 C1 => truD d fun b => P b ρ1 C1
def denEs (G : Ctx) : Es → Rho → CM → (List D → Rho → CM → Prop) → Prop
  | .nil, ρ, C, P => P [] ρ C
  | .cons e es, ρ, C, P => denE G e ρ C fun x ρ1 C1 => denEs G es ρ1 C1 fun xs ρ2 C2 => P (x :: xs) ρ2 C2
def denO (G : Ctx) : O → Rho → CM → (Option Int → Rho → CM → Prop) → Prop
  | .no, ρ, C, P => P none ρ C
  | .yes e, ρ, C, P => denE G e ρ C fun x ρ1 C1 => match x with
    | .int i => P (some i) ρ1 C1
    | _ => False
def denC (G : Ctx) : Oc → Rho → CM → (Bool → Rho → CM → Prop) → Prop
  | .no, ρ, C, P => P true ρ C
  | .yes e, ρ, C, P => denT G e ρ C P
def denL (G : Ctx) : L → Rho → CM → (List D → Rho → CM → Prop) → Prop
  | .lit es, ρ, C, P => denEs G es ρ C fun ds ρ1 C1 => ds.length ≤ sizeLine ∧ P ds ρ1 C1
  | .comp own elt tg it c, ρ, C, P => denI G it ρ C fun ds ρ1 C1 =>
      compGo (fun d C2 K => bindT tg d (wipeR ρ1 own) fun ρ2 => denC G c ρ2 C2 fun b ρ3 C3 => ρ3 = ρ2 ∧
        if b = true then denE G elt ρ3 C3 fun y ρ4 C4 => ρ4 = ρ2 ∧ K (some y) C4 else K none C3) ds [] C1 fun acc C4 => P acc ρ1 C4
  | .compc own elt tg e c, ρ, C, P => denE G e ρ C fun x ρ1 C1 => match x with
    | .ref a => ∃ ns : List Int, compGoC a ns (fun d C2 K => bindT tg d (wipeR ρ1 own) fun ρ2 => denC G c ρ2 C2 fun b ρ3 C3 => ρ3 = ρ2 ∧
        if b = true then denE G elt ρ3 C3 fun y ρ4 C4 => ρ4 = ρ2 ∧ K (some y) C4 else K none C3) ns [] C1 fun acc C4 => P acc ρ1 C4
    | _ => False
  | .list e, ρ, C, P => denE G e ρ C fun x ρ1 C1 => match x with
    | .tup xs => P xs ρ1 C1
    | .lst xs => P xs ρ1 C1
    | _ => False
  | .srt e, ρ, C, P => denE G e ρ C fun x ρ1 C1 => match x with
    | .lst xs => ∃ ns, intsOf xs = some ns ∧ P ((sortI ns).map D.int) ρ1 C1
    | _ => False
  | .srr e, ρ, C, P => denE G e ρ C fun x ρ1 C1 => match x with
    | .lst xs => ∃ ns, intsOf xs = some ns ∧ P ((sortI ns).reverse.map D.int) ρ1 C1
    | _ => False
  | .lrg1 a, ρ, C, P => denE G a ρ C fun x ρ1 C1 => match x with
    | .int j => RgOk 0 j ∧ P (rangeD 0 1 (j - 0).toNat) ρ1 C1
    | _ => False
  | .lrg2 a b, ρ, C, P => denE G a ρ C fun x ρ1 C1 => denE G b ρ1 C1 fun y ρ2 C2 => match x, y with
    | .int i, .int j => RgOk i j ∧ P (rangeD i 1 (j - i).toNat) ρ2 C2
    | _, _ => False
  | .lrv a, ρ, C, P => denE G a ρ C fun x ρ1 C1 => ∃ xs, lstD C1 x = some xs ∧ P xs.reverse ρ1 C1
  | .ls2 a, ρ, C, P => denE G a ρ C fun x ρ1 C1 => ∃ xs, lstD C1 x = some xs ∧ P (xs.take (xs.length - 1)).reverse ρ1 C1
  | .rep a b, ρ, C, P => denE G a ρ C fun x ρ1 C1 => denE G b ρ1 C1 fun y ρ2 C2 => match x, y with
    | .lst xs, .int k => -(2 ^ 63) ≤ k ∧ k < 2 ^ 63 ∧ xs.length * k.toNat ≤ sizeLine ∧ P (List.replicate k.toNat xs).flatten ρ2 C2
    | _, _ => False
  | .cat a b, ρ, C, P => denE G a ρ C fun x ρ1 C1 => denE G b ρ1 C1 fun y ρ2 C2 => ∃ xs ys, lstD C2 x = some xs ∧ lstD C2 y = some ys ∧ xs.length + ys.length ≤ sizeLine ∧ P (xs ++ ys) ρ2 C2
  | .rvd a, ρ, C, P => denE G a ρ C fun x ρ1 C1 => ∃ xs, lstD C1 x = some xs ∧ P xs.reverse ρ1 C1
def denI (G : Ctx) : I → Rho → CM → (List D → Rho → CM → Prop) → Prop
  | .seq e, ρ, C, P => denE G e ρ C fun x ρ1 C1 => match x with
    | .tup xs => P xs ρ1 C1
    | .lst xs => P xs ρ1 C1
    | _ => False
  | .rng1 a, ρ, C, P => denE G a ρ C fun x ρ1 C1 => match x with
    | .int j => -(2 ^ 62) ≤ j ∧ j < 2 ^ 62 ∧ P (rangeD 0 1 j.toNat) ρ1 C1
    | _ => False
  | .rng2 a b, ρ, C, P => denE G a ρ C fun x ρ1 C1 => denE G b ρ1 C1 fun y ρ2 C2 => match x, y with
    | .int i, .int j => bnd i j ∧ P (rangeD i 1 (j - i).toNat) ρ2 C2
    | _, _ => False
  | .rng3 a b c, ρ, C, P => denE G a ρ C fun x ρ1 C1 => denE G b ρ1 C1 fun y ρ2 C2 => denE G c ρ2 C2 fun z ρ3 C3 => match x, y, z with
    | .int i, .int j, .int k => bnd i j ∧ k = -1 ∧ P (rangeD i k (i - j).toNat) ρ3 C3
    | _, _, _ => False
  | .enum e, ρ, C, P => denE G e ρ C fun x ρ1 C1 => match x with
    | .tup xs => P (enumD 0 xs) ρ1 C1
    | .lst xs => P (enumD 0 xs) ρ1 C1
    | _ => False
  | .zip a b, ρ, C, P => denE G a ρ C fun x ρ1 C1 => denE G b ρ1 C1 fun y ρ2 C2 => ∃ xs ys, sqD x = some xs ∧ sqD y = some ys ∧ P (zipD xs ys) ρ2 C2
  | .zip3 a b c, ρ, C, P => denE G a ρ C fun x ρ1 C1 => denE G b ρ1 C1 fun y ρ2 C2 => denE G c ρ2 C2 fun z ρ3 C3 => ∃ xs ys zs, sqD x = some xs ∧ sqD y = some ys ∧ sqD z = some zs ∧ P (zip3D xs ys zs) ρ3 C3
  | .rvs e, ρ, C, P => denE G e ρ C fun x ρ1 C1 => match x with
    | .tup xs => P xs.reverse ρ1 C1
    | .lst xs => P xs.reverse ρ1 C1
    | _ => False
  | .rvr a b, ρ, C, P => denE G a ρ C fun x ρ1 C1 => denE G b ρ1 C1 fun y ρ2 C2 => match x, y with
    | .int i, .int j => bnd i j ∧ P (rangeD (i + (((j - i).toNat : Nat) : Int) - 1) (-1) (j - i).toNat) ρ2 C2
    | _, _ => False
  | .rvr1 a, ρ, C, P => denE G a ρ C fun x ρ1 C1 => match x with
    | .int j => bnd 0 j ∧ P (rangeD (0 + (((j - 0).toNat : Nat) : Int) - 1) (-1) (j - 0).toNat) ρ1 C1
    | _ => False
end

structure AEnds where
  nx : Rho → CM → Prop
  rt : D → CM → Prop
  bk : Rho → CM → Prop := fun _ _ => False
  ct : Rho → CM → Prop := fun _ _ => False

def forGo (tg : Tg) (body : AEnds → Rho → CM → Prop) (A : AEnds) : List D → Rho → CM → Prop
  | [], ρ, C => A.nx ρ C
  | d :: ds, ρ, C => bindT tg d ρ fun ρ1 => body { A with nx := forGo tg body A ds, ct := forGo tg body A ds, bk := A.nx } ρ1 C
/-- .. over a cell's numbers, that stay as they are meanwhile -/
def forGoC (a : Addr) (ns : List Int) (tg : Tg) (body : AEnds → Rho → CM → Prop) (A : AEnds) : List Int → Rho → CM → Prop
  | [], ρ, C => C a = some (.lst (ns.map .int)) ∧ A.nx ρ C
  | d :: ds, ρ, C => C a = some (.lst (ns.map .int)) ∧ bindT tg (.int d) ρ fun ρ1 => body { A with nx := forGoC a ns tg body A ds, ct := forGoC a ns tg body A ds, bk := A.nx } ρ1 C
def whlGo (t : Rho → CM → (Bool → Rho → CM → Prop) → Prop) (body : AEnds → Rho → CM → Prop) (A : AEnds) : Nat → Rho → CM → Prop
  | 0, _, _ => False
  | n + 1, ρ, C => t ρ C fun b ρ1 C1 => if b = true then body { A with nx := whlGo t body A n, ct := whlGo t body A n, bk := A.nx } ρ1 C1 else A.nx ρ1 C1

mutual
def denS (G : Ctx) : S → AEnds → Rho → CM → Prop
  | .set i e, A, ρ, C => denE G e ρ C fun d ρ1 C1 => A.nx (ρ1.set i (some (.dat d))) C1
  | .own i l, A, ρ, C => denL G l ρ C fun ds ρ1 C1 => A.nx (ρ1.set i (some (.own ds))) C1
  | .setF i l, A, ρ, C => denL G l ρ C fun ds ρ1 C1 => A.nx (ρ1.set i (some (.dat (.lst ds)))) C1
  | .unp tg e, A, ρ, C => denE G e ρ C fun d ρ1 C1 => bindT tg d ρ1 fun ρ2 => A.nx ρ2 C1
  | .par2 i j es, A, ρ, C => denEs G es ρ C fun ds ρ1 C1 => match ds with
    | [d, e] => A.nx ((ρ1.set i (some (.dat d))).set j (some (.dat e))) C1
    | _ => False
  | .par3 i j l es, A, ρ, C => denEs G es ρ C fun ds ρ1 C1 => match ds with
    | [d, e, f] => A.nx (((ρ1.set i (some (.dat d))).set j (some (.dat e))).set l (some (.dat f))) C1
    | _ => False
  | .aug i o e, A, ρ, C => varD ρ i fun x => denE G e ρ C fun y ρ1 C1 => match o, x, y with
    | .add, .int a, .int b => A.nx (ρ1.set i (some (.dat (.int (a + b))))) C1
    | .sub, .int a, .int b => A.nx (ρ1.set i (some (.dat (.int (a - b))))) C1
    | _, _, _ => False
  | .app i e, A, ρ, C => varO ρ i fun _ => denE G e ρ C fun d ρ1 C1 => varO ρ1 i fun xs => xs.length < sizeLine ∧ A.nx (ρ1.set i (some (.own (xs ++ [d])))) C1
  | .oset i k e, A, ρ, C => denE G e ρ C fun d ρ1 C1 => varO ρ1 i fun _ => denE G k ρ1 C1 fun x ρ2 C2 => varO ρ2 i fun xs => match x with
    | .int j => ∃ n, ixN xs.length j = some n ∧ A.nx (ρ2.set i (some (.own (xs.set n d)))) C2
    | _ => False
  | .oaug i k o e, A, ρ, C => varO ρ i fun _ => denE G k ρ C fun x ρ1 C1 => varO ρ1 i fun xs => match x with
    | .int j => ∃ n y, ixN xs.length j = some n ∧ xs[n]? = some (.int y) ∧ denE G e ρ1 C1 fun z ρ2 C2 => ρ2 = ρ1 ∧ match o, z with
      | .add, .int u => A.nx (ρ2.set i (some (.own (xs.set n (.int (y + u)))))) C2
      | .sub, .int u => A.nx (ρ2.set i (some (.own (xs.set n (.int (y - u)))))) C2
      | _, _ => False
    | _ => False
  | .ext i e, A, ρ, C => varO ρ i fun _ => denE G e ρ C fun d ρ1 C1 => varO ρ1 i fun xs => match d with
    | .lst ys => xs.length + ys.length ≤ sizeLine ∧ A.nx (ρ1.set i (some (.own (xs ++ ys)))) C1
    | _ => False
  | .csub o k e, A, ρ, C => denE G e ρ C fun d ρ1 C1 => denE G o ρ1 C1 fun x ρ2 C2 => denE G k ρ2 C2 fun y ρ3 C3 => match x, y with
    | .ref a, .int j => ∃ xs n, C3 a = some (.lst xs) ∧ ixN xs.length j = some n ∧ A.nx ρ3 (fun b => if b = a then some (.lst (xs.set n d)) else C3 b)
    | _, _ => False
  | .capp o e, A, ρ, C => denE G o ρ C fun x ρ1 C1 => match x with
    | .ref a => ∃ xs0, C1 a = some (.lst xs0) ∧ denE G e ρ1 C1 fun d ρ2 C2 => ∃ xs, C2 a = some (.lst xs) ∧ xs.length < sizeLine ∧ A.nx ρ2 (fun b => if b = a then some (.lst (xs ++ [d])) else C2 b)
    | _ => False
  | .cins o k e, A, ρ, C => denE G o ρ C fun x ρ1 C1 => match x with
    | .ref a => ∃ xs0, C1 a = some (.lst xs0) ∧ denE G k ρ1 C1 fun y ρ2 C2 => denE G e ρ2 C2 fun d ρ3 C3 => match y with
      | .int i => ∃ xs, C3 a = some (.lst xs) ∧ xs.length < sizeLine ∧ 0 ≤ i ∧ i < 2 ^ 63 ∧ A.nx ρ3 (fun b => if b = a then some (.lst (xs.take i.toNat ++ [d] ++ xs.drop i.toNat)) else C3 b)
      | _ => False
    | _ => False
  | .dset o k e, A, ρ, C => denE G e ρ C fun d ρ1 C1 => denE G o ρ1 C1 fun x ρ2 C2 => match x with
    | .ref p => ∃ kvs, C2 p = some (.dct kvs) ∧ kvs.length < sizeLine ∧ A.nx ρ2 (fun b => if b = p then some (.dct (dctPut kvs (Sum.inr (Str.ofString k)) d)) else C2 b)
    | _ => False
  | .exp e, A, ρ, C => denE G e ρ C fun _ ρ1 C1 => A.nx ρ1 C1
  | .ife t a b, A, ρ, C => denT G t ρ C fun k ρ1 C1 => if k = true then denSs G a A ρ1 C1 else denSs G b A ρ1 C1
  | .for tg it b, A, ρ, C => denI G it ρ C fun ds ρ1 C1 => forGo tg (denSs G b) A ds ρ1 C1
  | .forc tg e b, A, ρ, C => denE G e ρ C fun x ρ1 C1 => match x with
    | .ref a => ∃ ns : List Int, forGoC a ns tg (denSs G b) A ns ρ1 C1
    | _ => False
  | .whl t b, A, ρ, C => ∃ n, whlGo (denT G t) (denSs G b) A n ρ C
  | .ret e, A, ρ, C => denE G e ρ C fun d _ C1 => A.rt d C1
  | .ret0, A, _, C => A.rt .non C
  | .pass, A, ρ, C => A.nx ρ C
  | .brk, A, ρ, C => A.bk ρ C
  | .cnt, A, ρ, C => A.ct ρ C
  | .nev, _, _, _ => False
def denSs (G : Ctx) : Ss → AEnds → Rho → CM → Prop
  | .nil, A, ρ, C => A.nx ρ C
  | .cons s ss, A, ρ, C => denS G s { A with nx := denSs G ss A } ρ C
end

/-- cells forgotten -/
def CM.Sub (C C' : CM) : Prop := ∀ a c, C a = some c → C' a = some c
/-- a call of a def -/
def denF (G : Ctx) (f : Def) (ds : List D) (C : CM) (P : D → CM → Prop) : Prop :=
  ds.length = f.ps ∧ denSs G f.body { nx := fun _ C' => ∃ C'', CM.Sub C'' C' ∧ P .non C'', rt := fun d C' => ∃ C'', CM.Sub C'' C' ∧ P d C'' } (ds.map (fun d => some (.dat d)) ++ List.replicate (f.ns - f.ps) none) C
/-- calls, so many deep -/
def Gm (tab : List (String × Def)) : Nat → Gam
  | 0 => fun _ _ _ _ _ => False
  | n + 1 => fun f ds C P ex => ∃ d, tab.lookup f = some d ∧ denF ⟨Gm tab n, ex⟩ d ds C P
end M61

set_option Elab.async false
set_option linter.all false
set_option autoImplicit false
set_option maxRecDepth 100000
/-! M3a: the operations, as the layer's rules have them. -/
namespace M61
open PySem PySem.Spec PyProof.Rows L2

/-- a two-place operation of abstract values -/
def lift2 (K : PySem.W.Frag) (r : D → D → (D → Prop) → Prop) : R2 := fun x y H Q => ∃ (F : Hp) (dx dy : D) (P : D → Prop), Same F H ∧ Rep K F x dx ∧ Rep K F y dy ∧ r dx dy P ∧
  ∀ d F' v H', Grow F H F' H' → Rep K F' v d → P d → Q v H'
def lift1 (K : PySem.W.Frag) (r : D → (D → Prop) → Prop) : V → Hp → VK → Prop := fun x H Q => ∃ (F : Hp) (dx : D) (P : D → Prop), Same F H ∧ Rep K F x dx ∧ r dx P ∧
  ∀ d F' v H', Grow F H F' H' → Rep K F' v d → P d → Q v H'
def liftN (K : PySem.W.Frag) (r : List D → (D → Prop) → Prop) : List V → Hp → VK → Prop := fun xs H Q => ∃ (F : Hp) (ds : List D) (P : D → Prop), Same F H ∧ Reps K F xs ds ∧ r ds P ∧
  ∀ d F' v H', Grow F H F' H' → Rep K F' v d → P d → Q v H'

theorem Rep.int_inv {K : PySem.W.Frag} {F : Hp} {v : V} {i : Int} (h : Rep K F v (.int i)) : v = .int i := by cases h; rfl
theorem Rep.bl_inv {K : PySem.W.Frag} {F : Hp} {v : V} {i : Bool} (h : Rep K F v (.bl i)) : v = .bl i := by cases h; rfl
theorem Rep.str_inv {K : PySem.W.Frag} {F : Hp} {v : V} {i : Str} (h : Rep K F v (.str i)) : v = .str i := by cases h; rfl
theorem Rep.non_inv {K : PySem.W.Frag} {F : Hp} {v : V} (h : Rep K F v .non) : v = .non := by cases h; rfl
theorem Rep.ref_inv {K : PySem.W.Frag} {F : Hp} {v : V} {a : Addr} (h : Rep K F v (.ref a)) : v = .ref a := by cases h; rfl
theorem Rep.tup_inv {K : PySem.W.Frag} {F : Hp} {v : V} {ds : List D} (h : Rep K F v (.tup ds)) : ∃ a xs, v = .ref a ∧ SqT K F a xs ∧ Reps K F xs ds := by cases h with | tup h r => exact ⟨_, _, rfl, h, r⟩
theorem Rep.lst_inv {K : PySem.W.Frag} {F : Hp} {v : V} {ds : List D} (h : Rep K F v (.lst ds)) : ∃ a xs, v = .ref a ∧ F a = some (HO.lst xs) ∧ Reps K F xs ds := by cases h with | lst h r => exact ⟨_, _, rfl, h, r⟩
theorem Rep.scr_inv {K : PySem.W.Frag} {F : Hp} {v : V} {ds : List D} (h : Rep K F v (.scr ds)) : ∃ a xs, v = .ref a ∧ SqL K F a xs ∧ Reps K F xs ds := by cases h with | scr h r => exact ⟨_, _, rfl, h, r⟩

mutual
theorem rep_dp {K : PySem.W.Frag} {F : Hp} : ∀ {v : V} {d : D}, Rep K F v d → d.pure = true → Dp K F v d.py
  | _, _, .non, _ => .non
  | _, _, .bl b, _ => .bl b
  | _, _, .int i, _ => .int i
  | _, _, .str x, _ => .str x
  | _, _, .tup h r, p => .tup h (reps_dp r p)
  | _, _, .lst h r, p => .lst (.of h) (reps_dp r p)
  | _, _, .scr h r, p => by cases p
  | _, _, .ref a, p => by cases p
theorem reps_dp {K : PySem.W.Frag} {F : Hp} : ∀ {vs : List V} {ds : List D}, Reps K F vs ds → D.pures ds = true → DpAll K F vs (D.pys ds)
  | _, _, .nil, _ => .nil
  | _, _, .cons r t, p => by
    have p' : D.pure _ = true ∧ D.pures _ = true := Bool.and_eq_true_iff.mp p
    exact .cons (rep_dp r p'.1) (reps_dp t p'.2)
end

theorem OpR.weak {X : Cx} {f : Value → Value → Sem Value} {r r' : R2} (h : OpR X f r) (k : ∀ x y H Q, r' x y H Q → r x y H Q) : OpR X f r' :=
  fun pins s σ H x y v u Q I rx ry q => h pins s σ H x y v u Q I rx ry (k _ _ _ _ q)
theorem CallR.weak {X : Cx} {f : Value} {r r' : List V → Hp → VK → Prop} (h : CallR X f r) (k : ∀ xs H Q, r' xs H Q → r xs H Q) : CallR X f r' :=
  fun pins s σ H xs us Q I rx q => h pins s σ H xs us Q I rx (k _ _ _ q)
theorem CallR.or {X : Cx} {f : Value} {r r' : List V → Hp → VK → Prop} (h : CallR X f r) (h' : CallR X f r') : CallR X f (fun xs H Q => r xs H Q ∨ r' xs H Q) :=
  fun pins s σ H xs us Q I rx q => q.elim (h pins s σ H xs us Q I rx) (h' pins s σ H xs us Q I rx)

section
variable {X : Cx}
def popOf : Bop → Operator
  | .add => .Add | .sub => .Sub | .mul => .Mult | .fdiv => .FloorDiv | .mod => .Mod | .pow => .Pow | .shl => .LShift

theorem catT_sound {F H : Hp} {x y : V} {xs ys : List D} {P : D → Prop} {Q : VK} (s : Same F H) (r1 : Rep X.K F x (.tup xs)) (r2 : Rep X.K F y (.tup ys)) (hz : xs.length + ys.length ≤ sizeLine) (p : P (.tup (xs ++ ys)))
    (k : ∀ d F' v H', Grow F H F' H' → Rep X.K F' v d → P d → Q v H') : rCatA X.K x y H Q := by
  obtain ⟨a, vs, rfl, ha, ra⟩ := r1.tup_inv
  obtain ⟨b, ws, rfl, hb, rb⟩ := r2.tup_inv
  refine ⟨a, b, vs, ws, rfl, rfl, sqT_same s ha, sqT_same s hb, ?_, fun e => ?_, fun e e2 => ?_, fun e e2 q hq => ?_⟩
  · rw [ra.length, rb.length]; exact hz
  · subst e
    cases ra
    exact k _ F _ H (Grow.refl s) (.tup hb rb) p
  · subst e2
    cases rb
    rw [List.append_nil] at p
    exact k _ F _ H (Grow.refl s) (.tup ha ra) p
  · have g := Grow.new (o := HO.tup (vs ++ ws)) s hq
    exact k _ _ _ _ g (.tup (SqT.of upd_same) ((ra.append rb).mono g.ff)) p


theorem tuple_mulSame (l : Addr) (items : Array Value) (n : Nat) (dd : Option Addr) (sl : Array (Option Value)) (x : Int) (u : Tok) (c0 : (decide (x < -(2 ^ 63)) || decide (x ≥ 2 ^ 63)) = false) (c1 : (items.isEmpty || x == 1) = true) :
    Meets (Builtin.«tuple.__mul__» ⟨[.ref l, .int x u], []⟩) (fun _ R s => s.heap.get? l = some { cls := .type "tuple", dict := dd, data := .seq items n, slots := sl } ∧
      R (.ok (.ret (Value.ref l))) s) :=
  .of_wp fun prog w A R s h => by
    obtain ⟨hp, g, d, tk, os⟩ := s
    obtain ⟨hl, h⟩ := h
    have f1 := AutoSeq1.idx_int
    wp_walk using wpAny_loadPart' hl
    repeat (first
      | (refine wpAny_ite_false (decide_eq_false (by rw [c0]; exact Bool.false_ne_true)) ?_; wp_walk using wpAny_loadPart' hl)
      | (refine wpAny_ite_true (decide_eq_true (by rw [c1])) ?_; wp_walk using wpAny_loadPart' hl))
    exact ⟨_, rfl, h⟩
theorem tuple_mulNone (l : Addr) (items : Array Value) (n : Nat) (dd : Option Addr) (sl : Array (Option Value)) (x : Int) (u : Tok) (c0 : (decide (x < -(2 ^ 63)) || decide (x ≥ 2 ^ 63)) = false) (c1 : (items.isEmpty || x == 1) = false) (c2 : (decide (x ≤ 0) || items.isEmpty) = true) :
    Meets (Builtin.«tuple.__mul__» ⟨[.ref l, .int x u], []⟩) (fun _ R s => s.heap.get? l = some { cls := .type "tuple", dict := dd, data := .seq items n, slots := sl } ∧
      R (.ok (.ret (Value.ref s.heap.objs.size))) { s with heap := s.heap.push { cls := Value.type "tuple", data := Data.seq #[] }, toks := s.toks }) :=
  .of_wp fun prog w A R s h => by
    obtain ⟨hp, g, d, tk, os⟩ := s
    obtain ⟨hl, h⟩ := h
    have f1 := AutoSeq1.idx_int
    wp_walk using wpAny_loadPart' hl
    repeat (first
      | (refine wpAny_ite_false (decide_eq_false (by rw [c0]; exact Bool.false_ne_true)) ?_; wp_walk using wpAny_loadPart' hl)
      | (refine wpAny_ite_false (decide_eq_false (by rw [c1]; exact Bool.false_ne_true)) ?_; wp_walk using wpAny_loadPart' hl)
      | (refine wpAny_ite_true (decide_eq_true (by rw [c2])) ?_; wp_walk using wpAny_loadPart' hl))
    exact ⟨_, rfl, h⟩
def rRepAny (K : PySem.W.Frag) : R2 := fun x y H Q => ∃ l k xs, x = .ref l ∧ y = .int k ∧ SqT K H l xs ∧ -1000 ≤ k ∧ k ≤ 1000 ∧ xs.length ≤ 1000 ∧
  ((xs = [] ∨ k = 1) → Q (.ref l) H) ∧ (xs ≠ [] → k ≠ 1 → ∀ p, H p = none → Q (.ref p) (upd H p (.tup (List.replicate k.toNat xs).flatten)))
theorem op_repAny : OpR X (binaryOp .Mult) (rRepAny X.K) := by
  intro pins s σ H x y v u Q I rx ry h
  obtain ⟨l, k, xs, rfl, rfl, hT, h1, h2, hz, q1, q2⟩ := h
  by_cases e : xs = [] ∨ k = 1
  · cases rx
    obtain ⟨t, rfl⟩ := ry
    obtain ⟨its, r, ⟨⟨cls, dd, data, sl⟩, ho, hc, n, hd⟩, hs⟩ := I.tuple hT
    simp only at hc hd
    subst hc hd
    have hle : its.length = xs.length := r.length.symm
    have c0 : (decide (k < -(2 ^ 63)) || decide (k ≥ 2 ^ 63)) = false := by
      rw [decide_eq_false (by omega), decide_eq_false (by omega)] <;> rfl
    have c1 : (its.toArray.isEmpty || k == 1) = true := by
      rcases e with e | e
      · rw [e] at hle
        rw [List.eq_nil_of_length_eq_zero hle]; rfl
      · rw [e]; simp
    refine wpAny_binaryOp_repeat_ref (T := "tuple") (U := "int") (by decide) ⟨_, ho, rfl⟩ (fun s' => typeIs_int s' k t) noFill_tuple_mul F.fills_int_mul F.slot_int_rmul repeat_tuple F.slot_int_index.lookup
      (call_meets F.slot_int_rmul (typeIs_int s k t) F.entry_int_rmul (F.args_int_rmul_2 _ _) (int_rmul_tuple k t l its.toArray n dd sl)
        ⟨ho, rfl, ⟨_, ho, rfl⟩, call_meets F.slot_tuple_mul ⟨_, ho, rfl⟩ F.entry_tuple_mul (F.args_tuple_mul_2 _ _) (tuple_mulSame l its.toArray n dd sl k t c0 c1) ⟨ho, ?_⟩⟩)
    exact ⟨.ref l, H, I, rfl, q1 e⟩
  · have e1 : xs ≠ [] := fun z => e (.inl z)
    have e2 : k ≠ 1 := fun z => e (.inr z)
    by_cases h0 : 2 ≤ k
    · exact op_repT pins s σ H _ _ v u Q I rx ry ⟨l, k, xs, rfl, rfl, hT, e1, h0, h2, hz, q2 e1 e2⟩
    · cases rx
      obtain ⟨t, rfl⟩ := ry
      obtain ⟨its, r, ⟨⟨cls, dd, data, sl⟩, ho, hc, n, hd⟩, hs⟩ := I.tuple hT
      simp only at hc hd
      subst hc hd
      have hle : its.length = xs.length := r.length.symm
      have hi : its.toArray.isEmpty = false := by
        cases its with
        | nil => exact absurd (List.eq_nil_of_length_eq_zero hle.symm) e1
        | cons a b => rfl
      have c0 : (decide (k < -(2 ^ 63)) || decide (k ≥ 2 ^ 63)) = false := by
        rw [decide_eq_false (by omega), decide_eq_false (by omega)] <;> rfl
      have c1 : (its.toArray.isEmpty || k == 1) = false := by
        rw [hi, Bool.false_or]
        exact beq_eq_false_iff_ne.mpr e2
      have c2 : (decide (k ≤ 0) || its.toArray.isEmpty) = true := by
        rw [decide_eq_true (by omega)]; rfl
      refine wpAny_binaryOp_repeat_ref (T := "tuple") (U := "int") (by decide) ⟨_, ho, rfl⟩ (fun s' => typeIs_int s' k t) noFill_tuple_mul F.fills_int_mul F.slot_int_rmul repeat_tuple F.slot_int_index.lookup
        (call_meets F.slot_int_rmul (typeIs_int s k t) F.entry_int_rmul (F.args_int_rmul_2 _ _) (int_rmul_tuple k t l its.toArray n dd sl)
          ⟨ho, rfl, ⟨_, ho, rfl⟩, call_meets F.slot_tuple_mul ⟨_, ho, rfl⟩ F.entry_tuple_mul (F.args_tuple_mul_2 _ _) (tuple_mulNone l its.toArray n dd sl k t c0 c1 c2) ⟨ho, ?_⟩⟩)
      have ek : k.toNat = 0 := by omega
      have q3 := q2 e1 e2
      rw [ek] at q3
      exact ⟨.ref s.heap.objs.size, _, I.laid (t' := s.toks) (o := .tup []) (fun b ob q => Heap.get?_push_of_some _ q) (Nat.le_refl _) ⟨by rw [sizeLine_eq]; decide, [], .nil, IsTup.new _ _⟩, rfl, q3 _ (I.hok.fresh (Nat.le_refl _))⟩

theorem op_addB : OpR X (binaryOp .Add) (fun x y H Q => ∃ (b : Bool) (j : Int), x = .bl b ∧ y = .int j ∧ Q (.int ((if b = true then (1 : Int) else 0) + j)) H) := by
  intro pins s σ H x y v u Q I rx ry h
  obtain ⟨b, j, rfl, rfl, q⟩ := h
  cases rx
  obtain ⟨t', rfl⟩ := ry
  exact IntBool.add_bool_int ⟨.int _, H, I.tok _, ⟨_, rfl⟩, q⟩
theorem op_subB : OpR X (binaryOp .Sub) (fun x y H Q => ∃ (b : Bool) (j : Int), x = .bl b ∧ y = .int j ∧ Q (.int ((if b = true then (1 : Int) else 0) - j)) H) := by
  intro pins s σ H x y v u Q I rx ry h
  obtain ⟨b, j, rfl, rfl, q⟩ := h
  cases rx
  obtain ⟨t', rfl⟩ := ry
  exact IntBool.sub_bool_int ⟨.int _, H, I.tok _, ⟨_, rfl⟩, q⟩
theorem s_bin (o : Bop) : OpR X (binaryOp (popOf o)) (lift2 X.K (binR o)) := by
  intro pins s σ H x y v u Q I rx ry ⟨F, dx, dy, P, sF, r1, r2, m, k⟩
  have fin : ∀ d v, Rep X.K F v d → P d → Q v H := fun d v r p => k d F v H (Grow.refl sF) r p
  cases o with
  | add =>
    unfold binR at m
    split at m
    all_goals first | (rename_i hh; cases hh; done) | skip
    · cases r1; cases r2; exact op_add pins s σ H _ _ v u Q I rx ry ⟨_, _, rfl, rfl, fin _ _ (.int _) m⟩
    · cases r1; cases r2; exact op_add_str pins s σ H _ _ v u Q I rx ry ⟨_, _, rfl, rfl, m.1, fin _ _ (.str _) m.2⟩
    · exact op_catA pins s σ H _ _ v u Q I rx ry (catT_sound sF r1 r2 m.1 m.2 k)
    · obtain ⟨a, vs, rfl, ha, ra⟩ := r1.lst_inv
      obtain ⟨b, ws, rfl, hb, rb⟩ := r2.lst_inv
      refine op_cat pins s σ H _ _ v u Q I rx ry ⟨a, b, vs, ws, rfl, rfl, sF _ _ ha, sF _ _ hb, by rw [ra.length, rb.length]; exact m.1, fun p hp => ?_⟩
      have g := Grow.new (o := HO.lst (vs ++ ws)) sF hp
      exact k _ _ _ _ g (.lst upd_same ((ra.append rb).mono g.ff)) m.2
    · cases r1; cases r2; exact op_addB pins s σ H _ _ v u Q I rx ry ⟨_, _, rfl, rfl, fin _ _ (.int _) m⟩
    · exact m.elim
  | sub =>
    unfold binR at m
    split at m
    all_goals first | (rename_i hh; cases hh; done) | skip
    · cases r1; cases r2; exact op_sub pins s σ H _ _ v u Q I rx ry ⟨_, _, rfl, rfl, fin _ _ (.int _) m⟩
    · cases r1; cases r2; exact op_subB pins s σ H _ _ v u Q I rx ry ⟨_, _, rfl, rfl, fin _ _ (.int _) m⟩
    · exact m.elim
  | mul =>
    unfold binR at m
    split at m
    all_goals first | (rename_i hh; cases hh; done) | skip
    · cases r1; cases r2; exact op_mul pins s σ H _ _ v u Q I rx ry ⟨_, _, rfl, rfl, m.1, fin _ _ (.int _) m.2⟩
    · rename_i xs0 k0 _
      obtain ⟨a, vs, rfl, ha, ra⟩ := r1.tup_inv
      cases r2
      obtain ⟨m1, m2, m3, m4⟩ := m
      refine op_repAny pins s σ H _ _ v u Q I rx ry ⟨a, _, vs, rfl, rfl, sqT_same sF ha, m1, m2, by rw [ra.length]; exact m3, fun e => ?_, fun e1 e2 p hp => ?_⟩
      · refine k _ F _ H (Grow.refl sF) (.tup ha ra) ?_
        rcases e with e | e
        · subst e
          cases ra
          have z : ∀ n : Nat, (List.replicate n ([] : List D)).flatten = [] := fun n => by induction n with
            | zero => rfl
            | succ n ih => rw [List.replicate_succ, List.flatten_cons, ih]; rfl
          rw [z] at m4; exact m4
        · rw [e] at m4
          have z : ∀ l : List D, (List.replicate (Int.toNat 1) l).flatten = l := fun l => List.append_nil l
          rw [z] at m4; exact m4
      · have g := Grow.new (o := HO.tup (List.replicate (Int.toNat k0) vs).flatten) sF hp
        exact k _ _ _ _ g (.tup (SqT.of upd_same) ((ra.flatten _).mono g.ff)) m4
    · rename_i xs0 k0 _
      obtain ⟨a, vs, rfl, ha, ra⟩ := r1.lst_inv
      cases r2
      obtain ⟨m1, m2, m3, m4⟩ := m
      refine op_rep pins s σ H _ _ v u Q I rx ry ⟨a, _, vs, rfl, rfl, sF _ _ ha, m1, m2, by rw [ra.length]; exact m3, fun p hp => ?_⟩
      have g := Grow.new (o := HO.lst (List.replicate (Int.toNat k0) vs).flatten) sF hp
      exact k _ _ _ _ g (.lst upd_same ((ra.flatten _).mono g.ff)) m4
    · exact m.elim
  | fdiv =>
    unfold binR at m
    split at m
    all_goals first | (rename_i hh; cases hh; done) | skip
    · cases r1; cases r2; exact op_fdiv pins s σ H _ _ v u Q I rx ry ⟨_, _, rfl, rfl, m.1, fin _ _ (.int _) m.2⟩
    · exact m.elim
  | mod =>
    unfold binR at m
    split at m
    all_goals first | (rename_i hh; cases hh; done) | skip
    · cases r1; cases r2; exact op_mod pins s σ H _ _ v u Q I rx ry ⟨_, _, rfl, rfl, m.1, fin _ _ (.int _) m.2⟩
    · exact m.elim
  | pow =>
    unfold binR at m
    split at m
    all_goals first | (rename_i hh; cases hh; done) | skip
    · cases r1; cases r2; exact op_pow pins s σ H _ _ v u Q I rx ry ⟨_, _, rfl, rfl, m.1, fin _ _ (.int _) m.2⟩
    · exact m.elim
  | shl =>
    unfold binR at m
    split at m
    all_goals first | (rename_i hh; cases hh; done) | skip
    · cases r1; cases r2; exact op_shl pins s σ H _ _ v u Q I rx ry ⟨_, _, rfl, rfl, m.1, fin _ _ (.int _) m.2⟩
    · exact m.elim
end
end M61

set_option Elab.async false
set_option linter.all false
set_option autoImplicit false
set_option maxRecDepth 100000
/-! M3b: comparisons, truth, items, slices, built-ins. -/
namespace M61
open PySem PySem.Spec PyProof.Rows L2
section
variable {X : Cx}
theorem reps_ints {K : PySem.W.Frag} {F : Hp} : ∀ {vs : List V} {ds : List D} {ns : List Int}, Reps K F vs ds → intsOf ds = some ns → vs = ns.map V.int
  | _, _, ns, .nil, h => by cases h; rfl
  | _, _, ns, .cons (d := d) (ds := ds) r t, h => by
    cases d <;> first | (cases h; done) | skip
    rename_i i
    cases r
    unfold intsOf at h
    cases e : intsOf ds with
    | none => rw [e] at h; cases h
    | some ms =>
      rw [e] at h
      cases h
      rw [reps_ints t e]; rfl
def copOf : Cop → CmpOp
  | .eq => .Eq | .ne => .NotEq | .lt => .Lt | .le => .LtE | .gt => .Gt | .ge => .GtE | .is => .Is | .isn => .IsNot | .inn => .In | .nin => .NotIn
theorem atI_getD {xs : List V} {ds : List D} {K : PySem.W.Frag} {F : Hp} (r : Reps K F xs ds) {i : Int} {d : D} (h : atI ds i = some d) : ∃ v, atI xs i = some v ∧ Rep K F v d := by
  unfold atI at h ⊢
  rw [r.length]
  cases e : ixN ds.length i with
  | none => rw [e] at h; cases h
  | some j =>
    rw [e] at h
    obtain ⟨v, hv, rv⟩ := r.getD (i := j) h
    exact ⟨v, hv, rv⟩
theorem flatV_of {K : PySem.W.Frag} {F : Hp} {v : V} {d : D} (r : Rep K F v d) (h : d.flat = true) : flatV v = true := by
  cases r <;> first | rfl | cases h
theorem eqV_of {K : PySem.W.Frag} {F : Hp} {v u : V} {d e : D} (r : Rep K F v d) (h : d.flat = true) (q : Rep K F u e) (h2 : e.flat = true) : eqV v u = d.eqv e := by
  cases r <;> cases q <;> first | (cases h; done) | (cases h2; done) | rfl
theorem flatAll_of {K : PySem.W.Frag} {F : Hp} : ∀ {vs : List V} {ds : List D}, Reps K F vs ds → ds.all D.flat = true → vs.all flatV = true
  | _, _, .nil, _ => rfl
  | _, _, .cons r t, h => by
    rw [List.all_cons, Bool.and_eq_true] at h ⊢
    exact ⟨flatV_of r h.1, flatAll_of t h.2⟩
theorem anyEq_of {K : PySem.W.Frag} {F : Hp} {u : V} {e : D} (q : Rep K F u e) (h2 : e.flat = true) : ∀ {vs : List V} {ds : List D}, Reps K F vs ds → ds.all D.flat = true → inV u vs = ds.any fun z => z.eqv e
  | _, _, .nil, _ => rfl
  | _, _, .cons r t, h => by
    rw [List.all_cons, Bool.and_eq_true] at h
    have ih := anyEq_of q h2 t h.2
    unfold inV at ih ⊢
    rw [List.any_cons, List.any_cons, ih, eqV_of r h.1 q h2]
theorem pys_any (d : D) : ∀ ds : List D, ((D.pys ds).any fun z => PyData.eqv z d.py) = ds.any fun z => z.eqv d
  | [] => rfl
  | x :: xs => by
    show (PyData.eqv x.py d.py || (D.pys xs).any fun z => PyData.eqv z d.py) = _
    rw [pys_any d xs]; rfl

theorem s_cmp (hr : Room 0 X.A) (o : Cop) : OpR X (compareOp (copOf o)) (lift2 X.K fun d e P => cmpR o d e fun b => P (.bl b)) := by
  intro pins s σ H x y v u Q I rx ry ⟨F, dx, dy, P, sF, r1, r2, m, k⟩
  have fin : ∀ b, P (.bl b) → Q (.bl b) H := fun b p => k (.bl b) F _ H (Grow.refl sF) (.bl b) p
  have hu : X.A.units + 64 < cLine := hr.units
  have hu2 : X.A.units + 65 < cLine := by have := hr.un; omega
  have r1' := r1.mono sF
  have r2' := r2.mono sF
  cases o with
  | eq =>
    obtain ⟨m1, m2, m3⟩ := m
    exact op_eqD hu pins s σ H _ _ v u Q I rx ry ⟨_, _, rep_dp r1' m1.1, rep_dp r2' m2.1, m1.2, m2.2, fin _ m3⟩
  | ne =>
    obtain ⟨m1, m2, m3⟩ := m
    exact op_neD hu pins s σ H _ _ v u Q I rx ry ⟨_, _, rep_dp r1' m1.1, rep_dp r2' m2.1, m1.2, m2.2, fin _ m3⟩
  | lt =>
    unfold cmpR at m
    split at m
    all_goals first | (rename_i hh; cases hh; done) | skip
    · cases r1; cases r2; exact op_lt pins s σ H _ _ v u Q I rx ry ⟨_, _, rfl, rfl, fin _ m⟩
    · obtain ⟨ns, ms, h1, h2, p⟩ := m
      obtain ⟨a, vs, rfl, ha, ra⟩ := r1'.tup_inv
      obtain ⟨b, ws, rfl, hb, rb⟩ := r2'.tup_inv
      have e1 := reps_ints ra h1
      have e2 := reps_ints rb h2
      subst e1 e2
      exact op_ltT (by omega) pins s σ H _ _ v u Q I rx ry ⟨_, _, _, _, rfl, rfl, ha, hb, fin _ p⟩
    · exact m.elim
  | le =>
    unfold cmpR at m
    split at m
    all_goals first | (rename_i hh; cases hh; done) | skip
    · cases r1; cases r2; exact op_le pins s σ H _ _ v u Q I rx ry ⟨_, _, rfl, rfl, fin _ m⟩
    · exact m.elim
  | gt =>
    unfold cmpR at m
    split at m
    all_goals first | (rename_i hh; cases hh; done) | skip
    · cases r1; cases r2; exact op_gt pins s σ H _ _ v u Q I rx ry ⟨_, _, rfl, rfl, fin _ m⟩
    · exact m.elim
  | ge =>
    unfold cmpR at m
    split at m
    all_goals first | (rename_i hh; cases hh; done) | skip
    · cases r1; cases r2; exact op_ge pins s σ H _ _ v u Q I rx ry ⟨_, _, rfl, rfl, fin _ m⟩
    · exact m.elim
  | is =>
    unfold cmpR at m
    split at m
    all_goals first | (rename_i hh; cases hh; done) | skip
    · cases r2
      refine op_isN pins s σ H _ _ v u Q I rx ry ⟨rfl, ?_⟩
      have e : ∀ {d : D}, Rep X.K F x d → decide (x = V.non) = d.isNon := fun r => by cases r <;> simp [D.isNon]
      rw [e r1]
      exact fin _ m
    · cases r1; cases r2; exact op_is_bl pins s σ H _ _ v u Q I rx ry ⟨_, _, rfl, rfl, fin _ m⟩
    · exact m.elim
  | isn =>
    unfold cmpR at m
    split at m
    all_goals first | (rename_i hh; cases hh; done) | skip
    · cases r2
      refine op_notN pins s σ H _ _ v u Q I rx ry ⟨rfl, ?_⟩
      have e : ∀ {d : D}, Rep X.K F x d → decide (x = V.non) = d.isNon := fun r => by cases r <;> simp [D.isNon]
      rw [e r1]
      exact fin _ m
    · cases r1; cases r2; exact op_isnot_bl pins s σ H _ _ v u Q I rx ry ⟨_, _, rfl, rfl, fin _ m⟩
    · exact m.elim
  | inn =>
    unfold cmpR at m
    split at m
    all_goals first | (rename_i hh; cases hh; done) | skip
    · obtain ⟨a, xs, rfl, ha, ra⟩ := r2.tup_inv
      refine op_in_seq pins s σ H _ _ v u Q I rx ry ⟨a, xs, rfl, .inr (sqT_same sF ha), flatV_of r1 m.1, flatAll_of ra m.2.1, ?_⟩
      simp only [Bool.false_eq_true, if_false]
      rw [anyEq_of r1 m.1 ra m.2.1]
      exact fin _ m.2.2
    · obtain ⟨a, xs, rfl, ha, ra⟩ := r2.lst_inv
      refine op_inD hu2 pins s σ H _ _ v u Q I rx ry ⟨_, _, rep_dp r1' m.1.1, rep_dp r2' m.2.1.1, m.1.2, m.2.1.2, ?_⟩
      rw [pys_any]
      exact fin _ m.2.2
    · cases r1; cases r2
      obtain ⟨c, rfl, m⟩ := m
      exact op_in_sign pins s σ H _ _ v u Q I rx ry ⟨c, _, rfl, rfl, fin _ m⟩
    · exact m.elim
  | nin =>
    unfold cmpR at m
    split at m
    all_goals first | (rename_i hh; cases hh; done) | skip
    · obtain ⟨a, xs, rfl, ha, ra⟩ := r2.tup_inv
      refine op_notIn_seq pins s σ H _ _ v u Q I rx ry ⟨a, xs, rfl, .inr (sqT_same sF ha), flatV_of r1 m.1, flatAll_of ra m.2.1, ?_⟩
      simp only [if_true]
      rw [anyEq_of r1 m.1 ra m.2.1]
      exact fin _ m.2.2
    · obtain ⟨a, xs, rfl, ha, ra⟩ := r2.lst_inv
      refine op_notInD hu2 pins s σ H _ _ v u Q I rx ry ⟨_, _, rep_dp r1' m.1.1, rep_dp r2' m.2.1.1, m.1.2, m.2.1.2, ?_⟩
      rw [pys_any]
      exact fin _ m.2.2
    · cases r1; cases r2
      obtain ⟨c, rfl, m⟩ := m
      exact op_notIn_sign pins s σ H _ _ v u Q I rx ry ⟨c, _, rfl, rfl, fin _ m⟩
    · exact m.elim

theorem reps_empty {K : PySem.W.Frag} {F : Hp} : ∀ {vs : List V} {ds : List D}, Reps K F vs ds → vs.isEmpty = ds.isEmpty
  | _, _, .nil => rfl
  | _, _, .cons _ _ => rfl
/-- truth -/
theorem tru_of {F H : Hp} {x : V} {d : D} {P : Bool → Prop} (sF : Same F H) (r : Rep X.K F x d) (m : truD d P) : ∃ k, TruV X.K x H k ∧ P k := by
  unfold truD at m
  split at m
  · cases r; exact ⟨_, rfl, m⟩
  · cases r; exact ⟨_, rfl, m⟩
  · cases r; exact ⟨_, rfl, m⟩
  · cases r; exact ⟨_, ⟨m.1, rfl⟩, m.2⟩
  · obtain ⟨a, xs, rfl, ha, ra⟩ := r.tup_inv
    refine ⟨_, .inr (.inl ⟨xs, sqT_same sF ha, rfl⟩), ?_⟩
    rw [reps_empty ra]; exact m
  · obtain ⟨a, xs, rfl, ha, ra⟩ := r.lst_inv
    refine ⟨_, .inl ⟨xs, .of (sF _ _ ha), rfl⟩, ?_⟩
    rw [reps_empty ra]; exact m
  · exact m.elim

/-- items -/
def liftI (K : PySem.W.Frag) : R2 := fun x y H Q => ∃ (F : Hp) (dx dy : D) (C : CM) (P : D → Prop), Cells K F H C ∧ Rep K F x dx ∧ Rep K F y dy ∧ itemR C dx dy P ∧ ∀ d v, Rep K F v d → P d → Q v H
theorem ix_or {X : Cx} : IxR X (liftI X.K) := by
  intro value slice pins s σ H x y v u Q I rx ry ⟨F, dx, dy, C, P, ce, r1, r2, m, k⟩ hs
  have sF := ce.fh
  unfold itemR at m
  split at m
  · cases r2
    obtain ⟨a, xs, rfl, ha, ra⟩ := r1.tup_inv
    obtain ⟨d, hd, p⟩ := m
    obtain ⟨w, hw, rw'⟩ := atI_getD ra hd
    exact ix_tup value slice pins s σ H _ _ v u Q I rx ry ⟨a, xs, _, w, rfl, rfl, sqT_same sF ha, hw, k d w rw' p⟩ hs
  · cases r2
    obtain ⟨a, xs, rfl, ha, ra⟩ := r1.lst_inv
    obtain ⟨d, hd, p⟩ := m
    obtain ⟨w, hw, rw'⟩ := atI_getD ra hd
    exact ix_list value slice pins s σ H _ _ v u Q I rx ry ⟨a, xs, _, w, rfl, rfl, .of (sF _ _ ha), hw, k d w rw' p⟩ hs
  · cases r1; cases r2
    obtain ⟨m1, c, hc, p⟩ := m
    exact ix_str value slice pins s σ H _ _ v u Q I rx ry ⟨_, _, c, rfl, rfl, m1, hc, k _ _ (.str _) p⟩ hs
  · cases r2
    obtain ⟨a, xs, rfl, ha, ra⟩ := r1.scr_inv
    obtain ⟨d, hd, p⟩ := m
    obtain ⟨w, hw, rw'⟩ := atI_getD ra hd
    exact ix_list value slice pins s σ H _ _ v u Q I rx ry ⟨a, xs, _, w, rfl, rfl, sqL_same sF ha, hw, k d w rw' p⟩ hs
  · rename_i a
    cases r1
    obtain ⟨d, hd, p⟩ := m
    unfold cellAt at hd
    split at hd
    · rename_i xs i hc
      cases r2
      obtain ⟨vs, hv, rv⟩ := (ce.cel _ _ hc).1
      obtain ⟨w, hw, rw'⟩ := atI_getD rv hd
      exact ix_list value slice pins s σ H _ _ v u Q I rx ry ⟨_, vs, _, w, rfl, rfl, .of hv, hw, k d w rw' p⟩ hs
    · cases hd
  · exact m.elim

/-- slices -/
theorem cut_of {K : PySem.W.Frag} {F : Hp} {xs : List V} {ds : List D} (r : Reps K F xs ds) (lo hi : Option Int) : Reps K F (cutV xs lo hi) (cutD ds lo hi) := by
  unfold cutV cutD
  rw [r.length]
  exact (r.drop _).take _
def liftSl (K : PySem.W.Frag) : V → Option Int → Option Int → Hp → VK → Prop := fun x lo hi H Q => ∃ (F : Hp) (C : CM) (dx : D) (P : D → Prop), Cells K F H C ∧ Rep K F x dx ∧ sliceR C dx lo hi P ∧ ∀ d F' v H', Grow F H F' H' → Rep K F' v d → P d → Q v H'
theorem s_sl : SlR X (liftSl X.K) := by
  intro pins s σ H x v vl vu lo hi sl Q I rx hs pl pu ⟨F, C, dx, P, ce, r1, m, k⟩
  have sF := ce.fh
  unfold sliceR at m
  split at m
  · obtain ⟨a, xs, rfl, ha, ra⟩ := r1.tup_inv
    refine sl_tupA pins s σ H _ v vl vu lo hi sl Q I rx hs pl pu ⟨a, xs, rfl, sqT_same sF ha, fun e => ?_, fun e p hp => ?_⟩
    · refine k _ F _ H (Grow.refl sF) (.tup ha ra) ?_
      have z : cutV xs lo hi = xs := by unfold cutV; rw [e.1, e.2]; simp
      have z2 := cut_of ra lo hi
      rw [z] at z2
      have z3 : ∀ {ds es : List D}, ds.length = xs.length → es = cutD ds lo hi → es = ds := fun h1 h2 => by
        rw [h2]; unfold cutD; rw [h1, e.1, e.2]; simp [← h1]
      rw [← z3 ra.length.symm rfl]; exact m
    · have g := Grow.new (o := HO.tup (cutV xs lo hi)) sF hp
      exact k _ _ _ _ g (.tup (SqT.of upd_same) ((cut_of ra lo hi).mono g.ff)) m
  · obtain ⟨a, xs, rfl, ha, ra⟩ := r1.lst_inv
    refine sl_list pins s σ H _ v vl vu lo hi sl Q I rx hs pl pu ⟨a, xs, rfl, .of (sF _ _ ha), fun p hp => ?_⟩
    have g := Grow.new (o := HO.lst (cutV xs lo hi)) sF hp
    exact k _ _ _ _ g (.lst upd_same ((cut_of ra lo hi).mono g.ff)) m
  · obtain ⟨a, xs, rfl, ha, ra⟩ := r1.scr_inv
    refine sl_list pins s σ H _ v vl vu lo hi sl Q I rx hs pl pu ⟨a, xs, rfl, sqL_same sF ha, fun p hp => ?_⟩
    have g := Grow.new (o := HO.lst (cutV xs lo hi)) sF hp
    exact k _ _ _ _ g (.lst upd_same ((cut_of ra lo hi).mono g.ff)) m
  · obtain ⟨ys, hc, m⟩ := m
    cases r1
    obtain ⟨xs, ha, ra⟩ := (ce.cel _ _ hc).1
    refine sl_list pins s σ H _ v vl vu lo hi sl Q I rx hs pl pu ⟨_, xs, rfl, .of ha, fun p hp => ?_⟩
    have g := Grow.new (o := HO.lst (cutV xs lo hi)) sF hp
    exact k _ _ _ _ g (.lst upd_same ((cut_of ra lo hi).mono g.ff)) m
  · exact m.elim
end
end M61

set_option Elab.async false
set_option linter.all false
set_option autoImplicit false
set_option maxRecDepth 100000
/-! M3c: built-ins by values. -/
namespace M61
open PySem PySem.Spec PyProof.Rows L2
def liftB (K : PySem.W.Frag) (r : CM → List D → (D → Prop) → Prop) : List V → Hp → VK → Prop := fun xs H Q => ∃ (F : Hp) (ds : List D) (C : CM) (P : D → Prop), Cells K F H C ∧ Reps K F xs ds ∧ r C ds P ∧
  ∀ d F' v H', Grow F H F' H' → Rep K F' v d → P d → Q v H'
theorem reps_bools {K : PySem.W.Frag} {F : Hp} : ∀ {vs : List V} {ds : List D} {ns : List Bool}, Reps K F vs ds → boolsOf ds = some ns → vs = ns.map V.bl
  | _, _, ns, .nil, h => by cases h; rfl
  | _, _, ns, .cons (d := d) (ds := ds) r t, h => by
    cases d <;> first | (cases h; done) | skip
    rename_i i
    cases r
    unfold boolsOf at h
    cases e : boolsOf ds with
    | none => rw [e] at h; cases h
    | some ms =>
      rw [e] at h
      cases h
      rw [reps_bools t e]; rfl
theorem rep_ints {K : PySem.W.Frag} {F : Hp} : ∀ ns : List Int, Reps K F (ns.map V.int) (ns.map D.int)
  | [] => .nil
  | n :: ns => .cons (.int n) (rep_ints ns)
theorem alike_ints (ns : List Int) : PySem.W.AlikeAll (ns.map PyData.int) := by
  refine ⟨fun x hx y hy => ?_, fun x hx => ?_⟩
  · obtain ⟨i, _, rfl⟩ := List.mem_map.mp hx
    obtain ⟨j, _, rfl⟩ := List.mem_map.mp hy
    rfl
  · obtain ⟨i, _, rfl⟩ := List.mem_map.mp hx
    exact fun e => nomatch e
theorem depth_ints : ∀ ns : List Int, PyData.depthAll (ns.map PyData.int) = 0
  | [] => rfl
  | n :: ns => by
    show max (PyData.depth (.int n)) (PyData.depthAll (ns.map PyData.int)) = 0
    rw [depth_ints ns]; rfl

section
variable {X : Cx}
/-- a list or tuple of ints: as the heap has it -/
theorem seq_ints {pins : List (Addr × Obj)} {σ : L2.St} {H : Hp} {s : Shared} {F : Hp} {C : CM} {v : V} {d : D} {xs : List D} {ns : List Int} (I : L2.Inv X pins σ H s) (ce : Cells X.K F H C) (r : Rep X.K F v d) (h1 : seqD C d = some xs) (h2 : intsOf xs = some ns) :
    ∃ a, v = .ref a ∧ ∃ its : List Value, IntsAre its ns ∧ (s.heap.IsList a its.toArray ∨ s.heap.IsTuple a its.toArray) := by
  have sF := ce.fh
  unfold seqD at h1
  split at h1
  · cases h1
    obtain ⟨a, vs, rfl, ha, ra⟩ := r.tup_inv
    obtain ⟨its, rv, ht, _⟩ := I.tuple (sqT_same sF ha)
    rw [reps_ints ra h2] at rv
    exact ⟨a, rfl, its, rv.ints, .inr ht⟩
  · cases h1
    obtain ⟨a, vs, rfl, ha, ra⟩ := r.lst_inv
    obtain ⟨its, rv, ht, _⟩ := I.list (.of (sF _ _ ha))
    rw [reps_ints ra h2] at rv
    exact ⟨a, rfl, its, rv.ints, .inl ht.isList⟩
  · cases r
    unfold cellL at h1
    split at h1
    · rename_i hc
      cases h1
      obtain ⟨vs, ha, ra⟩ := (ce.cel _ _ hc).1
      obtain ⟨its, rv, ht, _⟩ := I.list (.of ha)
      rw [reps_ints ra h2] at rv
      exact ⟨_, rfl, its, rv.ints, .inl ht.isList⟩
    · cases h1
  · cases h1

theorem c_len : CallR X (.builtin "len") (liftB X.K fun C ds P => bltR C .len ds P) := by
  intro pins s σ H xs us Q I r ⟨F, ds, C, P, ce, rs, m, k⟩
  have sF := ce.fh
  have fin : ∀ n : Nat, P (.int n) → Q (.int n) H := fun n p => k _ F _ H (Grow.refl sF) (.int _) p
  unfold bltR at m
  dsimp only at m
  split at m
  all_goals first | (rename_i hh; cases hh; done) | skip
  · cases rs with
    | cons r1 rr =>
      cases rr
      cases r1
      obtain ⟨ys, hc, p⟩ := m
      obtain ⟨vs, hv, rv⟩ := (ce.cel _ _ hc).1
      rw [← rv.length] at p
      exact call_len_seq pins s σ H _ us Q I r ⟨_, vs, rfl, .inl (.of hv), fin _ p⟩
  · cases rs with
    | cons r1 rr =>
      cases rr
      cases r1
      exact call_len pins s σ H _ us Q I r ⟨_, _, rfl, ⟨m.1, rfl⟩, fin _ m.2⟩
  · cases rs with
    | cons r1 rr =>
      cases rr
      obtain ⟨n, hn, p⟩ := m
      unfold lenD at hn
      split at hn
      · cases hn
        obtain ⟨a, vs, rfl, ha, ra⟩ := r1.tup_inv
        rw [← ra.length] at p
        exact call_len_seq pins s σ H _ us Q I r ⟨_, vs, rfl, .inr (sqT_same sF ha), fin _ p⟩
      · cases hn
        obtain ⟨a, vs, rfl, ha, ra⟩ := r1.lst_inv
        rw [← ra.length] at p
        exact call_len_seq pins s σ H _ us Q I r ⟨_, vs, rfl, .inl (.of (sF _ _ ha)), fin _ p⟩
      · cases hn
        obtain ⟨a, vs, rfl, ha, ra⟩ := r1.scr_inv
        rw [← ra.length] at p
        exact call_len_seq pins s σ H _ us Q I r ⟨_, vs, rfl, .inl (sqL_same sF ha), fin _ p⟩
      · cases hn
  · exact m.elim
theorem c_tuple : CallR X (.type "tuple") (liftB X.K fun C ds P => bltR C .tuple ds P) := by
  intro pins s σ H xs us Q I r ⟨F, ds, C, P, ce, rs, m, k⟩
  have sF := ce.fh
  unfold bltR at m
  dsimp only at m
  split at m
  all_goals first | (rename_i hh; cases hh; done) | skip
  · cases rs with
    | cons r1 rr =>
      cases rr
      obtain ⟨ys, hn, p⟩ := m
      unfold seqD at hn
      split at hn
      · cases hn
        obtain ⟨a, vs, rfl, ha, ra⟩ := r1.tup_inv
        exact call_tuple_of pins s σ H _ us Q I r ⟨_, vs, rfl, .inr ⟨sqT_same sF ha, k _ F _ H (Grow.refl sF) (.tup ha ra) p⟩⟩
      · cases hn
        obtain ⟨a, vs, rfl, ha, ra⟩ := r1.lst_inv
        refine call_tuple_of pins s σ H _ us Q I r ⟨_, vs, rfl, .inl ⟨.of (sF _ _ ha), fun q hq => ?_⟩⟩
        have g := Grow.new (o := HO.tup vs) sF hq
        exact k _ _ _ _ g (.tup (SqT.of upd_same) (ra.mono g.ff)) p
      · cases r1
        unfold cellL at hn
        split at hn
        · rename_i hc
          cases hn
          obtain ⟨vs, ha, ra⟩ := (ce.cel _ _ hc).1
          refine call_tuple_of pins s σ H _ us Q I r ⟨_, vs, rfl, .inl ⟨.of ha, fun q hq => ?_⟩⟩
          have g := Grow.new (o := HO.tup vs) sF hq
          exact k _ _ _ _ g (.tup (SqT.of upd_same) (ra.mono g.ff)) p
        · cases hn
      · cases hn
  · exact m.elim
theorem c_sum (hc : X.calm = true) : CallR X (.builtin "sum") (liftB X.K fun C ds P => bltR C .sum ds P) := by
  intro pins s σ H xs us Q I r ⟨F, ds, C, P, ce, rs, m, k⟩
  have sF := ce.fh
  have fin : ∀ n : Int, P (.int n) → Q (.int n) H := fun n p => k _ F _ H (Grow.refl sF) (.int _) p
  unfold bltR at m
  dsimp only at m
  split at m
  all_goals first | (rename_i hh; cases hh; done) | skip
  · cases rs with
    | cons r1 rr =>
      cases rr
      obtain ⟨ys, ns, h1, h2, p⟩ := m
      obtain ⟨a, rfl, its, hi, hl⟩ := seq_ints I ce r1 h1 h2
      rw [Vals.ref1 r]
      rcases hl with hl | hl
      · exact sum_raw (I.ok.hd hc) hl hi fun h' tk t' hk => ⟨.int _, H, I.kept hk, ⟨_, rfl⟩, fin _ p⟩
      · obtain ⟨zs, e⟩ := hi.allInts.items
        have hn : numsOf (intItems zs).toList = ns := by rw [← e]; exact hi.numsOf
        rw [nums_intItems] at hn
        rw [e] at hl
        refine PySem.W.ktm_sumG (I.ok.hd hc) hl fun h' tk t' hk => ⟨.int ns.sum, H, I.kept hk, ?_, fin _ p⟩
        rw [preSum_eq, List.take_of_length_le (by simp), hn]
        exact ⟨_, rfl⟩
  · exact m.elim
theorem c_max (hc : X.calm = true) (hr : Room 0 X.A) : CallR X (.builtin "max") (liftB X.K fun C ds P => bltR C .max ds P) := by
  intro pins s σ H xs us Q I r ⟨F, ds, C, P, ce, rs, m, k⟩
  have sF := ce.fh
  have fin : ∀ n : Int, P (.int n) → Q (.int n) H := fun n p => k _ F _ H (Grow.refl sF) (.int _) p
  have hu : X.A.units + 1 < cLine := by have := hr.un; omega
  unfold bltR at m
  dsimp only at m
  split at m
  all_goals first | (rename_i hh; cases hh; done) | skip
  · cases rs with
    | cons r1 rr =>
      cases rr
      obtain ⟨ys, ns, h1, h2, h3, p⟩ := m
      obtain ⟨a, rfl, its, hi, hl⟩ := seq_ints I ce r1 h1 h2
      rw [Vals.ref1 r]
      cases ns with
      | nil => exact absurd rfl h3
      | cons n ns =>
        have hR := hi.reads s.heap
        rw [List.map_cons] at hR
        have hA : PySem.W.AlikeAll (PyData.int n :: ns.map PyData.int) := alike_ints (n :: ns)
        have hD : X.A.units + 1 + PyData.depthAll (PyData.int n :: ns.map PyData.int) < cLine := by
          have := depth_ints (n :: ns)
          rw [List.map_cons] at this
          rw [this]; exact hu
        rcases hl with hl | hl
        · refine PySem.W.max_list_data (I.ok.hd hc) hl (by simpa using hR) hA hD fun i v h' tk bs hv rd hk => ?_
          rw [PySem.W.maxD_ints] at rd
          obtain ⟨t, rfl, _⟩ := reads_int_inv rd
          exact ⟨.int _, H, I.kept hk, ⟨_, rfl⟩, fin _ p⟩
        · refine PySem.W.max_tuple_data (I.ok.hd hc) hl (by simpa using hR) hA hD fun i v h' tk bs hv rd hk => ?_
          rw [PySem.W.maxD_ints] at rd
          obtain ⟨t, rfl, _⟩ := reads_int_inv rd
          exact ⟨.int _, H, I.kept hk, ⟨_, rfl⟩, fin _ p⟩
  · exact m.elim
theorem c_min (hc : X.calm = true) (hr : Room 0 X.A) : CallR X (.builtin "min") (liftB X.K fun C ds P => bltR C .min ds P) := by
  intro pins s σ H xs us Q I r ⟨F, ds, C, P, ce, rs, m, k⟩
  have sF := ce.fh
  have fin : ∀ n : Int, P (.int n) → Q (.int n) H := fun n p => k _ F _ H (Grow.refl sF) (.int _) p
  have hu : X.A.units + 1 < cLine := by have := hr.un; omega
  unfold bltR at m
  dsimp only at m
  split at m
  all_goals first | (rename_i hh; cases hh; done) | skip
  · cases rs with
    | cons r1 rr =>
      cases rr
      obtain ⟨ys, ns, h1, h2, h3, p⟩ := m
      obtain ⟨a, rfl, its, hi, hl⟩ := seq_ints I ce r1 h1 h2
      rw [Vals.ref1 r]
      cases ns with
      | nil => exact absurd rfl h3
      | cons n ns =>
        have hR := hi.reads s.heap
        rw [List.map_cons] at hR
        have hA : PySem.W.AlikeAll (PyData.int n :: ns.map PyData.int) := alike_ints (n :: ns)
        have hD : X.A.units + 1 + PyData.depthAll (PyData.int n :: ns.map PyData.int) < cLine := by
          have := depth_ints (n :: ns)
          rw [List.map_cons] at this
          rw [this]; exact hu
        rcases hl with hl | hl
        · refine PySem.W.min_list_data (I.ok.hd hc) hl (by simpa using hR) hA hD fun i v h' tk bs hv rd hk => ?_
          rw [PySem.W.minD_ints] at rd
          obtain ⟨t, rfl, _⟩ := reads_int_inv rd
          exact ⟨.int _, H, I.kept hk, ⟨_, rfl⟩, fin _ p⟩
        · refine PySem.W.min_tuple_data (I.ok.hd hc) hl (by simpa using hR) hA hD fun i v h' tk bs hv rd hk => ?_
          rw [PySem.W.minD_ints] at rd
          obtain ⟨t, rfl, _⟩ := reads_int_inv rd
          exact ⟨.int _, H, I.kept hk, ⟨_, rfl⟩, fin _ p⟩
  · exact m.elim
theorem c_min2 (hc : X.calm = true) : CallR X (.builtin "min") (liftB X.K fun C ds P => bltR C .min2 ds P) := by
  intro pins s σ H xs us Q I r ⟨F, ds, C, P, ce, rs, m, k⟩
  have sF := ce.fh
  unfold bltR at m
  dsimp only at m
  split at m
  all_goals first | (rename_i hh; cases hh; done) | skip
  · cases rs with
    | cons r1 rr =>
      cases rr with
      | cons r2 rr =>
        cases rr; cases r1; cases r2
        exact call_min2 hc pins s σ H _ us Q I r ⟨_, _, rfl, k _ F _ H (Grow.refl sF) (.int _) m⟩
  · exact m.elim
theorem c_max2 (hc : X.calm = true) : CallR X (.builtin "max") (liftB X.K fun C ds P => bltR C .max2 ds P) := by
  intro pins s σ H xs us Q I r ⟨F, ds, C, P, ce, rs, m, k⟩
  have sF := ce.fh
  unfold bltR at m
  dsimp only at m
  split at m
  all_goals first | (rename_i hh; cases hh; done) | skip
  · cases rs with
    | cons r1 rr =>
      cases rr with
      | cons r2 rr =>
        cases rr; cases r1; cases r2
        exact call_max2 hc pins s σ H _ us Q I r ⟨_, _, rfl, k _ F _ H (Grow.refl sF) (.int _) m⟩
  · exact m.elim
theorem c_abs : CallR X (.builtin "abs") (liftB X.K fun C ds P => bltR C .abs ds P) := by
  intro pins s σ H xs us Q I r ⟨F, ds, C, P, ce, rs, m, k⟩
  have sF := ce.fh
  unfold bltR at m
  dsimp only at m
  split at m
  all_goals first | (rename_i hh; cases hh; done) | skip
  · cases rs with
    | cons r1 rr =>
      cases rr; cases r1
      exact call_abs pins s σ H _ us Q I r ⟨_, rfl, k _ F _ H (Grow.refl sF) (.int _) m⟩
  · exact m.elim
theorem c_int : CallR X (.type "int") (liftB X.K fun C ds P => bltR C .int ds P) := by
  intro pins s σ H xs us Q I r ⟨F, ds, C, P, ce, rs, m, k⟩
  have sF := ce.fh
  unfold bltR at m
  dsimp only at m
  split at m
  all_goals first | (rename_i hh; cases hh; done) | skip
  · cases rs with
    | cons r1 rr =>
      cases rr; cases r1
      exact call_int1 pins s σ H _ us Q I r (.inl ⟨_, rfl, k _ F _ H (Grow.refl sF) (.int _) m⟩)
  · cases rs with
    | cons r1 rr =>
      cases rr; cases r1
      exact call_int1 pins s σ H _ us Q I r (.inr ⟨_, rfl, k _ F _ H (Grow.refl sF) (.int _) m⟩)
  · exact m.elim
theorem c_all (hc : X.calm = true) : CallR X (.builtin "all") (liftB X.K fun C ds P => bltR C .all ds P) := by
  intro pins s σ H xs us Q I r ⟨F, ds, C, P, ce, rs, m, k⟩
  have sF := ce.fh
  unfold bltR at m
  dsimp only at m
  split at m
  all_goals first | (rename_i hh; cases hh; done) | skip
  · cases rs with
    | cons r1 rr =>
      cases rr
      obtain ⟨bs, h2, p⟩ := m
      obtain ⟨a, vs, rfl, ha, ra⟩ := r1.lst_inv
      rw [reps_bools ra h2] at ha
      exact cr_all hc pins s σ H _ us Q I r ⟨a, bs, rfl, .of (sF _ _ ha), k _ F _ H (Grow.refl sF) (.bl _) p⟩
  · exact m.elim
theorem c_any (hc : X.calm = true) : CallR X (.builtin "any") (liftB X.K fun C ds P => bltR C .any ds P) := by
  intro pins s σ H xs us Q I r ⟨F, ds, C, P, ce, rs, m, k⟩
  have sF := ce.fh
  unfold bltR at m
  dsimp only at m
  split at m
  all_goals first | (rename_i hh; cases hh; done) | skip
  · cases rs with
    | cons r1 rr =>
      cases rr
      obtain ⟨bs, h2, p⟩ := m
      obtain ⟨a, vs, rfl, ha, ra⟩ := r1.lst_inv
      rw [reps_bools ra h2] at ha
      exact cr_any hc pins s σ H _ us Q I r ⟨a, bs, rfl, .of (sF _ _ ha), k _ F _ H (Grow.refl sF) (.bl _) p⟩
  · exact m.elim

def tyName : Ty → String
  | .int => "int" | .bool => "bool" | .tuple => "tuple" | .list => "list" | .str => "str" | .dict => "dict"
/-- isinstance(x, T) -/
def liftIs (K : PySem.W.Frag) (t : Ty) : List V → Hp → VK → Prop := fun xs H Q => ∃ (F : Hp) (v : V) (d : D) (b : Bool), xs = [v, .ty (tyName t)] ∧ Same F H ∧ Rep K F v d ∧ isTy t d = some b ∧ Q (.bl b) H
theorem tyx_of {F H : Hp} {v : V} {d : D} (sF : Same F H) (r : Rep X.K F v d) {t : Ty} {b : Bool} (h : isTy t d = some b) : ∃ n, TyX X.K H v (.type n) ∧ kitB n (tyName t) = some b := by
  cases r with
  | non => refine ⟨"NoneType", .base .non, ?_⟩; cases t <;> (cases h; first | (show kitB _ _ = some true; decide +kernel) | (show kitB _ _ = some false; decide +kernel))
  | bl b => refine ⟨"bool", .base (.bl _), ?_⟩; cases t <;> (cases h; first | (show kitB _ _ = some true; decide +kernel) | (show kitB _ _ = some false; decide +kernel))
  | int b => refine ⟨"int", .base (.int _), ?_⟩; cases t <;> (cases h; first | (show kitB _ _ = some true; decide +kernel) | (show kitB _ _ = some false; decide +kernel))
  | str b => refine ⟨"str", .base (.str _), ?_⟩; cases t <;> (cases h; first | (show kitB _ _ = some true; decide +kernel) | (show kitB _ _ = some false; decide +kernel))
  | tup ha ra =>
    refine ⟨"tuple", ?_, ?_⟩
    · rcases sqT_same sF ha with (q | ⟨o, q⟩) | ⟨o, its, n, q, c, _⟩
      · exact .base (.tup q)
      · exact .fTuple q
      · exact .kTuple q c
    · cases t <;> (cases h; first | (show kitB _ _ = some true; decide +kernel) | (show kitB _ _ = some false; decide +kernel))
  | lst ha ra => refine ⟨"list", .base (.lst (sF _ _ ha)), ?_⟩; cases t <;> (cases h; first | (show kitB _ _ = some true; decide +kernel) | (show kitB _ _ = some false; decide +kernel))
  | scr ha ra => cases t <;> cases h
  | ref a => cases t <;> cases h
  | dic ha hd =>
    rename_i a u
    refine ⟨"dict", ?_, ?_⟩
    · cases u with
      | dT kvs => exact .base (.dT (sF _ _ ha))
      | dK kvs => exact .base (.dK (sF _ _ ha))
      | _ => exact hd.elim
    · cases t <;> (cases h; first | (show kitB _ _ = some true; decide +kernel) | (show kitB _ _ = some false; decide +kernel))
theorem c_isi (t : Ty) : CallR X (.builtin "isinstance") (liftIs X.K t) := by
  intro pins s σ H xs us Q I r ⟨F, v, d, b, e, sF, rv, h, q⟩
  subst e
  obtain ⟨n, ty, kb⟩ := tyx_of sF rv h
  exact call_isi pins s σ H _ us Q I r ⟨_, _, _, _, b, rfl, .ty _, ty, kit_ty kb, q⟩

/-- list(x), sorted(x): a fresh list -/
def liftF (K : PySem.W.Frag) (r : D → (List D → Prop) → Prop) : List V → Hp → VK → Prop := fun xs H Q => ∃ (F : Hp) (v : V) (d : D) (P : List D → Prop), xs = [v] ∧ Same F H ∧ Rep K F v d ∧ r d P ∧
  ∀ ds p vs, H p = none → Reps K F vs ds → P ds → Q (.ref p) (upd H p (.lst vs))
theorem c_list : CallR X (.type "list") (liftF X.K fun d P => match d with | .tup xs => P xs | .lst xs => P xs | _ => False) := by
  intro pins s σ H xs us Q I r ⟨F, v, d, P, e, sF, rv, m, k⟩
  subst e
  dsimp only at m
  split at m
  · obtain ⟨a, vs, rfl, ha, ra⟩ := rv.tup_inv
    exact call_list_of pins s σ H _ us Q I r ⟨a, vs, rfl, .inr (sqT_same sF ha), fun p hp => k _ p vs hp ra m⟩
  · obtain ⟨a, vs, rfl, ha, ra⟩ := rv.lst_inv
    exact call_list_of pins s σ H _ us Q I r ⟨a, vs, rfl, .inl (.of (sF _ _ ha)), fun p hp => k _ p vs hp ra m⟩
  · exact m.elim
theorem insI_perm (x : Int) : ∀ l : List Int, (insI x l).Perm (x :: l)
  | [] => List.Perm.refl _
  | y :: r => by
    unfold insI
    split
    · exact List.Perm.refl _
    · exact ((insI_perm x r).cons y).trans (List.Perm.swap x y r)
theorem sortI_perm : ∀ l : List Int, (sortI l).Perm l
  | [] => List.Perm.refl _
  | x :: r => (insI_perm x _).trans ((sortI_perm r).cons x)
theorem insI_sorted (x : Int) : ∀ l : List Int, l.Pairwise (· ≤ ·) → (insI x l).Pairwise (· ≤ ·)
  | [], _ => List.pairwise_singleton _ _
  | y :: r, h => by
    unfold insI
    rw [List.pairwise_cons] at h
    split
    · rename_i hxy
      refine List.pairwise_cons.mpr ⟨fun z hz => ?_, List.pairwise_cons.mpr h⟩
      rcases List.mem_cons.mp hz with rfl | hz
      · exact hxy
      · exact Int.le_trans hxy (h.1 z hz)
    · rename_i hxy
      refine List.pairwise_cons.mpr ⟨fun z hz => ?_, insI_sorted x r h.2⟩
      rcases List.mem_cons.mp ((insI_perm x r).mem_iff.mp hz) with rfl | hz
      · omega
      · exact h.1 z hz
theorem sortI_sorted : ∀ l : List Int, (sortI l).Pairwise (· ≤ ·)
  | [] => List.Pairwise.nil
  | x :: r => insI_sorted x _ (sortI_sorted r)
theorem sort_uniq : ∀ {a b : List Int}, a.Perm b → a.Pairwise (· ≤ ·) → b.Pairwise (· ≤ ·) → a = b := fun p h1 h2 =>
  List.Perm.eq_of_pairwise (le := fun x y => x ≤ y) (fun x y _ _ h h' => Int.le_antisymm h h') h1 h2 p
theorem c_sorted : CallR X (.builtin "sorted") (liftF X.K fun d P => match d with | .lst xs => ∃ ns, intsOf xs = some ns ∧ P ((sortI ns).map D.int) | _ => False) := by
  intro pins s σ H xs us Q I r ⟨F, v, d, P, e, sF, rv, m, k⟩
  subst e
  dsimp only at m
  split at m
  · obtain ⟨a, vs, rfl, ha, ra⟩ := rv.lst_inv
    obtain ⟨ns, hn, p⟩ := m
    rw [reps_ints ra hn] at ha
    refine cr_sortedI pins s σ H _ us Q I r ⟨a, ns, rfl, .of (sF _ _ ha), fun ns' q hp hs hq => ?_⟩
    have e : ns' = sortI ns := sort_uniq (hp.trans (sortI_perm ns).symm) hs (sortI_sorted ns)
    rw [e]
    exact k _ q _ hq (rep_ints _) p
  · exact m.elim
end
end M61

set_option Elab.async false
set_option linter.all false
set_option autoImplicit false
set_option maxRecDepth 100000
/-! M3d: what is walked. -/
namespace PySem
open AutoSeq1 (wpAny_loadPart')
theorem meets_enumerate_new1 {v : Value} {o : Obj} {H : Heap → Prop} (B : Begins v o H) :
    Meets (Builtin.«enumerate.__new__» ⟨[.type "enumerate", v], []⟩) (fun _ R s => H s.heap ∧
      R (.ok (.ret (.ref (s.heap.push o).objs.size))) { s with heap := (s.heap.push o).push { cls := .type "enumerate", data := .fields #[.none, .bool false, .ref s.heap.objs.size, rawInt 0, .none, .none] } }) :=
  .of_wp fun prog w A R s h => by
    obtain ⟨hp, g, d, tk, os⟩ := s; obtain ⟨h1, h⟩ := h
    have hsub := sub_enumerate
    have q1 : ∀ {A' : Around} {E : Value → Shared → Prop} {Q : Value → Shared → Prop}, Q (.ref hp.objs.size) ⟨hp.push o, g, d, tk, os⟩ → wpAny (model prog w) A' (pyIter v) Q E ⟨hp, g, d, tk, os⟩ :=
      fun q => B.iter prog w _ _ ⟨hp, g, d, tk, os⟩ _ h1 q
    wp_walk using q1
    refine wpAny_stack_any fun st => wpAny_pure ?_
    split
    · rename_i c _ _ _ _ _
      cases (c == Value.type "enumerate")
      · wp_walk using q1
        exact ⟨_, rfl, h⟩
      · wp_walk using q1
        exact ⟨_, rfl, h⟩
    · wp_walk using q1
      exact ⟨_, rfl, h⟩
section
variable {prog : Program} {w : World} {A : Around} {E : Value → Shared → Prop} {s : Shared}
theorem enum_begins1 {v : Value} {o : Obj} {H : Heap → Prop} {Q : Value → Shared → Prop} (B : Begins v o H) (h1 : H s.heap)
    (h : ∀ h', IsEnum h' (s.heap.objs.size + 1) s.heap.objs.size 0 .none → h'.get? s.heap.objs.size = some o → h'.objs.size = s.heap.objs.size + 2 →
      (∀ b o, s.heap.get? b = some o → h'.get? b = some o) → Q (.ref (s.heap.objs.size + 1)) { s with heap := h' }) :
    wpAny (model prog w) A (call (.type "enumerate") [v]) Q E s := by
  refine callType_new F.called_enumerate (by decide) (F.typeCall_enumerate_1 _) (F.newCall_enumerate_1 _) (fun obj => F.args_object_init_2 obj _) F.entry_enumerate_new
    (meets_enumerate_new1 B) ⟨h1, ?_⟩
  have hz : (s.heap.push o).objs.size = s.heap.objs.size + 1 := Heap.size_push ..
  show _ ∧ _
  rw [hz]
  have he : IsEnum ((s.heap.push o).push { cls := .type "enumerate", data := .fields #[.none, .bool false, .ref s.heap.objs.size, rawInt 0, .none, .none] }) (s.heap.objs.size + 1) s.heap.objs.size 0 .none := by
    have := Heap.get?_push_size (s.heap.push o) (o := { cls := .type "enumerate", data := .fields #[.none, .bool false, .ref s.heap.objs.size, rawInt 0, .none, .none] }) rfl
    rw [hz] at this; exact this
  refine ⟨⟨_, he, rfl⟩, h _ he (Heap.get?_push_of_some _ (Heap.get?_push_size _ B.free)) (by rw [Heap.size_push, hz]) fun b o x => Heap.get?_push_of_some _ (Heap.get?_push_of_some _ x)⟩
end
end PySem
namespace M61
open PySem PySem.Spec PyProof.Rows L2
section
/-- the tuple at a, each item in a new pair with its number -/
def IteT (K : PySem.W.Frag) (a : Addr) : It :=
  ⟨fun i H => ∃ (xs : List V) (x : V), SqT K H a xs ∧ xs[i]? = some x, fun i H v H' => ∃ T x, v = .ref T ∧ H T = none ∧ H' = upd H T (.tup [.int (i : Nat), x]) ∧ ∀ xs, SqT K H a xs → xs[i]? = some x, fun i H => ∃ xs : List V, SqT K H a xs ∧ xs.length ≤ i⟩
theorem turn_enumT {P : Program} {w : World} {K : PySem.W.Frag} {elts : List Expr} {kk : Nat} {tpos : Pos} (a e it : Addr) :
    Turn P w K (.Tuple elts kk tpos) (IteT K a) [e, it] e (fun i h => (∃ old, IsEnum h e it ((i : Nat) : Int) old) ∧ h.IsTupleIter it a i ∧ e ≠ it ∧ a ≠ it ∧ a ≠ e) where
  mem := by simp
  obj := fun i h st b hb => by
    obtain ⟨⟨old, he⟩, ⟨o, ho, hc, hd⟩, _⟩ := st
    have e' : b = e ∨ b = it := by simpa using hb
    rcases e' with z | z
    · rw [z]; exact ⟨_, he, fun v q => nomatch q⟩
    · rw [z]; exact ⟨o, ho, fun v q => by rw [hd] at q; cases q⟩
  keep := fun i h h' st k => let ⟨⟨old, he⟩, hi, hne⟩ := st; ⟨⟨old, k e (by simp) _ he⟩, hi.at fun o q => k it (by simp) o q, hne⟩
  item := by
    intro X hP hw hK hc i pins s σ H E I hf st hg
    subst hP hw hK
    obtain ⟨⟨old, he⟩, hit, hne, hai, hae⟩ := st
    obtain ⟨xs, x, hq, hx⟩ := hg
    obtain ⟨its, rv, p, hz⟩ := I.tuple hq
    obtain ⟨u, hu, ru⟩ := rv.get hx
    have hel : e < s.heap.objs.size := Heap.lt_size he
    have hil : it < s.heap.objs.size := by obtain ⟨_, q, _⟩ := hit; exact Heap.lt_size q
    have D := Draws.tuple (prog := X.prog) (w := X.w) (A := X.A.in1) (I.ok.hd hc) it a hai its.toArray
    have hlt : i < its.toArray.size := by
      rw [List.size_toArray]; exact (List.getElem?_eq_some_iff.mp hu).1
    refine wpAny_pyNext_enum_itemD D he ⟨hit, p⟩ hlt hne (by simp; exact ⟨hne, Ne.symm hae⟩) fun u' h' tk hu' ho hst' hT hsz hk => ?_
    obtain ⟨hit', _⟩ := hst'
    have eu : u' = u := by
      have q : its[i]? = some u' := by simpa using hu'
      rw [hu] at q; exact (Option.some.inj q).symm
    subst eu
    refine ⟨_, rfl, wpAny_letOwnedTupleGo_enum (s := { s with heap := h', toks := tk + 1 }) ho fun h'' he' sb => ?_⟩
    have hT2 : h''.get? s.heap.objs.size = some { cls := .type "tuple", data := .seq #[.int i tk, u'] } := (sb.2 _ (Nat.ne_of_gt hel)).trans hT
    have new : ObjOk X.prog X.w (upd H s.heap.objs.size (.tup [.int (i : Nat), x])) h'' s.heap.objs.size (.tup [.int (i : Nat), x]) :=
      ⟨by show 2 ≤ sizeLine; decide, [.int i tk, u'], .cons ⟨_, rfl⟩ (.cons ru .nil), ⟨_, hT2, rfl, _, rfl⟩⟩
    have I1 : Inv X pins σ (upd H s.heap.objs.size (.tup [.int (i : Nat), x])) { s with heap := h'', toks := tk + 1 } :=
      I.turnedNew (ch := [e, it]) (fun b ob hb q => (sb.2 b (fun z => hb (by simp [z]))).trans (hk b ob (fun z => hb (by simp [z])) (fun z => hb (by simp [z])) q)) hf (Nat.le_refl _) new
    refine ⟨.ref s.heap.objs.size, _, I1, rfl, ⟨_, x, rfl, I.hok.fresh (Nat.le_refl _), rfl, fun ys hy => by rw [I.tuple_inj hy hq]; exact hx⟩, ⟨⟨u', ?_⟩, hit'.at fun o q => (sb.2 it (Ne.symm hne)).trans q, hne, hai, hae⟩, fun b hb => ?_⟩
    · have e1 : ((i + 1 : Nat) : Int) = (i : Int) + 1 := by omega
      rw [e1]; exact he'
    · have hb' : b < s.heap.objs.size := by
        have e' : b = e ∨ b = it := by simpa using hb
        rcases e' with z | z
        · rw [z]; exact hel
        · rw [z]; exact hil
      rw [upd_ne (Nat.ne_of_lt hb')]
      exact (hf b hb).1
  done := by
    intro X hP hw hK hc i pins s σ H E I hf st hg
    subst hP hw hK
    obtain ⟨⟨old, he⟩, hit, hne, hai, hae⟩ := st
    obtain ⟨xs, hq, hx⟩ := hg
    obtain ⟨its, rv, p, hz⟩ := I.tuple hq
    obtain ⟨f0, f1, f2, f3, f4, f5⟩ := hf it (by simp)
    have hl := rv.length
    unfold pyNext
    have hT : s.TypeIs (.ref e) "enumerate" := ⟨_, he, rfl⟩
    refine wpAny_bind (wpAny_attempt (wpAny_callSpecial?_slot (name := Str.ofString "__next__") hT F.slot_enumerate_next
      (wpAny_call_entry F.slot_enumerate_next hT F.entry_enumerate_next ?_ (F.args_enumerate_next_1 _))))
    show wpAny _ _ (field (.ref e) 2 >>= _) _ _ _
    refine wpAny_bind (wpAny_field he rfl (x := .ref it) rfl ?_)
    refine wpAny_bind (wpAny_nextOf_tuple_end (I.ok.hd hc) hit p (by simp; omega) fun h' x he' hx' => ?_)
    obtain ⟨o, ho, hcc⟩ := hx'
    refine wpAny_bind (wpAny_isInstance (T := "StopIteration") (b := true) ⟨o, ho, hcc⟩ isSubtype_stop ?_)
    exact wpAny_pure ⟨rfl, I.turned (t' := s.toks) (fun b o hb q => he' b o hb q) f0 f1 f3 f4 f5⟩
  self := fun A i s Q E st h => let ⟨⟨_, he⟩, _⟩ := st; wpAny_pyIter_enum he h
theorem walk_enumT {K : PySem.W.Frag} {a : Addr} {xs : List V} : Walk (IteT K a) xs.length (fun H => SqT K H a xs) (YPair (fun i => some (.int (i : Nat))) (fun i => xs[i]?)) := by
  refine ⟨fun i _ hi q => ⟨xs, xs[i], q, by simp [hi]⟩, fun _ q => ⟨xs, q, Nat.le_refl _⟩, fun i H v H' _ q y => ?_⟩
  obtain ⟨T, x, h1, h2, h3, h4⟩ := y
  exact ⟨T, .int (i : Nat), x, h1, h2, h3, rfl, h4 xs q⟩
variable {X : Cx}
/-- a list or a tuple, walked -/
def iSeq (K : PySem.W.Frag) (tl : TE) : TI := fun σ H R => tl σ H fun x H1 => ∃ a xs, x = .ref a ∧ ((SqL K H1 a xs ∧ R (Itl K a) H1) ∨ (SqT K H1 a xs ∧ R (Itt K a) H1))
theorem pi_seq {tg l : Expr} {tl : TE} (hl : PE X l tl) : PI X tg l (iSeq X.K tl) := by
  refine ⟨fun pins s σ H R I h => ?_⟩
  refine thn (hl.run pins s σ H _ I h) fun v s1 ⟨x, H1, I1, r1, q1⟩ => ?_
  obtain ⟨a, xs, e, q⟩ := q1
  subst e
  cases r1
  rcases q with ⟨hq, q⟩ | ⟨hq, q⟩
  · obtain ⟨its, rv, p, hz⟩ := I1.list hq
    refine wpAny_pyIter_list p.isList ?_
    refine ⟨s1.heap.objs.size, [s1.heap.objs.size], _, _, H1, rfl, I1.kept (t' := s1.toks) fun b o e => Heap.get?_push_of_some _ e, turn_list a _, ⟨_, Heap.get?_push_size _ rfl, rfl, rfl⟩, fun b hb => ?_, q⟩
    have e : b = s1.heap.objs.size := by simpa using hb
    subst e
    exact I1.fpOk (Nat.le_refl _) (I1.hok.fresh (Nat.le_refl _))
  · obtain ⟨its, rv, p, hz⟩ := I1.tuple hq
    refine wpAny_pyIter_tuple (show s1.heap.IsTuple a its.toArray from p) ?_
    refine ⟨s1.heap.objs.size, [s1.heap.objs.size], _, _, H1, rfl, I1.kept (t' := s1.toks) fun b o e => Heap.get?_push_of_some _ e, turn_tuple a _, ⟨_, Heap.get?_push_size _ rfl, rfl, rfl⟩, fun b hb => ?_, q⟩
    have e : b = s1.heap.objs.size := by simpa using hb
    subst e
    exact I1.fpOk (Nat.le_refl _) (I1.hok.fresh (Nat.le_refl _))
def iEnumA (K : PySem.W.Frag) (ta : TA) : TI := fun σ H R => ta σ H fun vs H1 => ∃ a xs, vs = [.ref a] ∧ ((SqL K H1 a xs ∧ R (Ite K a) H1) ∨ (SqT K H1 a xs ∧ R (IteT K a) H1))
theorem pi_enumA {e : Expr} {ta : TA} {p pos tpos : Pos} {elts : List Expr} {kk : Nat} (hg : Gl X "enumerate") (hm : X.mg "enumerate" = none) (ha : PA X [e] ta) (hs : starEach [e] X.env = [(false, eval e X.env)]) :
    PI X (.Tuple elts kk tpos) (.Call (.Name "enumerate" p) [e] [] pos) (iEnumA X.K ta) := by
  refine ⟨fun pins s σ H R I h => ?_⟩
  refine Call_ (ld_blt I hg hm boot_enumerate (PyProof.Rows.callWith_type1 (thn (ha.run pos pins s σ H _ I h) fun us s1 ⟨vs, H1, I1, r1, q1⟩ => ?_) hs rfl))
  obtain ⟨a, xs, ex, q⟩ := q1
  subst ex
  cases r1 with
  | cons r rr =>
    cases rr
    cases r
    have fp : ∀ b, b ∈ [s1.heap.objs.size + 1, s1.heap.objs.size] → s1.heap.objs.size ≤ b := fun b hb => by
      have e' : b = s1.heap.objs.size + 1 ∨ b = s1.heap.objs.size := by simpa using hb
      rcases e' with z | z
      · rw [z]; exact Nat.le_add_right _ _
      · rw [z]; exact Nat.le_refl _
    rcases q with ⟨hq, q⟩ | ⟨hq, q⟩
    · obtain ⟨its, rv, p', hz⟩ := I1.list hq
      refine call_enumerate_list p'.isList fun h' he hit hsz hk => wpAny_pyIter_enum he ?_
      have I2 : Inv X pins σ H1 { s1 with heap := h' } := I1.kept (t' := s1.toks) hk
      exact ⟨s1.heap.objs.size + 1, [s1.heap.objs.size + 1, s1.heap.objs.size], _, _, H1, rfl, I2, turn_enum a (s1.heap.objs.size + 1) s1.heap.objs.size, ⟨⟨.none, he⟩, hit, Nat.succ_ne_self _⟩, fun b hb => I1.fpOk (fp b hb) (I1.hok.fresh (fp b hb)), q⟩
    · obtain ⟨its, rv, p', hz⟩ := I1.tuple hq
      have hal : a < s1.heap.objs.size := by obtain ⟨_, q, _⟩ := p'; exact Heap.lt_size q
      refine enum_begins1 (begins_tuple a its.toArray) p' fun h' he hit hsz hk => wpAny_pyIter_enum he ?_
      have I2 : Inv X pins σ H1 { s1 with heap := h' } := I1.kept (t' := s1.toks) hk
      exact ⟨s1.heap.objs.size + 1, [s1.heap.objs.size + 1, s1.heap.objs.size], _, _, H1, rfl, I2, turn_enumT a (s1.heap.objs.size + 1) s1.heap.objs.size, ⟨⟨.none, he⟩, ⟨_, hit, rfl, rfl⟩, Nat.succ_ne_self _, Nat.ne_of_lt hal, Nat.ne_of_lt (Nat.lt_succ_of_lt hal)⟩, fun b hb => I1.fpOk (fp b hb) (I1.hok.fresh (fp b hb)), q⟩
end
/-- what J gives, turn by turn, is ds -/
def IterOk (K : PySem.W.Frag) (F : Hp) (ds : List D) (J : It) : Prop := ∃ (G : Hp → Prop) (Y : Nat → Hp → V → Hp → Prop), Walk J ds.length G Y ∧ (∀ H, Same F H → G H) ∧
  ∀ i H F2 x H', i < ds.length → Same F F2 → Same F2 H → Y i H x H' → ∃ F3 d, Grow F2 H F3 H' ∧ ds[i]? = some d ∧ Rep K F3 x d
section
variable {K : PySem.W.Frag} {F : Hp}
theorem it_at {xs : List V} {ds : List D} (r : Reps K F xs ds) {i : Nat} {H F2 H' : Hp} {x : V} (s : Same F F2) (s2 : Same F2 H) (y : YAt xs i H x H') : ∃ F3 d, Grow F2 H F3 H' ∧ ds[i]? = some d ∧ Rep K F3 x d := by
  obtain ⟨e, h⟩ := y
  subst e
  obtain ⟨d, hd, rd⟩ := r.get h
  exact ⟨F2, d, Grow.refl s2, hd, rd.mono s⟩
theorem it_list {a : Addr} {xs : List V} {ds : List D} (h : SqL K F a xs) (r : Reps K F xs ds) : IterOk K F ds (Itl K a) :=
  ⟨_, _, by rw [← r.length]; exact walk_list, fun H s => s.seq h, fun i H F2 x H' _ s s2 y => it_at r s s2 y⟩
theorem it_tup {a : Addr} {xs : List V} {ds : List D} (h : SqT K F a xs) (r : Reps K F xs ds) : IterOk K F ds (Itt K a) :=
  ⟨_, _, by rw [← r.length]; exact walk_tup, fun H s => sqT_same s h, fun i H F2 x H' _ s s2 y => it_at r s s2 y⟩
theorem rangeD_len (lo c : Int) (n : Nat) : (rangeD lo c n).length = n := by unfold rangeD; simp
theorem rangeD_get (lo c : Int) (n i : Nat) (h : i < n) : (rangeD lo c n)[i]? = some (.int (lo + (i : Nat) * c)) := by
  unfold rangeD; simp [h]
theorem it_range (lo : Int) (n : Nat) : IterOk K F (rangeD lo 1 n) (Itr lo n) :=
  ⟨_, _, by rw [rangeD_len]; exact walk_range, fun H s => trivial, fun i H F2 x H' hi s s2 y => by
    rw [rangeD_len] at hi
    obtain ⟨e, h⟩ := y
    subst e h
    exact ⟨F2, _, Grow.refl s2, rangeD_get lo 1 n i hi, by rw [Int.mul_one]; exact .int _⟩⟩
theorem it_rangeC (lo c : Int) (n : Nat) : IterOk K F (rangeD lo c n) (Itc lo c n) :=
  ⟨_, _, by rw [rangeD_len]; exact walk_rangeC, fun H s => trivial, fun i H F2 x H' hi s s2 y => by
    rw [rangeD_len] at hi
    obtain ⟨e, h⟩ := y
    subst e h
    exact ⟨F2, _, Grow.refl s2, rangeD_get lo c n i hi, .int _⟩⟩
theorem enumD_len : ∀ (k : Nat) (ds : List D), (enumD k ds).length = ds.length
  | _, [] => rfl
  | k, d :: ds => by unfold enumD; rw [List.length_cons, List.length_cons, enumD_len]
theorem enumD_get : ∀ (k : Nat) (ds : List D) (i : Nat) (d : D), ds[i]? = some d → (enumD k ds)[i]? = some (.tup [.int ((k + i : Nat) : Int), d])
  | _, [], _, _, h => by simp at h
  | k, x :: ds, 0, d, h => by
    simp at h; subst h
    unfold enumD
    simp
  | k, x :: ds, i + 1, d, h => by
    unfold enumD
    rw [List.getElem?_cons_succ] at h ⊢
    rw [enumD_get (k + 1) ds i d h]
    rw [show k + 1 + i = k + (i + 1) by omega]
theorem it_pair {a1 a2 : Nat → Option V} {n : Nat} {ds : List D} (hget : ∀ i x y F2, i < n → a1 i = some x → a2 i = some y → Same F F2 → ∃ d e, Rep K F2 x d ∧ Rep K F2 y e ∧ ds[i]? = some (.tup [d, e])) {i : Nat} {H F2 H' : Hp} {x : V} (hi : i < n) (s : Same F F2) (s2 : Same F2 H)
    (y : YPair a1 a2 i H x H') : ∃ F3 d, Grow F2 H F3 H' ∧ ds[i]? = some d ∧ Rep K F3 x d := by
  obtain ⟨T, u, v, rfl, hT, rfl, h1, h2⟩ := y
  obtain ⟨d, e, r1, r2, hd⟩ := hget i u v F2 hi h1 h2 s
  have g := Grow.new (o := HO.tup [u, v]) s2 hT
  exact ⟨_, _, g, hd, .tup (SqT.of upd_same) (.cons (r1.mono g.ff) (.cons (r2.mono g.ff) .nil))⟩
theorem it_enum {a : Addr} {xs : List V} {ds : List D} (h : SqL K F a xs) (r : Reps K F xs ds) : IterOk K F (enumD 0 ds) (Ite K a) :=
  ⟨_, _, by rw [enumD_len, ← r.length]; exact walk_enum, fun H s => s.seq h, fun i H F2 x H' hi s s2 y => it_pair (n := (enumD 0 ds).length) (fun i u v F2 hi h1 h2 s => by
    cases h1
    obtain ⟨d, hd, rd⟩ := r.get h2
    exact ⟨_, d, .int _, rd.mono s, by rw [enumD_get 0 ds i d hd, Nat.zero_add]⟩) hi s s2 y⟩
theorem it_enumT {a : Addr} {xs : List V} {ds : List D} (h : SqT K F a xs) (r : Reps K F xs ds) : IterOk K F (enumD 0 ds) (IteT K a) :=
  ⟨_, _, by rw [enumD_len, ← r.length]; exact walk_enumT, fun H s => sqT_same s h, fun i H F2 x H' hi s s2 y => it_pair (n := (enumD 0 ds).length) (fun i u v F2 hi h1 h2 s => by
    cases h1
    obtain ⟨d, hd, rd⟩ := r.get h2
    exact ⟨_, d, .int _, rd.mono s, by rw [enumD_get 0 ds i d hd, Nat.zero_add]⟩) hi s s2 y⟩
end
end M61

set_option Elab.async false
set_option linter.all false
set_option autoImplicit false
set_option maxRecDepth 100000
/-! N2: defs' promises where no repr of a list or a tuple is on its way. -/
namespace M61
open PySem PySem.Spec PyProof.Rows L2
/-- as FnOk, with no guard about -/
structure FnG (Pr : Program) (wd : World) (K : PySem.W.Frag) (mg : Str → Option Value) (bs : Heap) (CX : CXT) (k : Nat) (f : Addr) (fd : FuncData) (ps : List Str) (sp : Sp) : Prop where
  len : ∀ vs H Q E, sp vs H Q E → vs.length = ps.length
  run : ∀ (A : Around) (out : List Env) (s : Shared) (H : Hp) (ar : Args) (us : List Value) (vs : List V) (Q : VK) (E : XK), A.guards = some [] → Room k A → Env0 Pr wd K mg bs A out s H → BindsTo s fd ar (ps.zip us) → Vals vs us → sp vs H Q E →
    codeAny (model Pr wd) A (.call (.ref f) ar) (CR CX out Pr wd H s Q E) s
section
variable {X : Cx} {CX : CXT} {k : Nat} {f : Addr} {fd : FuncData} {ps : List Str} {sp : Sp} {dvs : List V} {ds : List Value} {E : XK}
theorem run_fnG {pins : List (Addr × Obj)} {σ : L2.St} {H : Hp} {s : Shared} {Q : VK} {us : List Value} {vs : List V} (F : FnG X.prog X.w X.K X.mg X.base CX k f fd ps sp) (gd : X.A.guards = some []) (hr : Room k X.A) (hb : Binds X.K fd ps ds) (hd : Vals dvs ds) (hx : Passes CX X E)
    (I : Inv X pins σ H s) (r : Vals vs us) (h : sp (vs ++ dvs) H Q E) : wpAny (model X.prog X.w) X.A (call (.ref f) us) (EP X pins σ Q) X.xe s := by
  have both : Vals (vs ++ dvs) (us ++ ds) := r.append hd
  have hl : (us ++ ds).length = ps.length := by rw [← both.length]; exact F.len _ _ _ _ h
  refine wpAny_call (codeAny_mono (F.run X.A X.stack s H ⟨us, []⟩ (us ++ ds) (vs ++ dvs) Q E gd hr I.env0 (hb s us I.kIn hl) both h) fun z s' hq => ?_)
  rcases z with e | fl
  · exact hx pins σ H s e s' I hq
  · cases fl <;> first | exact I.after hq | exact False.elim hq
theorem pe_callG {x : Str} {e : Expr} {es : List Expr} {t : TA} {p pos : Pos} (F : FnG X.prog X.w X.K X.mg X.base CX k f fd ps sp) (gd : X.A.guards = some []) (hr : Room k X.A) (hg : Gl X x) (hm : X.mg x = some (.ref f)) (hk : PySem.W.keepIn X.K (.ref f) = true) (hb : Binds X.K fd ps ds) (hd : Vals dvs ds) (hx : Passes CX X E)
    (ha : PA X (e :: es) t) (hdb : (x == ("__debug__" : Str)) = false) (he : starEach (e :: es) X.env = (false, eval e X.env) :: starEach es X.env) (hpl : (backTo pos (starEach es X.env)).any (·.1) = false) :
    PE X (.Call (.Name x p) (e :: es) [] pos) (tCall sp dvs E t) := by
  constructor
  intro pins s σ H Q I h
  exact wpAny_Call_Name_kw (ld_glob I hg hm (PySem.W.callWith_K (h₀ := X.base) I.ok.mod.kin hk (thn (ha.run pos pins s σ H _ I h) fun us s1 ⟨vs, H1, I1, r, q⟩ => ⟨I1.kIn, run_fnG F gd hr hb hd hx I1 r q⟩) he hpl) hdb)
theorem pe_callG0 {x : Str} {p pos : Pos} (F : FnG X.prog X.w X.K X.mg X.base CX k f fd ps sp) (gd : X.A.guards = some []) (hr : Room k X.A) (hg : Gl X x) (hm : X.mg x = some (.ref f)) (hk : PySem.W.keepIn X.K (.ref f) = true) (hb : Binds X.K fd ps ds) (hd : Vals dvs ds) (hx : Passes CX X E)
    (hdb : (x == ("__debug__" : Str)) = false) : PE X (.Call (.Name x p) [] [] pos) (tCall sp dvs E tNil) := by
  constructor
  intro pins s σ H Q I h
  exact wpAny_Call_Name_kw (ld_glob I hg hm (PySem.W.callWith_K0 I.kIn hk (run_fnG (us := []) F gd hr hb hd hx I .nil h)) hdb)
end
section
variable {Pr : Program} {wd : World} {K : PySem.W.Frag} {mg : Str → Option Value} {bs : Heap}
theorem fn_ofG {CX : CXT} {k : Nat} {f : Addr} {name qual : Str} {params : Arguments} {body : List Stmt} {scope : Scope} {dV kV doc pm cdv ct oc : Value} {an od : Option Addr}
    {osl : Array (Option Value)} {N ps : List Str} {sp : Sp} (lk : K.lookup f = some ⟨oc, od, .func (PySem.W.fnOf name qual params body scope dV kV doc pm an cdv ct), osl⟩) (hcd : PySem.W.codeIn K cdv qual = true) (S : FnScope N ps scope)
    (len : ∀ vs H Q E, sp vs H Q E → vs.length = ps.length)
    (hb : ∀ (A : Around) (out : List Env) (s : Shared) (H : Hp) (vs : List V) (Q : VK) (E : XK), A.guards = some [] → Room k (A.deeper (envOfC qual scope s.heap.objs.size f cdv)) → sp vs H Q E →
      ∃ t, PSs (cxOf CX Pr wd K mg bs N qual scope f cdv A out s H E) body t ∧ t { nx := fun _ H' => Q .non H', rt := Q } (start N vs) H) :
    FnG Pr wd K mg bs CX (k + 1) f (PySem.W.fnOf name qual params body scope dV kV doc pm an cdv ct) ps sp := by
  constructor
  · exact len
  intro A out s H ar us vs Q E gd hr e0 hbi r hsp
  have hl := len _ _ _ _ hsp
  have KX : K.In s.heap := e0.mod.kin.keeps fun b o e => (e0.bs b o e).1
  have lim : s.heap.NoLimit := e0.mod.nolimit.keeps fun b o e => (e0.bs b o e).1
  have kd : ∀ y ∈ ps.zip us, scope.names.lookup y.1 = some .local ∨ (scope.names.lookup y.1 = some .cell ∧ ((cellsFrom (s.heap.objs.size + 1) scope.names []).lookup y.1).isSome = true) := by
    intro y hy
    rcases S.par y.1 (List.of_mem_zip (show (y.1, y.2) ∈ ps.zip us from hy)).1 with q | q
    · exact Or.inl q
    · exact Or.inr ⟨q, PySem.W.cellsFrom_some _ _ _ (Or.inl q)⟩
  refine codeAny_call_function hr.depth (KX _ _ lk) rfl S.co S.gen rfl (PySem.W.codeRec_of KX hcd) (hbi _ _ _ _ (wpAny_newFunctionEnv_cells S.kind kd fun env he s1 x => ?_))
  subst he
  refine ⟨lim.keeps x.toInCall.keep, codeAny_func ?_⟩
  obtain ⟨t, ht, hq⟩ := hb A out s H vs Q E gd (hr.deeper _) hsp
  have I : Inv (cxOf CX Pr wd K mg bs N qual scope f cdv A out s H E) [] (start N vs) H s1 := inv_start S hr.hd e0 hl r x
  have fin : ∀ {σ' : L2.St} {H' : Hp} {v : V} {u : Value} {s' : Shared}, Inv (cxOf CX Pr wd K mg bs N qual scope f cdv A out s H E) [] σ' H' s' → RelV v u → Q v H' → CE out Pr wd H s Q u s' :=
    fun {σ' H' v u s'} J rv q => ⟨v, H', J.os, J.bare, J.base, J.hok, rv, q⟩
  refine wpAny_mono (ht.run [] s1 (start N vs) H _ I hq) (fun fl s' hs => ?_) fun e s' hs => hs
  rcases fl with u | _ | _ | _
  all_goals first
    | (obtain ⟨v, σ', H', J, rv, q⟩ := hs; exact fin J rv q)
    | (obtain ⟨σ', H', J, q⟩ := hs; exact fin (v := V.non) (u := Value.none) J rfl q)
    | (obtain ⟨_, _, _, q⟩ := hs; exact False.elim q)
theorem fun_okG {x qual : Str} {st : Stmt} {f : Addr} {fd : FuncData} {N ps : List Str} {k : Nat} {sp : Sp} (F : Fun K x qual st f fd) (S : FnScope N ps (defScope st)) (len : ∀ vs H Q E, sp vs H Q E → vs.length = ps.length)
    (hb : ∀ (cdv : Value) (A : Around) (out : List Env) (s : Shared) (H : Hp) (vs : List V) (Q : VK) (E : XK), A.guards = some [] → Room k (A.deeper (envOfC qual (defScope st) s.heap.objs.size f cdv)) → sp vs H Q E →
      ∃ t, PSs (cxOf CX0 Pr wd K mg bs N qual (defScope st) f cdv A out s H E).nox (defBody st) t ∧ t { nx := fun _ H' => Q .non H', rt := Q } (start N vs) H) : FnG Pr wd K mg bs CX0 (k + 1) f fd ps sp := by
  obtain ⟨oc, od, kV, doc, pm, an, cdv, ct, osl, rfl, lk, hcd⟩ := F.ex
  refine fn_ofG lk hcd S len fun A out s H vs Q E gd hr hsp => ?_
  obtain ⟨t, h, q⟩ := hb cdv A out s H vs Q E gd hr hsp
  exact ⟨t, h.nox, q⟩
/-- the law's own call -/
theorem law_callG {mb : Str → Option Value} {CX : CXT} {k : Nat} {fa a : Addr} {fd : FuncData} {x : Str} {sp : Sp} {s1 : Shared} {vs : List Value} {ns : List Int}
    (KX : K.In s1.heap) (hns : s1.heap.Ns mainGlobals mg) (hb : s1.heap.Ns builtinsNs mb) (hbb : ∀ x : Str, x ≠ "__name__" → mb x = bootBuiltins x) (lim : s1.heap.NoLimit) (hg : s1.gens = #[])
    (ha : s1.heap.get? a = some { cls := .type "list", data := .seq vs.toArray }) (hi : IntsAre vs ns) (hl : ns.length ≤ sizeLine) (hr : Room k callerA)
    (F : ∀ base : Heap, K.In base → base.Ns mainGlobals mg → FnG Pr wd K mg base CX k fa fd [x] sp) (bind : ∀ (s : Shared) (u : Value), BindsTo s fd ⟨[u], []⟩ [(x, u)])
    (hsp : ∀ H : Hp, Only H → SqL K H a (ns.map V.int) → sp [.ref a] H (fun v _ => v = .bl true) fun _ _ _ => False)
    (hCX : ∀ H e s', CX [] H s1 (fun _ _ _ => False) e s' → False) :
    codeAny (model Pr wd) callerA (.call (.ref fa) ⟨[.ref a], []⟩) (fun r s' => r = .ok (.ret (.bool true)) ∧ OldK s1.heap s'.heap ∧ s'.os = s1.os ∧ AllBare s'.gens) s1 := by
  have rv := vals_ints hi
  have lenV := hi.length
  have core : ∀ H : Hp, Only H → SqL K H a (ns.map V.int) → HOk Pr wd H s1.heap → (∀ b, H b ≠ none → b = a) → (H a ≠ none → K.lookup a = none) →
      codeAny (model Pr wd) callerA (.call (.ref fa) ⟨[.ref a], []⟩) (fun r s' => r = .ok (.ret (.bool true)) ∧ OldK s1.heap s'.heap ∧ s'.os = s1.os ∧ AllBare s'.gens) s1 := by
    intro H hO hS hok onlyA hK
    have at_ : ∀ {b : Addr} {o : Obj}, s1.heap.get? b = some o → H b = none → (hidT s1.heap H).get? b = some o := fun e n => hidT_get e n
    have freeD : ∀ {b : Addr} {o : Obj} {es : Array DictEntry} {ep : Nat}, s1.heap.get? b = some o → o.data = .dict es ep → H b = none := by
      intro b o es ep e d
      by_cases q : H b = none
      · exact q
      · obtain rfl : b = a := onlyA b q
        rw [ha] at e; cases e
        exact nomatch (show Data.seq vs.toArray _ = Data.dict es ep from d)
    have nsK : ∀ {b : Addr} {m : Str → Option Value}, s1.heap.Ns b m → (hidT s1.heap H).Ns b m := by
      rintro b m ⟨o, es, ep, e, d, r⟩
      exact ⟨o, es, ep, at_ e (freeD e d), d, r⟩
    have inK : K.In (hidT s1.heap H) := by
      intro b o e
      refine at_ (KX b o e) ?_
      by_cases q : H b = none
      · exact q
      · obtain rfl : b = a := onlyA b q
        rw [hK q] at e; cases e
    have md : Mod K mg (hidT s1.heap H) := ⟨inK, nsK hns, ⟨mb, nsK hb, hbb⟩, let ⟨mc, z1, z2⟩ := lim; ⟨mc, nsK z1, z2⟩⟩
    have en : Env0 Pr wd K mg (hidT s1.heap H) callerA [] s1 H := ⟨rfl, md, fun b o e => of_hidT e, Nat.le_of_eq (hidT_size _ _), trivial, fun b hb => (nomatch (show b ∈ ([] : List Addr) from hb)), hok, .of_eq hg⟩
    refine codeAny_mono ((F _ inK (nsK hns)).run callerA [] s1 H ⟨[.ref a], []⟩ [.ref a] [.ref a] _ _ rfl hr en (bind s1 (.ref a)) (.cons rfl .nil) (hsp H hO hS)) fun z s' h => ?_
    rcases z with e | fl
    · exact (hCX H e s' h).elim
    · cases fl
      case ret u =>
        obtain ⟨v, H', os, bare, un, hok', r', q⟩ := h
        obtain rfl : v = .bl true := q
        obtain rfl : u = Value.bool true := r'
        refine ⟨rfl, OldK.of_keep ?_, os, bare⟩
        intro b o e
        by_cases q : H b = none
        · exact un.keep b o e q (fun z => nomatch (show b ∈ ([] : List Addr) from z)) (by simp)
        · rcases hO b with z | ⟨ob, xs, z⟩
          · exact absurd z q
          · have z2 := un.frzs b ob _ z
            have e1 := (hok b _ z).1
            have e2 := (hok' b _ z2).1
            rw [e] at e1; cases e1; exact e2
      all_goals exact False.elim h
  by_cases hk : K.lookup a = none
  · refine core (fun b => if b = a then some (.frz { cls := .type "list", data := .seq vs.toArray } (.lst (ns.map V.int))) else none) (fun b => ?_) (.inl (.inr ⟨{ cls := .type "list", data := .seq vs.toArray }, if_pos rfl⟩)) (fun b u z => ?_) (fun b z => ?_) fun _ => hk
    · by_cases q : b = a
      · exact Or.inr ⟨_, _, if_pos q⟩
      · exact Or.inl (if_neg q)
    · by_cases q : b = a
      · obtain z' := (if_pos q).symm.trans z
        cases z'; subst q
        exact ⟨ha, by rw [List.length_map]; exact hl, vs, _, rv, ha⟩
      · exact nomatch (if_neg q).symm.trans z
    · by_cases q : b = a
      · exact q
      · exact absurd (if_neg q) z
  · obtain ⟨o, hk⟩ : ∃ o, K.lookup a = some o := by
      cases e : K.lookup a with
      | none => exact absurd e hk
      | some o => exact ⟨o, rfl⟩
    have e := KX a o hk
    rw [ha] at e; cases e
    exact core (fun _ => none) (fun _ => Or.inl rfl) (Or.inr ⟨_, vs.toArray, _, hk, rfl, rfl, rfl, by rw [List.size_toArray, lenV]; exact hl, by simpa using rv⟩) (fun b u z => (nomatch (show (none : Option HO) = some u from z))) (fun b z => absurd rfl z) fun z => absurd rfl z
end
theorem walk_ofG {l : PySem.W.OpenLaw} {n k : Nat} {q : Program} {loose : List Str} {XP : (Str → Option Value) → Heap → Prop} {YP : World → Heap → Prop} {d : DefRec} {K : Params → PySem.W.Frag} {CX : World → CXT} {sp : World → Sp} {x : Str}
    (hn : l.most = some n) (hn2 : n ≤ sizeLine) (hdf : d.params.defaults = []) (hr : Room k callerA)
    (hY : ∀ (w : World) (h : Heap), YP w h → (K w.params).In h)
    (F : ∀ (w : World) (mg : Str → Option Value) (fa : Addr) (h : Heap), (K w.params).In h → h.Ns mainGlobals mg → mg d.name = some (.ref fa) →
      ∃ fd : FuncData, (∀ (s : Shared) (u : Value), BindsTo s fd ⟨[u], []⟩ [(x, u)]) ∧ ∀ base : Heap, (K w.params).In base → base.Ns mainGlobals mg → FnG l.prog w (K w.params) mg base (CX w) k fa fd [x] (sp w))
    (hsp : ∀ (w : World) (H : Hp) (a : Addr) (ns : List Int), ns.length ≤ n → Only H → SqL (K w.params) H a (ns.map V.int) → sp w [.ref a] H (fun v _ => v = .bl true) fun _ _ _ => False)
    (hCX : ∀ (w : World) (H : Hp) (s : Shared) (e : Value) (s' : Shared), CX w [] H s (fun _ _ _ => False) e s' → False) :
    PySem.W.WalkO q loose XP YP l.row.toRowW d [] (fun f vs => PySem.call f vs) := by
  refine Att.attach_call hn hdf ?_
  intro w s0 s1 mg mb fa o pm cd doc a vs ns G Y ho hd hcd hmg hobj hints hlen hg
  obtain ⟨fd, hb, hF⟩ := F w mg fa _ (hY w _ Y) G.T.g hmg
  exact law_callG (hY w _ Y) G.T.g G.T.b G.T.builtins G.T.nolimit hg hobj hints (Nat.le_trans hlen hn2) hr hF hb (fun H hO hS => hsp w H a ns hlen hO hS) fun H e s' => hCX w H s1 e s'
end M61

set_option Elab.async false
set_option linter.all false
set_option autoImplicit false
set_option maxRecDepth 100000
/-! N3: repr of data. -/
namespace M61
open PySem PySem.Spec PyProof.Rows L2
section
variable {X : Cx} {pins : List (Addr × Obj)} {σ : L2.St} {H F : Hp} {s : Shared}
mutual
theorem reads_of (I : Inv X pins σ H s) (sF : Same F H) : ∀ {v : V} {d : D}, Rep X.K F v d → d.pure = true → ∀ u, RelV v u → ∃ as, Reads s.heap u d.py as
  | _, _, .non, _, u, r => ⟨[], by obtain rfl : u = Value.none := r; exact .none⟩
  | _, _, .bl b, _, u, r => ⟨[], by obtain rfl : u = Value.bool b := r; exact .bool b⟩
  | _, _, .int i, _, u, r => ⟨[], by obtain ⟨t, rfl⟩ := (show ∃ t, u = Value.int i t from r); exact .int i t⟩
  | _, _, .str x, _, u, r => ⟨[], by obtain ⟨t, rfl⟩ := (show ∃ t, u = Value.str x t from r); exact .str x t⟩
  | _, _, .tup (a := a) (xs := xs) h rs, p, u, r => by
    obtain rfl : u = Value.ref a := r
    obtain ⟨its, rv, ⟨o, h1, h2, n, h3⟩, _⟩ := I.tuple (sqT_same sF h)
    obtain ⟨as, q⟩ := reads_all I sF rs p _ rv
    exact ⟨as, .tuple h1 h2 h3 (by simpa using q)⟩
  | _, _, .lst (a := a) (xs := xs) h rs, p, u, r => by
    obtain rfl : u = Value.ref a := r
    obtain ⟨its, rv, pl, _⟩ := I.list (.of (sF _ _ h))
    obtain ⟨o, h1, h2, n, h3⟩ := pl.isList
    obtain ⟨as, q⟩ := reads_all I sF rs p _ rv
    exact ⟨_, .list h1 h2 h3 (by simpa using q)⟩
  | _, _, .scr _ _, p, _, _ => nomatch p
  | _, _, .ref _, p, _, _ => nomatch p
theorem reads_all (I : Inv X pins σ H s) (sF : Same F H) : ∀ {vs : List V} {ds : List D}, Reps X.K F vs ds → D.pures ds = true → ∀ us, Vals vs us → ∃ as, ReadsAll s.heap us (D.pys ds) as
  | _, _, .nil, _, us, r => by cases r; exact ⟨[], .nil⟩
  | _, _, .cons (d := d) (ds := ds) r1 rs, p, us, r => by
    obtain ⟨p1, p2⟩ := Bool.and_eq_true_iff.mp (show (d.pure && D.pures ds) = true from p)
    cases r with
    | cons u1 ur =>
      obtain ⟨as, q1⟩ := reads_of I sF r1 p1 _ u1
      obtain ⟨bs, q2⟩ := reads_all I sF rs p2 _ ur
      exact ⟨_, .cons q1 q2⟩
end
/-- what repr shows -/
structure D.Shw (d : D) : Prop where
  p : d.pure = true
  s : d.py.showable = true
  n : d.py.hasDict = false
  e : d.py.depth ≤ 64
  z : d.py.shown.length ≤ sizeLine
end
section
variable {X : Cx}
theorem nu3 (i j k : Int) : nuMin3 (.int i) (.int j) (.int k) = some (.int (min (min i j) k)) := by
  have e : ∀ x y : Int, nuMin2 (.int x) (.int y) = some (.int (min x y)) := fun x y => by
    show some (if decide (y < x) = true then V.int y else V.int x) = _
    by_cases h : y < x
    · rw [if_pos (decide_eq_true h), Int.min_eq_right (by omega)]
    · rw [if_neg (by simpa using h), Int.min_eq_left (by omega)]
  show (nuMin2 (.int i) (.int j)).bind (fun m => nuMin2 m (.int k)) = _
  rw [e]
  exact e _ _
theorem c_min3 (hc : X.calm = true) : CallR X (.builtin "min") (liftB X.K fun C ds P => bltR C .min3 ds P) := by
  intro pins s σ H xs us Q I r ⟨F, ds, C, P, ce, rs, m, k⟩
  have sF := ce.fh
  unfold bltR at m
  dsimp only at m
  split at m
  all_goals first | (rename_i hh; cases hh; done) | skip
  · rename_i i j l _
    cases rs with
    | cons r1 rr =>
      cases rr with
      | cons r2 rr =>
        cases rr with
        | cons r3 rr =>
          cases rr; cases r1; cases r2; cases r3
          exact call_min3Nu hc pins s σ H _ us Q I r ⟨_, _, _, _, rfl, nu3 i j l, k _ F _ H (Grow.refl sF) (.int _) m⟩
  · exact m.elim
theorem pures_at : ∀ {xs : List D}, D.pures xs = true → ∀ x ∈ xs, x.pure = true
  | [], _, _, h => absurd h (by simp)
  | x :: xs, h, y, hy => by
    obtain ⟨h1, h2⟩ := Bool.and_eq_true_iff.mp (show (D.pure x && D.pures xs) = true from h)
    rcases List.mem_cons.mp hy with rfl | q
    · exact h1
    · exact pures_at h2 y q
theorem seq_data {pins : List (Addr × Obj)} {σ : L2.St} {H : Hp} {s : Shared} {F : Hp} {C : CM} {v : V} {d : D} {xs : List D} (I : L2.Inv X pins σ H s) (ce : Cells X.K F H C) (r : Rep X.K F v d) (h1 : seqD C d = some xs) :
    ∃ a vs, ∃ its : List Value, v = .ref a ∧ Reps X.K F vs xs ∧ Vals vs its ∧ (s.heap.IsList a its.toArray ∨ s.heap.IsTuple a its.toArray) := by
  have sF := ce.fh
  unfold seqD at h1
  split at h1
  · cases h1
    obtain ⟨a, vs, rfl, ha, ra⟩ := r.tup_inv
    obtain ⟨its, rv, ht, _⟩ := I.tuple (sqT_same sF ha)
    exact ⟨a, vs, its, rfl, ra, rv, .inr ht⟩
  · cases h1
    obtain ⟨a, vs, rfl, ha, ra⟩ := r.lst_inv
    obtain ⟨its, rv, ht, _⟩ := I.list (.of (sF _ _ ha))
    exact ⟨a, vs, its, rfl, ra, rv, .inl ht.isList⟩
  · cases r
    unfold cellL at h1
    split at h1
    · rename_i hc
      cases h1
      obtain ⟨vs, ha, ra⟩ := (ce.cel _ _ hc).1
      obtain ⟨its, rv, ht, _⟩ := I.list (.of ha)
      exact ⟨_, vs, its, rfl, ra, rv, .inl ht.isList⟩
    · cases h1
  · cases h1
theorem c_str : CallR X (.type "str") (liftB X.K fun C ds P => bltR C .str ds P) := by
  intro pins s σ H xs us Q I r ⟨F, ds, C, P, ce, rs, m, k⟩
  have sF := ce.fh
  unfold bltR at m
  dsimp only at m
  split at m
  all_goals first | (rename_i hh; cases hh; done) | skip
  · cases rs with
    | cons r1 rr =>
      cases rr; cases r1
      exact call_str_int pins s σ H _ us Q I r ⟨_, rfl, m.1, k _ F _ H (Grow.refl sF) (.str _) m.2⟩
  · exact m.elim
theorem c_mind (hc : X.calm = true) (hr : Room 0 X.A) : CallR X (.builtin "min") (liftB X.K fun C ds P => bltR C .mind ds P) := by
  intro pins s σ H xs us Q I r ⟨F, ds, C, P, ce, rs, m, k⟩
  have sF := ce.fh
  unfold bltR at m
  dsimp only at m
  split at m
  all_goals first | (rename_i hh; cases hh; done) | skip
  · cases rs with
    | cons r1 rr =>
      cases rr
      obtain ⟨x, ys, h1, h2, h3, h4, p⟩ := m
      obtain ⟨a, vs, its, rfl, rv, rw', hl⟩ := seq_data I ce r1 h1
      rw [Vals.ref1 r]
      obtain ⟨as, hR⟩ := reads_all I sF rv h2 its rw'
      have hD : X.A.units + 1 + PyData.depthAll (D.pys (x :: ys)) < cLine := by
        have := hr.un
        omega
      have fin : ∀ (i : Nat) (v : Value) (h' : Heap) (tk : Nat) (bs : List Addr), its.toArray[i]? = some v → Reads h' v (PySem.W.minD x.py (D.pys ys)) bs → (∀ b o, s.heap.get? b = some o → h'.get? b = some o) → EP X pins σ Q v { s with heap := h', toks := tk } := fun i v h' tk bs hv rd hk => by
        have hv2 : its[i]? = some v := by simpa using hv
        obtain ⟨w, hw, rel⟩ : ∃ w, vs[i]? = some w ∧ RelV w v := by
          cases hw : vs[i]? with
          | none =>
            have := rw'.none_of hw
            rw [hv2] at this; cases this
          | some w =>
            obtain ⟨u, hu, rel⟩ := rw'.get hw
            rw [hv2] at hu
            cases hu
            exact ⟨w, rfl, rel⟩
        obtain ⟨d, hd, rd1⟩ := rv.get hw
        have hm : d ∈ x :: ys := List.mem_of_getElem? hd
        have pd : d.pure = true := pures_at h2 d hm
        obtain ⟨cs, rd2⟩ := reads_of I sF rd1 pd v rel
        have e := (reads_det (h := h') (h' := h') (fun b o e _ => e) rd (PySem.W.reads_keeps hk rd2)).1
        exact ⟨w, H, I.kept hk, rel, k _ F _ H (Grow.refl sF) rd1 (p d hm e)⟩
      rcases hl with hl | hl
      · exact PySem.W.min_list_data (I.ok.hd hc) hl (by simpa [D.pys] using hR) (by simpa [D.pys] using h3) (by simpa [D.pys] using hD) fin
      · exact PySem.W.min_tuple_data (I.ok.hd hc) hl (by simpa [D.pys] using hR) (by simpa [D.pys] using h3) (by simpa [D.pys] using hD) fin
  · exact m.elim
section
variable {prog : Program} {w : World} {A : Around} {s : Shared} {E : Value → Shared → Prop}
/-- the least of two alike data: the one that is less, else the first -/
theorem min_two_data {a b : Value} {x y : PyData} {as : List Addr} {Q : Value → Shared → Prop} (hh : A.handled = none) (hr : ReadsAll s.heap [a, b] [x, y] as) (ha : PySem.W.AlikeAll [x, y]) (hu : A.units + 1 + PyData.depthAll [x, y] < cLine)
    (h : ∀ (i : Nat) v h' tk bs, [a, b][i]? = some v → Reads h' v (PySem.W.minD x [y]) bs → (∀ c o, s.heap.get? c = some o → h'.get? c = some o) → Q v { s with heap := h', toks := tk }) :
    wpAny (model prog w) A (call (.builtin "min") [a, b]) Q E s := by
  have hname : (toString "min" ++ toString ".loop" : String) = "min.loop" := by decide
  have hT : (s.heap.push { cls := .type "tuple", data := .seq #[a, b] }).IsTuple s.heap.objs.size #[a, b] := ⟨_, Heap.get?_push_size _ rfl, rfl, 0, rfl⟩
  have hp : ∀ c o, s.heap.get? c = some o → (s.heap.push { cls := .type "tuple", data := .seq #[a, b] }).get? c = some o := fun c o e => Heap.get?_push_of_some _ e
  refine call_function_tree F.kind_min F.plain_min F.entry_min (F.args_min2 _ _) ?_
  show wpAny _ A.in1 (Builtin.Builtins.bindParams "min" ["key", "default"] 0 ⟨[], []⟩ >>= _) _ _ s
  refine wpAny_bind (wpAny_of_eq (show Builtin.Builtins.bindParams "min" ["key", "default"] 0 ⟨[], []⟩ = pure [none, none] from rfl) ?_)
  show wpAny _ A.in1 (newTuple [a, b] >>= _) _ _ s
  refine wpAny_bind (wpAny_newObj_type ?_)
  have hr2 : ReadsAll (s.heap.push { cls := .type "tuple", data := .seq #[a, b] }) [a, b] [x, y] as := ReadsAll.keeps hp hr
  refine wpAny_bind (PySem.W.iter_tupleW (A := A.in1) hh hT fun s₂ e W st hfp hw hk => ?_)
  refine wpAny_bind (wpAny_newObj_type ?_)
  have hSf : s₂.heap.objs.size ∉ [_, s.heap.objs.size] := fun hm => Nat.lt_irrefl _ (hfp _ hm)
  rw [hname]
  refine wpAny_pure ⟨plainId_quiet F.plain_min_loop _, codeAny_min_loop_firstH W _ hw _ (PySem.W.cmpIn_lt (A := A.in1) hr2 ha (by show A.units + 1 + _ < _; exact hu)) s₂.heap.objs.size hSf (fresh_in hk) _ (by show 0 < 2; decide) (fun b o e => Heap.get?_push_of_some _ (hk b o e)) (W.frame 0 s₂ _ s₂.toks st (Nat.le_refl _) fun b _ o e => Heap.get?_push_of_some _ e) (Heap.get?_push_size _ rfl) fun v s' hP m => ?_⟩
  obtain ⟨h', tk, rfl, hk'⟩ := PySem.W.moved_old e rfl (Moved.drop_new (tk := s₂.toks) m (Nat.le_refl _))
  obtain ⟨bs, r, _, _, _⟩ := PySem.W.readsAll_atA hr2 _ v hP
  have e2 := (PySem.W.argBest_fold PySem.W.dataLt PyData.none x [y] 1 (Nat.le_refl _)).2
  have hkk : ∀ c o, s.heap.get? c = some o → h'.get? c = some o := fun c o e => hk' c o (hp c o e)
  exact h (argBest _ 1) v h' tk bs (by simpa using hP) (PySem.W.reads_keeps hk' (by unfold PySem.W.minD; rw [show [y] = [y].take 1 from rfl, ← e2]; exact r)) hkk
end
theorem c_min2d (hc : X.calm = true) (hr : Room 0 X.A) : CallR X (.builtin "min") (liftB X.K fun C ds P => bltR C .min2d ds P) := by
  intro pins s σ H xs us Q I r ⟨F, ds, C, P, ce, rs, m, k⟩
  have sF := ce.fh
  unfold bltR at m
  dsimp only at m
  split at m
  all_goals first | (rename_i hh; cases hh; done) | skip
  · rename_i x y _
    obtain ⟨h2, h3, h4, p⟩ := m
    have hl2 := rs.length
    obtain ⟨as, hR⟩ := reads_all I sF rs h2 us r
    have hlu := r.length
    obtain ⟨u1, u2, rfl⟩ : ∃ u1 u2, us = [u1, u2] := by
      rw [hl2] at hlu
      match us, hlu with
      | [u1, u2], _ => exact ⟨u1, u2, rfl⟩
    have hD : X.A.units + 1 + PyData.depthAll [x.py, y.py] < cLine := by
      have := hr.un
      have : PyData.depthAll [x.py, y.py] ≤ 64 := h4
      omega
    refine min_two_data (I.ok.hd hc) hR h3 hD fun i v h' tk bs hv rd hk => ?_
    obtain ⟨w, hw, rel⟩ : ∃ w, xs[i]? = some w ∧ RelV w v := by
      cases hw : xs[i]? with
      | none =>
        have := r.none_of hw
        rw [hv] at this; cases this
      | some w =>
        obtain ⟨u, hu, rel⟩ := r.get hw
        rw [hv] at hu
        cases hu
        exact ⟨w, rfl, rel⟩
    obtain ⟨d, hd, rd1⟩ := rs.get hw
    have hm : d ∈ [x, y] := List.mem_of_getElem? hd
    have pd : d.pure = true := pures_at h2 d hm
    obtain ⟨cs, rd2⟩ := reads_of I sF rd1 pd v rel
    have e := (reads_det (h := h') (h' := h') (fun b o e _ => e) rd (PySem.W.reads_keeps hk rd2)).1
    exact ⟨w, H, I.kept hk, rel, k _ F _ H (Grow.refl sF) rd1 (p d hm e)⟩
  · exact m.elim
theorem c_maxd (hc : X.calm = true) (hr : Room 0 X.A) : CallR X (.builtin "max") (liftB X.K fun C ds P => bltR C .maxd ds P) := by
  intro pins s σ H xs us Q I r ⟨F, ds, C, P, ce, rs, m, k⟩
  have sF := ce.fh
  unfold bltR at m
  dsimp only at m
  split at m
  all_goals first | (rename_i hh; cases hh; done) | skip
  · cases rs with
    | cons r1 rr =>
      cases rr
      obtain ⟨x, ys, h1, h2, h3, h4, p⟩ := m
      obtain ⟨a, vs, its, rfl, rv, rw', hl⟩ := seq_data I ce r1 h1
      rw [Vals.ref1 r]
      obtain ⟨as, hR⟩ := reads_all I sF rv h2 its rw'
      have hD : X.A.units + 1 + PyData.depthAll (D.pys (x :: ys)) < cLine := by
        have := hr.un
        omega
      have fin : ∀ (i : Nat) (v : Value) (h' : Heap) (tk : Nat) (bs : List Addr), its.toArray[i]? = some v → Reads h' v (PySem.W.maxD x.py (D.pys ys)) bs → (∀ b o, s.heap.get? b = some o → h'.get? b = some o) → EP X pins σ Q v { s with heap := h', toks := tk } := fun i v h' tk bs hv rd hk => by
        have hv2 : its[i]? = some v := by simpa using hv
        obtain ⟨w, hw, rel⟩ : ∃ w, vs[i]? = some w ∧ RelV w v := by
          cases hw : vs[i]? with
          | none =>
            have := rw'.none_of hw
            rw [hv2] at this; cases this
          | some w =>
            obtain ⟨u, hu, rel⟩ := rw'.get hw
            rw [hv2] at hu
            cases hu
            exact ⟨w, rfl, rel⟩
        obtain ⟨d, hd, rd1⟩ := rv.get hw
        have hm : d ∈ x :: ys := List.mem_of_getElem? hd
        have pd : d.pure = true := pures_at h2 d hm
        obtain ⟨cs, rd2⟩ := reads_of I sF rd1 pd v rel
        have e := (reads_det (h := h') (h' := h') (fun b o e _ => e) rd (PySem.W.reads_keeps hk rd2)).1
        exact ⟨w, H, I.kept hk, rel, k _ F _ H (Grow.refl sF) rd1 (p d hm e)⟩
      rcases hl with hl | hl
      · exact PySem.W.max_list_data (I.ok.hd hc) hl (by simpa [D.pys] using hR) (by simpa [D.pys] using h3) (by simpa [D.pys] using hD) fin
      · exact PySem.W.max_tuple_data (I.ok.hd hc) hl (by simpa [D.pys] using hR) (by simpa [D.pys] using h3) (by simpa [D.pys] using hD) fin
  · exact m.elim
theorem c_repr (gd : X.A.guards = some []) (r0 : Room 0 X.A) : CallR X (.builtin "repr") (liftB X.K fun C ds P => bltR C .repr ds P) := by
  intro pins s σ H xs us Q I r ⟨F, ds, C, P, ce, rs, m, k⟩
  have sF := ce.fh
  obtain ⟨d, hds, hp, hs, hn, he, hz, hm⟩ : ∃ d, ds = [d] ∧ d.pure = true ∧ d.py.showable = true ∧ d.py.hasDict = false ∧ d.py.depth ≤ 64 ∧ d.py.shown.length ≤ sizeLine ∧ P (.str d.py.shown) := by
    rcases ds with _ | ⟨d, _ | ⟨e, r⟩⟩
    · exact m.elim
    · obtain ⟨a1, a2, a3, a4, a5, a6⟩ := (show d.pure = true ∧ d.py.showable = true ∧ d.py.hasDict = false ∧ d.py.depth ≤ 64 ∧ d.py.shown.length ≤ sizeLine ∧ P (.str d.py.shown) from m)
      exact ⟨d, rfl, a1, a2, a3, a4, a5, a6⟩
    · exact (show False from m).elim
  subst hds
  cases rs with
  | cons r1 rr =>
    cases rr
    obtain ⟨u, rfl, ru⟩ : ∃ u, us = [u] ∧ RelV _ u := by
      cases r with
      | cons h t => cases t; exact ⟨_, rfl, h⟩
    have un := r0.un
    obtain ⟨as, q⟩ := reads_of I sF r1 hp u ru
    have fin : ∀ (h' : Heap) (t : Tok) (tk : Nat), (∀ b o, s.heap.get? b = some o → h'.get? b = some o) → EP X pins σ Q (.str d.py.shown t) { s with heap := h', toks := tk } := fun h' t tk hk =>
      ⟨.str d.py.shown, H, I.kept hk, ⟨t, rfl⟩, k _ F _ H (Grow.refl sF) (.str _) hm⟩
    cases r1 with
    | non =>
      obtain rfl : u = Value.none := ru
      exact PySem.P.repr_of_none (fin s.heap _ _ fun _ _ e => e)
    | bl b =>
      obtain rfl : u = Value.bool b := ru
      exact PySem.P.repr_of_bool (by have := fin s.heap s.toks (s.toks + 1) fun _ _ e => e; cases b <;> exact this)
    | int i =>
      obtain ⟨t, rfl⟩ := (show ∃ t, u = Value.int i t from ru)
      exact PySem.P.repr_of_int (of_decide_eq_true (show decide (i.natAbs.log2 < 1920) = true from hs)) (fin s.heap _ _ fun _ _ e => e)
    | str x =>
      obtain ⟨t, rfl⟩ := (show ∃ t, u = Value.str x t from ru)
      exact PySem.P.repr_of_str (fin s.heap _ _ fun _ _ e => e) hz
    | tup h rs =>
      obtain rfl : u = Value.ref _ := ru
      exact repr_of_reads' q hs (fun e => by rw [hn] at e; cases e) gd (by omega) (fun _ _ e => e) (fun h' t tk hk => fin h' t tk hk) hz
    | lst h rs =>
      obtain rfl : u = Value.ref _ := ru
      exact repr_of_reads' q hs (fun e => by rw [hn] at e; cases e) gd (by omega) (fun _ _ e => e) (fun h' t tk hk => fin h' t tk hk) hz
    | scr _ _ => exact nomatch hp
    | ref _ => exact nomatch hp
    | dic _ _ => exact nomatch hp
end
end M61

set_option Elab.async false
set_option linter.all false
set_option autoImplicit false
set_option maxRecDepth 100000
/-! M4a: how the relation goes on. -/
namespace M61
open PySem PySem.Spec PyProof.Rows L2
section
variable {K : PySem.W.Frag} {B : Base} {F F' H H' : Hp} {σ σ' : L2.St} {ρ ρ' : Rho} {C C' : CM}
theorem set_get {α : Type} {l : List α} {i j : Nat} {x y : α} (h : (l.set i x)[j]? = some y) : (i = j ∧ y = x ∧ i < l.length) ∨ (i ≠ j ∧ l[j]? = some y) := by
  rw [List.getElem?_set] at h
  split at h
  · rename_i q
    split at h
    · rename_i q2
      cases h
      exact .inl ⟨q, rfl, q2⟩
    · cases h
  · rename_i q
    exact .inr ⟨q, h⟩
/-- an own list changes -/
theorem Rel.mutOwn (R : Rel K B F σ H ρ C) {i : Nat} {xs xs' : List D} {a : Addr} {vs' : List V} (h : ρ[i]? = some (some (Dv.own xs))) (hs : σ[i]? = some (some (V.ref a))) (r : Reps K F vs' xs') :
    Rel K B F σ (upd H a (HO.lst vs')) (ρ.set i (some (Dv.own xs'))) C := by
  obtain ⟨a', vs, e, hl, r0, n1, n2, n3⟩ := R.own i xs h
  rw [hs] at e
  cases e
  have ne : ∀ {b : Addr} {o : HO}, F b = some o → b ≠ a := fun q z => by rw [z, n1] at q; cases q
  have neC : ∀ {b : Addr} {c : Cell}, C b = some c → b ≠ a := fun q z => by rw [z, n2] at q; cases q
  have neB : ∀ {b : Addr} {o : HO}, B.H b = some o → b ≠ a := fun q z => by rw [z, n3] at q; cases q
  refine ⟨by rw [List.length_set]; exact R.len, ⟨fun b o q => by rw [upd_ne (ne q)]; exact R.ce.fh b o q, fun b c q => ?_⟩, ⟨R.fr.ff, R.fr.fnew, fun b o q q2 => by rw [upd_ne (neB q)]; exact R.fr.frame b o q q2, R.fr.cnew, fun b o q => by rw [upd_ne (neB q)]; exact R.fr.stay b o q⟩,
    fun j d q => ?_, fun j ys q => ?_, fun j k ys zs b n q1 q2 q3 => ?_⟩
  · obtain ⟨q1, q2⟩ := R.ce.cel b c q
    exact ⟨q1.mono (Same.refl _) (fun o z => by rw [upd_ne (neC q)]; exact z), q2⟩
  · rcases set_get q with ⟨_, z, _⟩ | ⟨_, q⟩
    · cases z
    · exact R.dat j d q
  · rcases set_get q with ⟨rfl, z, _⟩ | ⟨nij, q⟩
    · cases z
      exact ⟨a, vs', hs, upd_same, r, n1, n2, n3⟩
    · obtain ⟨b, ws, e1, e2, e3, e4, e5, e6⟩ := R.own j ys q
      have nb : b ≠ a := fun z => by subst z; exact R.dis i j _ _ b nij h q hs e1
      exact ⟨b, ws, e1, by rw [upd_ne nb]; exact e2, e3, e4, e5, e6⟩
  · have g : ∀ {j : Nat} {ys : List D}, (ρ.set i (some (Dv.own xs')))[j]? = some (some (Dv.own ys)) → ∃ ys', ρ[j]? = some (some (Dv.own ys')) := fun {j ys} q => by
      rcases set_get q with ⟨rfl, z, _⟩ | ⟨_, q⟩
      · exact ⟨_, h⟩
      · exact ⟨_, q⟩
    obtain ⟨y1, g1⟩ := g q1
    obtain ⟨y2, g2⟩ := g q2
    exact R.dis j k y1 y2 b n g1 g2 q3
theorem upd_inv {F : Hp} {a b : Addr} {o u : HO} (h : upd F a o b = some u) : (b = a ∧ u = o) ∨ (b ≠ a ∧ F b = some u) := by
  by_cases q : b = a
  · subst q; rw [upd_same] at h; cases h; exact .inl ⟨rfl, rfl⟩
  · rw [upd_ne q] at h; exact .inr ⟨q, h⟩
/-- a list that no slot holds is left as it is from now on -/
theorem Rel.frzNew (R : Rel K B F σ H ρ C) {a : Addr} {vs : List V} (hl : H a = some (HO.lst vs)) (n1 : F a = none) (n2 : C a = none) (n3 : B.H a = none) (no : NotOwn ρ σ a) :
    Rel K B (upd F a (HO.lst vs)) σ H ρ C := by
  have s1 : Same F (upd F a (HO.lst vs)) := same_upd n1
  refine ⟨R.len, ⟨fun b o q => ?_, fun b c q => ?_⟩, ⟨R.fr.ff.trans s1, fun b o q => ?_, R.fr.frame, R.fr.cnew, R.fr.stay⟩, fun i d q => ?_, fun i xs q => ?_, R.dis⟩
  · rcases upd_inv q with ⟨rfl, rfl⟩ | ⟨_, q⟩
    · exact hl
    · exact R.ce.fh b o q
  · obtain ⟨q1, q2⟩ := R.ce.cel b c q
    have nb : b ≠ a := fun z => by rw [z, n2] at q; cases q
    exact ⟨q1.mono s1 fun _ z => z, by rw [upd_ne nb]; exact q2⟩
  · rcases upd_inv q with ⟨rfl, rfl⟩ | ⟨_, q⟩
    · exact .inr n3
    · exact R.fr.fnew b o q
  · obtain ⟨v, e, r⟩ := R.dat i d q
    exact ⟨v, e, r.mono s1⟩
  · obtain ⟨b, ws, e1, e2, e3, e4, e5, e6⟩ := R.own i xs q
    have nb : b ≠ a := fun z => by subst z; exact no i xs q e1
    exact ⟨b, ws, e1, e2, e3.mono s1, by rw [upd_ne nb]; exact e4, e5, e6⟩
/-- an own list is left as it is from now on -/
theorem Rel.frzOwn (R : Rel K B F σ H ρ C) {i : Nat} {xs : List D} (h : ρ[i]? = some (some (Dv.own xs))) :
    ∃ a vs, σ[i]? = some (some (V.ref a)) ∧ Same F (upd F a (HO.lst vs)) ∧ Rep K (upd F a (HO.lst vs)) (.ref a) (.lst xs) ∧ Rel K B (upd F a (HO.lst vs)) σ H (ρ.set i (some (Dv.dat (.lst xs)))) C := by
  obtain ⟨a, vs, e, hl, r0, n1, n2, n3⟩ := R.own i xs h
  have hlt : i < ρ.length := (List.getElem?_eq_some_iff.mp h).1
  have s1 : Same F (upd F a (HO.lst vs)) := same_upd n1
  have rep : Rep K (upd F a (HO.lst vs)) (.ref a) (.lst xs) := .lst upd_same (r0.mono s1)
  -- the slot forgotten
  have R1 : Rel K B F σ H (ρ.set i none) C := R.weak (by rw [List.length_set]; exact R.len) fun j x q => by
    rcases set_get q with ⟨_, z, _⟩ | ⟨_, q⟩
    · cases z
    · exact ⟨q, rfl⟩
  have no : NotOwn (ρ.set i none) σ a := fun j ys q e2 => by
    rcases set_get q with ⟨_, z, _⟩ | ⟨nij, q⟩
    · cases z
    · exact R.dis i j _ _ a nij h q e e2
  have R2 := (R1.frzNew hl n1 n2 n3 no).setDat i rep
  have es : σ.set i (some (.ref a)) = σ := by
    apply List.ext_getElem?
    intro j
    rw [List.getElem?_set]
    split
    · rename_i q
      subst q
      rw [if_pos (by rw [← R.len]; exact hlt), e]
    · rfl
  rw [es, List.set_set] at R2
  exact ⟨a, vs, e, s1, rep, R2⟩
/-- a cell changes -/
theorem Rel.mutCell (R : Rel K B F σ H ρ C) {a : Addr} {c c' : Cell} {o : HO} (h : C a = some c) (r : CellRep K F (upd H a o) a c') : Rel K B F σ (upd H a o) ρ (fun b => if b = a then some c' else C b) := by
  obtain ⟨r0, n0⟩ := R.ce.cel a c h
  have neF : ∀ {b : Addr} {u : HO}, F b = some u → b ≠ a := fun q z => by rw [z, n0] at q; cases q
  refine ⟨R.len, ⟨fun b u q => by rw [upd_ne (neF q)]; exact R.ce.fh b u q, fun b x q => ?_⟩, ⟨R.fr.ff, R.fr.fnew, fun b u q q2 => ?_, fun b x q => ?_, fun b u q => ?_⟩, R.dat, fun i xs q => ?_, R.dis⟩
  · by_cases z : b = a
    · subst z
      rw [if_pos rfl] at q
      cases q
      exact ⟨r, n0⟩
    · rw [if_neg z] at q
      obtain ⟨q1, q2⟩ := R.ce.cel b x q
      exact ⟨q1.mono (Same.refl _) (fun u y => by rw [upd_ne z]; exact y), q2⟩
  · have z : b ≠ a := fun z => by
      subst z
      rcases R.fr.cnew b c h with ⟨c0, e⟩ | e
      · rw [q2] at e; cases e
      · rw [q] at e; cases e
    rw [upd_ne z]
    exact R.fr.frame b u q q2
  · by_cases z : b = a
    · subst z; exact R.fr.cnew b c h
    · rw [if_neg z] at q; exact R.fr.cnew b x q
  · by_cases z : b = a
    · subst z; exact ⟨_, upd_same⟩
    · rw [upd_ne z]; exact R.fr.stay b u q
  · obtain ⟨b, ws, e1, e2, e3, e4, e5, e6⟩ := R.own i xs q
    have nb : b ≠ a := fun z => by rw [z, h] at e5; cases e5
    exact ⟨b, ws, e1, by rw [upd_ne nb]; exact e2, e3, e4, by rw [if_neg nb]; exact e5, e6⟩
/-- a list becomes a cell -/
theorem Rel.newCell (R : Rel K B F σ H ρ C) {a : Addr} {vs : List V} {xs : List D} (hl : H a = some (HO.lst vs)) (r : Reps K F vs xs) (n1 : F a = none) (n3 : B.H a = none) (no : NotOwn ρ σ a) :
    Rel K B F σ H ρ (fun b => if b = a then some (.lst xs) else C b) := by
  refine ⟨R.len, ⟨R.ce.fh, fun b x q => ?_⟩, ⟨R.fr.ff, R.fr.fnew, R.fr.frame, fun b x q => ?_, R.fr.stay⟩, R.dat, fun i ys q => ?_, R.dis⟩
  · by_cases z : b = a
    · subst z
      rw [if_pos rfl] at q
      cases q
      exact ⟨⟨vs, hl, r⟩, n1⟩
    · rw [if_neg z] at q; exact R.ce.cel b x q
  · by_cases z : b = a
    · subst z; exact .inr n3
    · rw [if_neg z] at q; exact R.fr.cnew b x q
  · obtain ⟨b, ws, e1, e2, e3, e4, e5, e6⟩ := R.own i ys q
    have nb : b ≠ a := fun z => by subst z; exact no i ys q e1
    exact ⟨b, ws, e1, e2, e3, e4, by rw [if_neg nb]; exact e5, e6⟩
/-- the address is a slot's own list -/
def OwnAt (ρ : Rho) (σ : L2.St) (a : Addr) : Prop := ∃ (i : Nat) (xs : List D), ρ[i]? = some (some (Dv.own xs)) ∧ σ[i]? = some (some (V.ref a))
open Classical in
/-- from here on: all but what the slots hold alone is to stay -/
noncomputable def reB (F H : Hp) (ρ : Rho) (σ : L2.St) (C : CM) : Base := ⟨fun a => if OwnAt ρ σ a then none else H a, F, C⟩
theorem reB_own {a : Addr} (h : OwnAt ρ σ a) : (reB F H ρ σ C).H a = none := by unfold reB; simp [h]
theorem reB_not {a : Addr} (h : ¬ OwnAt ρ σ a) : (reB F H ρ σ C).H a = H a := by unfold reB; simp [h]
theorem reB_some {a : Addr} {o : HO} (h : (reB F H ρ σ C).H a = some o) : ¬ OwnAt ρ σ a ∧ H a = some o := by
  by_cases q : OwnAt ρ σ a
  · rw [reB_own q] at h; cases h
  · rw [reB_not q] at h; exact ⟨q, h⟩
theorem Rel.rebase (R : Rel K B F σ H ρ C) : Rel K (reB F H ρ σ C) F σ H ρ C := by
  refine ⟨R.len, R.ce, ⟨Same.refl _, fun _ _ h => .inl h, fun a o h _ => (reB_some h).2, fun _ c h => .inl ⟨c, h⟩, fun a o h => ⟨o, (reB_some h).2⟩⟩, R.dat, fun i xs h => ?_, R.dis⟩
  obtain ⟨a, vs, e1, e2, e3, e4, e5, _⟩ := R.own i xs h
  exact ⟨a, vs, e1, e2, e3, e4, e5, reB_own ⟨i, xs, h, e1⟩⟩
theorem wipeR_length (ρ : Rho) : ∀ vs : List Nat, (wipeR ρ vs).length = ρ.length
  | [] => rfl
  | v :: vs => by unfold wipeR; rw [List.length_set, wipeR_length ρ vs]
theorem wipeR_some {i : Nat} {x : Dv} : ∀ {vs : List Nat}, (wipeR ρ vs)[i]? = some (some x) → ρ[i]? = some (some x) ∧ i ∉ vs
  | [], h => ⟨h, by simp⟩
  | v :: vs, h => by
    unfold wipeR at h
    rcases set_get h with ⟨_, z, _⟩ | ⟨n, h⟩
    · cases z
    · obtain ⟨h1, h2⟩ := wipeR_some h
      exact ⟨h1, by simp only [List.mem_cons, not_or]; exact ⟨fun e => n e.symm, h2⟩⟩
theorem wipeR_out {i : Nat} : ∀ {vs : List Nat}, i ∉ vs → (wipeR ρ vs)[i]? = ρ[i]?
  | [], _ => rfl
  | v :: vs, h => by
    simp only [List.mem_cons, not_or] at h
    unfold wipeR
    rw [List.getElem?_set_ne (fun e => h.1 e.symm)]
    exact wipeR_out h.2
theorem wipe_outS {i : Nat} : ∀ {vs : List Nat}, i ∉ vs → (wipe σ vs)[i]? = σ[i]?
  | [], _ => rfl
  | v :: vs, h => by
    simp only [List.mem_cons, not_or] at h
    unfold wipe
    rw [List.getElem?_set_ne (fun e => h.1 e.symm)]
    exact wipe_outS h.2
theorem wipe_in {i : Nat} : ∀ {vs : List Nat}, i ∈ vs → (wipe σ vs)[i]? = if i < σ.length then some none else none
  | v :: vs, h => by
    unfold wipe
    by_cases q : v = i
    · subst q
      rw [List.getElem?_set_self']
      by_cases z : v < σ.length
      · rw [if_pos z, List.getElem?_eq_getElem (by rw [wipe_length]; exact z)]; rfl
      · rw [if_neg z, List.getElem?_eq_none (by rw [wipe_length]; omega)]; rfl
    · rw [List.getElem?_set_ne q]
      rcases List.mem_cons.mp h with e | e
      · exact absurd e.symm q
      · exact wipe_in e
theorem wipe_eq {vs : List Nat} (hl : σ'.length = σ.length) (h : ∀ i, i ∉ vs → σ'[i]? = σ[i]?) : wipe σ' vs = wipe σ vs := by
  apply List.ext_getElem?
  intro i
  by_cases q : i ∈ vs
  · rw [wipe_in q, wipe_in q, hl]
  · rw [wipe_outS q, wipe_outS q, h i q]
theorem Rel.wiped (R : Rel K B F σ H ρ C) (vs : List Nat) : Rel K B F (wipe σ vs) H (wipeR ρ vs) C :=
  R.weak (by rw [wipeR_length, wipe_length]; exact R.len) fun i x h => ⟨(wipeR_some h).1, wipe_outS (wipeR_some h).2⟩
/-- back from a block -/
theorem Rel.back {vs : List Nat} {σ2 : L2.St} {ρ2 : Rho} (R : Rel K B F σ H ρ C) (R' : Rel K (reB F H (wipeR ρ vs) (wipe σ vs) C) F' σ2 H' ρ2 C') (h : ∀ i, i ∉ vs → ρ2[i]? = ρ[i]? ∧ σ2[i]? = σ[i]?) : Rel K B F' σ H' ρ C' := by
  have own_of : ∀ {a : Addr}, OwnAt (wipeR ρ vs) (wipe σ vs) a → OwnAt ρ σ a := fun ⟨i, xs, q1, q2⟩ => by
    obtain ⟨q, n⟩ := wipeR_some q1
    exact ⟨i, xs, q, by rw [← wipe_outS n]; exact q2⟩
  have hN : ∀ {a : Addr}, (reB F H (wipeR ρ vs) (wipe σ vs) C).H a = none → B.H a = none := fun {a} q => by
    by_cases z : OwnAt (wipeR ρ vs) (wipe σ vs) a
    · obtain ⟨i, xs, q1, q2⟩ := own_of z
      obtain ⟨b, ws, e1, _, _, _, _, e6⟩ := R.own i xs q1
      rw [q2] at e1; cases e1; exact e6
    · rw [reB_not z] at q; exact R.base_none q
  refine ⟨R.len, R'.ce, ⟨R.fr.ff.trans R'.fr.ff, fun b o q => ?_, fun b o q q2 => ?_, fun b c q => ?_, fun b o q => ?_⟩, fun i d q => ?_, fun i xs q => ?_, R.dis⟩
  · rcases R'.fr.fnew b o q with q | q
    · exact R.fr.fnew b o q
    · exact .inr (hN q)
  · have nC : C b = none := by
      cases e : C b with
      | none => rfl
      | some c =>
        rcases R.fr.cnew b c e with ⟨c0, z⟩ | z
        · rw [q2] at z; cases z
        · rw [q] at z; cases z
    refine R'.fr.frame b o ?_ nC
    by_cases z : OwnAt (wipeR ρ vs) (wipe σ vs) b
    · obtain ⟨i, xs, q1, q3⟩ := own_of z
      obtain ⟨b', ws, e1, _, _, _, _, e6⟩ := R.own i xs q1
      rw [q3] at e1; cases e1; rw [q] at e6; cases e6
    · rw [reB_not z]; exact R.fr.frame b o q q2
  · rcases R'.fr.cnew b c q with ⟨c0, q⟩ | q
    · exact R.fr.cnew b c0 q
    · exact .inr (hN q)
  · cases e : (reB F H (wipeR ρ vs) (wipe σ vs) C).H b with
    | none => rw [hN e] at q; cases q
    | some u => exact R'.fr.stay b u e
  · obtain ⟨v, e, r⟩ := R.dat i d q
    exact ⟨v, e, r.mono R'.fr.ff⟩
  · obtain ⟨a, ws, e1, e2, e3, e4, e5, e6⟩ := R.own i xs q
    by_cases iv : i ∈ vs
    · have na : ¬ OwnAt (wipeR ρ vs) (wipe σ vs) a := fun ⟨j, ys, q1, q2⟩ => by
        obtain ⟨q3, nj⟩ := wipeR_some q1
        rw [wipe_outS nj] at q2
        exact R.dis i j xs ys a (fun z => nj (z ▸ iv)) q q3 e1 q2
      have hb : (reB F H (wipeR ρ vs) (wipe σ vs) C).H a = some (HO.lst ws) := by rw [reB_not na]; exact e2
      refine ⟨a, ws, e1, R'.fr.frame a _ hb e5, e3.mono R'.fr.ff, ?_, ?_, e6⟩
      · cases z : F' a with
        | none => rfl
        | some o =>
          rcases R'.fr.fnew a o z with y | y
          · exact nomatch e4.symm.trans y
          · rw [hb] at y; cases y
      · cases z : C' a with
        | none => rfl
        | some o =>
          rcases R'.fr.cnew a o z with ⟨_, y⟩ | y
          · exact nomatch e5.symm.trans y
          · rw [hb] at y; cases y
    · obtain ⟨p1, p2⟩ := h i iv
      obtain ⟨b, us, f1, f2, f3, f4, f5, _⟩ := R'.own i xs (by rw [p1]; exact q)
      rw [p2, e1] at f1
      cases f1
      exact ⟨a, us, e1, f2, f3, f4, f5, e6⟩
/-- what stood and isn't a slot's own stands as it stood -/
theorem Rel.keep {a : Addr} {o : HO} {ρ0 : Rho} {σ0 : L2.St} {F0 H0 : Hp} {C0 : CM} (R' : Rel K (reB F0 H0 ρ0 σ0 C0) F' σ' H' ρ' C') (hl : H0 a = some o) (n1 : F0 a = none) (n2 : C0 a = none) (no : ¬ OwnAt ρ0 σ0 a) : H' a = some o ∧ F' a = none ∧ C' a = none := by
  have hb : (reB F0 H0 ρ0 σ0 C0).H a = some o := by rw [reB_not no]; exact hl
  refine ⟨R'.fr.frame a _ hb n2, ?_, ?_⟩
  · cases z : F' a with
    | none => rfl
    | some u =>
      rcases R'.fr.fnew a u z with y | y
      · exact nomatch n1.symm.trans y
      · rw [hb] at y; cases y
  · cases z : C' a with
    | none => rfl
    | some u =>
      rcases R'.fr.cnew a u z with ⟨_, y⟩ | y
      · exact nomatch n2.symm.trans y
      · rw [hb] at y; cases y
end
end M61

set_option Elab.async false
set_option linter.all false
set_option autoImplicit false
set_option maxRecDepth 100000
/-! M4b: readings by abstract values; the rules of expressions. -/
namespace M61
open PySem PySem.Spec PyProof.Rows L2
abbrev ME := Rho → CM → (D → Rho → CM → Prop) → Prop
abbrev MT := Rho → CM → (Bool → Rho → CM → Prop) → Prop
abbrev ML := Rho → CM → (List D → Rho → CM → Prop) → Prop
abbrev MO := Rho → CM → (Option Int → Rho → CM → Prop) → Prop
section
variable (K : PySem.W.Frag)
def rd (m : ME) : TE := fun σ H Q => ∃ (B : Base) (F : Hp) (ρ : Rho) (C : CM) (P : D → Rho → CM → Prop), Rel K B F σ H ρ C ∧ m ρ C P ∧
  ∀ d ρ' C' F' v H', Same F F' → Rel K B F' σ H' ρ' C' → Rep K F' v d → P d ρ' C' → Q v H'
def rdT (m : MT) : TT := fun σ H Q => ∃ (B : Base) (F : Hp) (ρ : Rho) (C : CM) (P : Bool → Rho → CM → Prop), Rel K B F σ H ρ C ∧ m ρ C P ∧
  ∀ b ρ' C' F' H', Same F F' → Rel K B F' σ H' ρ' C' → P b ρ' C' → Q b H'
def rdA (m : ML) : TA := fun σ H Q => ∃ (B : Base) (F : Hp) (ρ : Rho) (C : CM) (P : List D → Rho → CM → Prop), Rel K B F σ H ρ C ∧ m ρ C P ∧
  ∀ ds ρ' C' F' vs H', Same F F' → Rel K B F' σ H' ρ' C' → Reps K F' vs ds → P ds ρ' C' → Q vs H'
def rdO (m : MO) : TO := fun σ H Q => ∃ (B : Base) (F : Hp) (ρ : Rho) (C : CM) (P : Option Int → Rho → CM → Prop), Rel K B F σ H ρ C ∧ m ρ C P ∧
  ∀ o ρ' C' F' H', Same F F' → Rel K B F' σ H' ρ' C' → P o ρ' C' → Q o H'
/-- a fresh list -/
def rdL (m : ML) : TE := fun σ H Q => ∃ (B : Base) (F : Hp) (ρ : Rho) (C : CM) (P : List D → Rho → CM → Prop), Rel K B F σ H ρ C ∧ m ρ C P ∧
  ∀ ds ρ' C' F' a vs H', Same F F' → Rel K B F' σ H' ρ' C' → H' a = some (HO.lst vs) → Reps K F' vs ds → F' a = none → C' a = none → B.H a = none → NotOwn ρ' σ a → P ds ρ' C' → Q (.ref a) H'
def rdI (m : ML) : TI := fun σ H R => ∃ (B : Base) (F : Hp) (ρ : Rho) (C : CM) (P : List D → Rho → CM → Prop), Rel K B F σ H ρ C ∧ m ρ C P ∧
  ∀ ds ρ' C' F' J H', Same F F' → Rel K B F' σ H' ρ' C' → IterOk K F' ds J → P ds ρ' C' → R J H'
end
section
variable {X : Cx}
theorem pe_weak {e : Expr} {t t' : TE} (h : PE X e t) (k : ∀ σ H Q, t' σ H Q → t σ H Q) : PE X e t' := ⟨fun pins s σ H Q I q => h.run pins s σ H Q I (k σ H Q q)⟩
theorem pt_weak {e : Expr} {t t' : TT} (h : PT X e t) (k : ∀ σ H Q, t' σ H Q → t σ H Q) : PT X e t' := ⟨fun pins s σ H Q I q => h.run pins s σ H Q I (k σ H Q q)⟩
theorem pw_weak {e : Expr} {t t' : TT} (h : PW X e t) (k : ∀ σ H Q, t' σ H Q → t σ H Q) : PW X e t' := ⟨fun w pins s σ H Q I q => h.run w pins s σ H Q I (k σ H Q q)⟩
theorem pa_weak {e : List Expr} {t t' : TA} (h : PA X e t) (k : ∀ σ H Q, t' σ H Q → t σ H Q) : PA X e t' := ⟨fun pos pins s σ H Q I q => h.run pos pins s σ H Q I (k σ H Q q)⟩
theorem po_weak {e : Option Expr} {t t' : TO} (h : PO X e t) (k : ∀ σ H Q, t' σ H Q → t σ H Q) : PO X e t' := ⟨fun pins s σ H Q I q => h.run pins s σ H Q I (k σ H Q q)⟩
theorem pi_weak {tg e : Expr} {t t' : TI} (h : PI X tg e t) (k : ∀ σ H Q, t' σ H Q → t σ H Q) : PI X tg e t' := ⟨fun pins s σ H Q I q => h.run pins s σ H Q I (k σ H Q q)⟩

theorem e_var {i : Nat} {e : Expr} (h : PE X e (tVar i)) : PE X e (rd X.K fun ρ C P => varD ρ i fun d => P d ρ C) := pe_weak h fun σ H Q ⟨B, F, ρ, C, P, R, m, k⟩ => by
  unfold varD at m
  dsimp only at m
  split at m
  · rename_i d hd
    obtain ⟨v, e, r⟩ := R.dat i d hd
    exact ⟨v, e, k d ρ C F v H (Same.refl _) R r m⟩
  · exact m.elim
theorem e_mv {i : Nat} {e : Expr} (h : PE X e (tVar i)) : PE X e (rd X.K fun ρ C P => varM ρ i fun d ρ1 => P d ρ1 C) := pe_weak h fun σ H Q ⟨B, F, ρ, C, P, R, m, k⟩ => by
  unfold varM at m
  dsimp only at m
  split at m
  · rename_i xs hx
    obtain ⟨a, vs, e, s1, rep, R2⟩ := R.frzOwn hx
    exact ⟨_, e, k _ _ C _ _ H s1 R2 rep m⟩
  · rename_i d hx
    obtain ⟨v, e, r⟩ := R.dat i d hx
    exact ⟨v, e, k d ρ C F v H (Same.refl _) R r m⟩
  · exact m.elim
theorem e_const {d : D} {v : V} {e : Expr} (h : PE X e (tC v)) (r : ∀ F, Rep X.K F v d) : PE X e (rd X.K fun ρ C P => P d ρ C) := pe_weak h fun σ H Q ⟨B, F, ρ, C, P, R, m, k⟩ =>
  k d ρ C F v H (Same.refl _) R (r F) m
theorem rd_bind {ma : ME} {mb : D → ME} {σ : L2.St} {H : Hp} {Q : VK} {B : Base} {F : Hp} {ρ : Rho} {C : CM} {P : D → Rho → CM → Prop} (R : Rel X.K B F σ H ρ C) (m : ma ρ C P)
    (k : ∀ d ρ' C' F' v H', Same F F' → Rel X.K B F' σ H' ρ' C' → Rep X.K F' v d → P d ρ' C' → Q v H') : rd X.K ma σ H Q := ⟨B, F, ρ, C, P, R, m, k⟩
/-- two expressions, then an operation by values -/
theorem e_op2 {r : D → D → (D → Prop) → Prop} {ma mb : ME} {e : Expr} (h : PE X e (tOp (lift2 X.K r) (rd X.K ma) (rd X.K mb))) :
    PE X e (rd X.K fun ρ C P => ma ρ C fun x ρ1 C1 => mb ρ1 C1 fun y ρ2 C2 => r x y fun d => P d ρ2 C2) := pe_weak h fun σ H Q ⟨B, F, ρ, C, P, R, m, k⟩ =>
  ⟨B, F, ρ, C, _, R, m, fun x ρ1 C1 F1 v1 H1 s1 R1 r1 q1 => ⟨B, F1, ρ1, C1, _, R1, q1, fun y ρ2 C2 F2 v2 H2 s2 R2 r2 q2 =>
    ⟨F2, x, y, _, R2.ce.fh, r1.mono s2, r2, q2, fun d F3 v3 H3 g r3 p3 => k d ρ2 C2 F3 v3 H3 (s1.trans (s2.trans g.ff)) (R2.grow g) r3 p3⟩⟩⟩
theorem e_neg {ma : ME} {e : Expr} (h : PE X e (tUn (rU fun i => .int (-i)) (rd X.K ma))) :
    PE X e (rd X.K fun ρ C P => ma ρ C fun x ρ1 C1 => match x with | .int i => P (.int (-i)) ρ1 C1 | _ => False) := pe_weak h fun σ H Q ⟨B, F, ρ, C, P, R, m, k⟩ =>
  ⟨B, F, ρ, C, _, R, m, fun x ρ1 C1 F1 v1 H1 s1 R1 r1 q1 => by
    try dsimp only at q1
    split at q1
    · cases r1
      exact ⟨_, rfl, k _ ρ1 C1 F1 _ H1 s1 R1 (.int _) q1⟩
    · exact q1.elim⟩
/-- the value within a truth -/
def blP (f : Bool → Prop) : D → Prop
  | .bl b => f b
  | _ => False
theorem blP_inv {K : PySem.W.Frag} {F : Hp} {f : Bool → Prop} {d : D} {v : V} (r : Rep K F v d) (p : blP f d) : ∃ b, d = .bl b ∧ v = .bl b ∧ f b := by
  cases r <;> first | exact p.elim | skip
  exact ⟨_, rfl, rfl, p⟩
theorem e_chn {r r' : D → D → (Bool → Prop) → Prop} {ma mb mc : ME} {e : Expr} (h : PE X e (tChain (lift2 X.K fun d e P => r d e fun b => P (.bl b)) (lift2 X.K fun d e P => r' d e fun b => P (.bl b)) (rd X.K ma) (rd X.K mb) (rd X.K mc))) :
    PE X e (rd X.K fun ρ C P => ma ρ C fun x ρ1 C1 => mb ρ1 C1 fun y ρ2 C2 => r x y fun k => if k = true then mc ρ2 C2 fun z ρ3 C3 => r' y z fun k' => P (.bl k') ρ3 C3 else P (.bl false) ρ2 C2) :=
  pe_weak h fun σ H Q ⟨B, F, ρ, C, P, R, m, k⟩ =>
  ⟨B, F, ρ, C, _, R, m, fun x ρ1 C1 F1 v1 H1 s1 R1 r1 q1 => ⟨B, F1, ρ1, C1, _, R1, q1, fun y ρ2 C2 F2 v2 H2 s2 R2 r2 q2 =>
    ⟨F2, x, y, blP fun k => if k = true then mc ρ2 C2 fun z ρ3 C3 => r' y z fun k' => P (.bl k') ρ3 C3 else P (.bl false) ρ2 C2, R2.ce.fh, r1.mono s2, r2, q2, fun d F3 v3 H3 g r3 p3 => by
      obtain ⟨b, rfl, rfl, p3⟩ := blP_inv r3 p3
      refine ⟨b, rfl, ?_⟩
      cases b with
      | false => exact k _ ρ2 C2 F3 _ H3 (s1.trans (s2.trans g.ff)) (R2.grow g) (.bl _) p3
      | true => exact ⟨B, F3, ρ2, C2, _, R2.grow g, p3, fun z ρ3 C3 F4 v4 H4 s4 R4 r4 q4 => ⟨F4, y, z, blP fun k' => P (.bl k') ρ3 C3, R4.ce.fh, (r2.mono g.ff).mono s4, r4, q4, fun d F5 v5 H5 g5 r5 p5 => by
          obtain ⟨b, rfl, rfl, p5⟩ := blP_inv r5 p5
          exact k _ ρ3 C3 F5 _ H5 (s1.trans (s2.trans (g.ff.trans (s4.trans g5.ff)))) (R4.grow g5) (.bl _) p5⟩⟩⟩⟩⟩
theorem e_and {ma mb : ME} {e : Expr} (h : PE X e (tAndV (rd X.K ma) (rd X.K mb))) :
    PE X e (rd X.K fun ρ C P => ma ρ C fun x ρ1 C1 => match x with | .bl k => if k = true then mb ρ1 C1 P else P (.bl false) ρ1 C1 | _ => False) := pe_weak h fun σ H Q ⟨B, F, ρ, C, P, R, m, k⟩ =>
  ⟨B, F, ρ, C, _, R, m, fun x ρ1 C1 F1 v1 H1 s1 R1 r1 q1 => by
    try dsimp only at q1
    split at q1
    · rename_i b
      cases r1
      refine ⟨b, rfl, ?_⟩
      cases b with
      | false => exact k _ ρ1 C1 F1 _ H1 s1 R1 (.bl _) q1
      | true => exact ⟨B, F1, ρ1, C1, _, R1, q1, fun d ρ2 C2 F2 v2 H2 s2 R2 r2 q2 => k d ρ2 C2 F2 v2 H2 (s1.trans s2) R2 r2 q2⟩
    · exact q1.elim⟩
theorem e_or {ma mb : ME} {e : Expr} (h : PE X e (tOrV (rd X.K ma) (rd X.K mb))) :
    PE X e (rd X.K fun ρ C P => ma ρ C fun x ρ1 C1 => match x with | .bl k => if k = true then P (.bl true) ρ1 C1 else mb ρ1 C1 P | _ => False) := pe_weak h fun σ H Q ⟨B, F, ρ, C, P, R, m, k⟩ =>
  ⟨B, F, ρ, C, _, R, m, fun x ρ1 C1 F1 v1 H1 s1 R1 r1 q1 => by
    try dsimp only at q1
    split at q1
    · rename_i b
      cases r1
      refine ⟨b, rfl, ?_⟩
      cases b with
      | true => exact k _ ρ1 C1 F1 _ H1 s1 R1 (.bl _) q1
      | false => exact ⟨B, F1, ρ1, C1, _, R1, q1, fun d ρ2 C2 F2 v2 H2 s2 R2 r2 q2 => k d ρ2 C2 F2 v2 H2 (s1.trans s2) R2 r2 q2⟩
    · exact q1.elim⟩
theorem e_not {ma : ME} {e : Expr} (h : PE X e (tNotV (rd X.K ma))) :
    PE X e (rd X.K fun ρ C P => ma ρ C fun x ρ1 C1 => match x with | .bl k => P (.bl (!k)) ρ1 C1 | _ => False) := pe_weak h fun σ H Q ⟨B, F, ρ, C, P, R, m, k⟩ =>
  ⟨B, F, ρ, C, _, R, m, fun x ρ1 C1 F1 v1 H1 s1 R1 r1 q1 => by
    try dsimp only at q1
    split at q1
    · rename_i b
      cases r1
      exact ⟨b, rfl, k _ ρ1 C1 F1 _ H1 s1 R1 (.bl _) q1⟩
    · exact q1.elim⟩
theorem e_ife {mt : MT} {ma mb : ME} {e : Expr} (h : PE X e (tIf (rdT X.K mt) (rd X.K ma) (rd X.K mb))) :
    PE X e (rd X.K fun ρ C P => mt ρ C fun b ρ1 C1 => if b = true then ma ρ1 C1 P else mb ρ1 C1 P) := pe_weak h fun σ H Q ⟨B, F, ρ, C, P, R, m, k⟩ =>
  ⟨B, F, ρ, C, _, R, m, fun b ρ1 C1 F1 H1 s1 R1 q1 => by
    cases b with
    | false => exact ⟨B, F1, ρ1, C1, _, R1, q1, fun d ρ2 C2 F2 v2 H2 s2 R2 r2 q2 => k d ρ2 C2 F2 v2 H2 (s1.trans s2) R2 r2 q2⟩
    | true => exact ⟨B, F1, ρ1, C1, _, R1, q1, fun d ρ2 C2 F2 v2 H2 s2 R2 r2 q2 => k d ρ2 C2 F2 v2 H2 (s1.trans s2) R2 r2 q2⟩⟩
theorem a_nil : PA X [] (rdA X.K fun ρ C P => P [] ρ C) := pa_weak pa_nil fun σ H Q ⟨B, F, ρ, C, P, R, m, k⟩ => k _ ρ C F _ H (Same.refl _) R .nil m
theorem a_cons {ma : ME} {mb : ML} {es : List Expr} (h : PA X es (tCons (rd X.K ma) (rdA X.K mb))) :
    PA X es (rdA X.K fun ρ C P => ma ρ C fun x ρ1 C1 => mb ρ1 C1 fun xs ρ2 C2 => P (x :: xs) ρ2 C2) := pa_weak h fun σ H Q ⟨B, F, ρ, C, P, R, m, k⟩ =>
  ⟨B, F, ρ, C, _, R, m, fun x ρ1 C1 F1 v1 H1 s1 R1 r1 q1 => ⟨B, F1, ρ1, C1, _, R1, q1, fun xs ρ2 C2 F2 vs H2 s2 R2 r2 q2 => k _ ρ2 C2 F2 _ H2 (s1.trans s2) R2 (.cons (r1.mono s2) r2) q2⟩⟩
theorem o_no : PO X none (rdO X.K fun ρ C P => P none ρ C) := po_weak po_none fun σ H Q ⟨B, F, ρ, C, P, R, m, k⟩ => k _ ρ C F H (Same.refl _) R m
theorem o_yes {ma : ME} {e : Expr} (h : PE X e (rd X.K ma)) : PO X (some e) (rdO X.K fun ρ C P => ma ρ C fun x ρ1 C1 => match x with | .int i => P (some i) ρ1 C1 | _ => False) :=
  po_weak (po_some h) fun σ H Q ⟨B, F, ρ, C, P, R, m, k⟩ => ⟨B, F, ρ, C, _, R, m, fun x ρ1 C1 F1 v1 H1 s1 R1 r1 q1 => by
    try dsimp only at q1
    split at q1
    · cases r1
      exact ⟨_, rfl, k _ ρ1 C1 F1 H1 s1 R1 q1⟩
    · exact q1.elim⟩
theorem e_tup {ma : ML} {e : Expr} (h : PE X e (tTup (rdA X.K ma))) : PE X e (rd X.K fun ρ C P => ma ρ C fun ds ρ1 C1 => ds.length ≤ sizeLine ∧ P (.tup ds) ρ1 C1) := pe_weak h fun σ H Q ⟨B, F, ρ, C, P, R, m, k⟩ =>
  ⟨B, F, ρ, C, _, R, m, fun ds ρ1 C1 F1 vs H1 s1 R1 r1 q1 => ⟨by rw [r1.length]; exact q1.1, fun p hp => by
    have g := Grow.new (o := HO.tup vs) R1.ce.fh hp
    exact k _ ρ1 C1 _ _ _ (s1.trans g.ff) (R1.grow g) (.tup (SqT.of upd_same) (r1.mono g.ff)) q1.2⟩⟩
/-- a fresh list, at a new address -/
theorem rel_fresh {K : PySem.W.Frag} {B : Base} {F H : Hp} {σ : L2.St} {ρ : Rho} {C : CM} {p : Addr} {vs : List V} (R : Rel K B F σ H ρ C) (hp : H p = none) :
    Rel K B F σ (upd H p (HO.lst vs)) ρ C ∧ F p = none ∧ C p = none ∧ B.H p = none ∧ NotOwn ρ σ p := by
  have fn := same_none R.ce.fh hp
  refine ⟨R.grow ⟨Same.refl _, same_upd hp, fun a o h => ?_, fun _ _ h => .inl h⟩, fn, R.cell_none hp, R.base_none hp, R.notOwn_of hp⟩
  rw [upd_ne (fun z => by rw [z, fn] at h; cases h)]
  exact R.ce.fh a o h
theorem l_lit {ma : ML} {e : Expr} (h : PE X e (tLst (rdA X.K ma))) : PE X e (rdL X.K fun ρ C P => ma ρ C fun ds ρ1 C1 => ds.length ≤ sizeLine ∧ P ds ρ1 C1) := pe_weak h fun σ H Q ⟨B, F, ρ, C, P, R, m, k⟩ =>
  ⟨B, F, ρ, C, _, R, m, fun ds ρ1 C1 F1 vs H1 s1 R1 r1 q1 => ⟨by rw [r1.length]; exact q1.1, fun p hp => by
    obtain ⟨R2, f1, f2, f3, f4⟩ := rel_fresh (vs := vs) R1 hp
    exact k _ ρ1 C1 F1 p vs _ s1 R2 upd_same r1 f1 f2 f3 f4 q1.2⟩⟩
/-- a fresh list by values of one expression -/
theorem l_call1 {r : D → (List D → Prop) → Prop} {ma : ME} {e : Expr} (h : PE X e (tCB (liftF X.K r) (tCons (rd X.K ma) tNil))) : PE X e (rdL X.K fun ρ C P => ma ρ C fun x ρ1 C1 => r x fun ds => P ds ρ1 C1) := pe_weak h fun σ H Q ⟨B, F, ρ, C, P, R, m, k⟩ =>
  ⟨B, F, ρ, C, _, R, m, fun x ρ1 C1 F1 v1 H1 s1 R1 r1 q1 => ⟨F1, v1, x, _, rfl, R1.ce.fh, r1, q1, fun ds p vs hp rs p3 => by
    obtain ⟨R2, f1, f2, f3, f4⟩ := rel_fresh (vs := vs) R1 hp
    exact k _ ρ1 C1 F1 p vs _ s1 R2 upd_same rs f1 f2 f3 f4 p3⟩⟩
theorem l_rep {ma mb : ME} {e : Expr} (h : PE X e (tOp rRep (rd X.K ma) (rd X.K mb))) : PE X e (rdL X.K fun ρ C P => ma ρ C fun x ρ1 C1 => mb ρ1 C1 fun y ρ2 C2 => match x, y with
    | .lst xs, .int k => -(2 ^ 63) ≤ k ∧ k < 2 ^ 63 ∧ xs.length * k.toNat ≤ sizeLine ∧ P (List.replicate k.toNat xs).flatten ρ2 C2
    | _, _ => False) := pe_weak h fun σ H Q ⟨B, F, ρ, C, P, R, m, k⟩ =>
  ⟨B, F, ρ, C, _, R, m, fun x ρ1 C1 F1 v1 H1 s1 R1 r1 q1 => ⟨B, F1, ρ1, C1, _, R1, q1, fun y ρ2 C2 F2 v2 H2 s2 R2 r2 q2 => by
    try dsimp only at q2
    split at q2
    · rename_i n
      obtain ⟨a, vs, rfl, ha, ra⟩ := r1.lst_inv
      cases r2
      obtain ⟨m1, m2, m3, m4⟩ := q2
      refine ⟨a, _, vs, rfl, rfl, R2.ce.fh _ _ (s2 _ _ ha), m1, m2, by rw [ra.length]; exact m3, fun p hp => ?_⟩
      obtain ⟨R3, f1, f2, f3, f4⟩ := rel_fresh (vs := (List.replicate (Int.toNat n) vs).flatten) R2 hp
      exact k _ ρ2 C2 F2 p _ _ (s1.trans s2) R3 upd_same ((ra.mono s2).flatten _) f1 f2 f3 f4 m4
    · exact q2.elim⟩⟩
theorem e_frz {ml : ML} {e : Expr} (h : PE X e (rdL X.K ml)) : PE X e (rd X.K fun ρ C P => ml ρ C fun ds ρ1 C1 => P (.lst ds) ρ1 C1) := pe_weak h fun σ H Q ⟨B, F, ρ, C, P, R, m, k⟩ =>
  ⟨B, F, ρ, C, _, R, m, fun ds ρ1 C1 F1 a vs H1 s1 R1 hl rs n1 n2 n3 no q1 => by
    have s2 : Same F1 (upd F1 a (HO.lst vs)) := same_upd n1
    exact k _ ρ1 C1 _ _ H1 (s1.trans s2) (R1.frzNew hl n1 n2 n3 no) (.lst upd_same (rs.mono s2)) q1⟩
theorem e_cel {ml : ML} {e : Expr} (h : PE X e (rdL X.K ml)) : PE X e (rd X.K fun ρ C P => ml ρ C fun ds ρ1 C1 => ∀ a, C1 a = none → P (.ref a) ρ1 (fun b => if b = a then some (.lst ds) else C1 b)) := pe_weak h fun σ H Q ⟨B, F, ρ, C, P, R, m, k⟩ =>
  ⟨B, F, ρ, C, _, R, m, fun ds ρ1 C1 F1 a vs H1 s1 R1 hl rs n1 n2 n3 no q1 => k _ ρ1 _ F1 _ H1 s1 (R1.newCell hl rs n1 n3 no) (.ref a) (q1 a n2)⟩
theorem e_ix {ma mb : ME} {e : Expr} (h : PE X e (tOp (liftI X.K) (rd X.K ma) (rd X.K mb))) : PE X e (rd X.K fun ρ C P => ma ρ C fun x ρ1 C1 => mb ρ1 C1 fun y ρ2 C2 => itemR C2 x y fun d => P d ρ2 C2) := pe_weak h fun σ H Q ⟨B, F, ρ, C, P, R, m, k⟩ =>
  ⟨B, F, ρ, C, _, R, m, fun x ρ1 C1 F1 v1 H1 s1 R1 r1 q1 => ⟨B, F1, ρ1, C1, _, R1, q1, fun y ρ2 C2 F2 v2 H2 s2 R2 r2 q2 =>
    ⟨F2, x, y, C2, _, R2.ce, r1.mono s2, r2, q2, fun d v r3 p3 => k d ρ2 C2 F2 v H2 (s1.trans s2) R2 r3 p3⟩⟩⟩
theorem e_sl {ma : ME} {ml mh : MO} {e : Expr} (h : PE X e (tSl (liftSl X.K) (rd X.K ma) (rdO X.K ml) (rdO X.K mh))) :
    PE X e (rd X.K fun ρ C P => ma ρ C fun x ρ1 C1 => ml ρ1 C1 fun l ρ2 C2 => mh ρ2 C2 fun u ρ3 C3 => sliceR C3 x l u fun d => P d ρ3 C3) := pe_weak h fun σ H Q ⟨B, F, ρ, C, P, R, m, k⟩ =>
  ⟨B, F, ρ, C, _, R, m, fun x ρ1 C1 F1 v1 H1 s1 R1 r1 q1 => ⟨B, F1, ρ1, C1, _, R1, q1, fun l ρ2 C2 F2 H2 s2 R2 q2 => ⟨B, F2, ρ2, C2, _, R2, q2, fun u ρ3 C3 F3 H3 s3 R3 q3 =>
    ⟨F3, C3, x, _, R3.ce, (r1.mono s2).mono s3, q3, fun d F4 v4 H4 g r4 p4 => k d ρ3 C3 F4 v4 H4 (s1.trans (s2.trans (s3.trans g.ff))) (R3.grow g) r4 p4⟩⟩⟩⟩
theorem e_blt {f : Blt} {ma : ML} {e : Expr} (h : PE X e (tCB (liftB X.K fun C ds P => bltR C f ds P) (rdA X.K ma))) : PE X e (rd X.K fun ρ C P => ma ρ C fun ds ρ1 C1 => bltR C1 f ds fun d => P d ρ1 C1) := pe_weak h fun σ H Q ⟨B, F, ρ, C, P, R, m, k⟩ =>
  ⟨B, F, ρ, C, _, R, m, fun ds ρ1 C1 F1 vs H1 s1 R1 r1 q1 => ⟨F1, ds, C1, _, R1.ce, r1, q1, fun d F2 v2 H2 g r2 p2 => k d ρ1 C1 F2 v2 H2 (s1.trans g.ff) (R1.grow g) r2 p2⟩⟩
theorem e_isi {ma : ME} {t : Ty} {e : Expr} (h : PE X e (tCB (liftIs X.K t) (tCons (rd X.K ma) (tCons (tC (.ty (tyName t))) tNil)))) : PE X e (rd X.K fun ρ C P => ma ρ C fun x ρ1 C1 => ∃ b, isTy t x = some b ∧ P (.bl b) ρ1 C1) := pe_weak h fun σ H Q ⟨B, F, ρ, C, P, R, m, k⟩ =>
  ⟨B, F, ρ, C, _, R, m, fun x ρ1 C1 F1 v1 H1 s1 R1 r1 ⟨b, hb, q1⟩ => ⟨F1, v1, x, b, rfl, R1.ce.fh, r1, hb, k _ ρ1 C1 F1 _ H1 s1 R1 (.bl b) q1⟩⟩
/-- what a def promises -/
def spOf (K : PySem.W.Frag) (g : List D → CM → (D → CM → Prop) → Prop) : Sp := fun vs H Q _ => ∃ (F : Hp) (C : CM) (ds : List D) (P : D → CM → Prop), Cells K F H C ∧ Reps K F vs ds ∧ g ds C P ∧
  ∀ d C' F' v H', Cells K F' H' C' → Fr H F C H' F' C' → Rep K F' v d → P d C' → Q v H'
theorem e_call {g : List D → CM → (D → CM → Prop) → Prop} {E : XK} {ma : ML} {e : Expr} (h : PE X e (tCall (spOf X.K g) [] E (rdA X.K ma))) :
    PE X e (rd X.K fun ρ C P => ma ρ C fun ds ρ1 C1 => g ds C1 fun d C2 => P d ρ1 C2) := pe_weak h fun σ H Q ⟨B, F, ρ, C, P, R, m, k⟩ =>
  ⟨B, F, ρ, C, _, R, m, fun ds ρ1 C1 F1 vs H1 s1 R1 r1 q1 => by
    refine ⟨F1, C1, ds, _, R1.ce, by rw [List.append_nil]; exact r1, q1, fun d C2 F2 v2 H2 c2 f2 r2 p2 => k d ρ1 C2 F2 v2 H2 (s1.trans f2.ff) (R1.step f2 c2) r2 p2⟩⟩
end
end M61

set_option Elab.async false
set_option linter.all false
set_option autoImplicit false
set_option maxRecDepth 100000
/-! N1: list(reversed(a list)). -/
namespace M61.N1
open PySem PySem.Spec PyProof.Rows L2 RT
section
variable {prog : Program} {w : World} {A : Around} {E : Value → Shared → Prop} {s : Shared}
open RT in
theorem ext_rv {R : Result → Shared → Prop} {it l S : Addr} {items : Array Value} {c0 : Nat} (res : Value) (hh : A.handled = none) (hit : s.heap.IsRevIter it l ((items.size : Int) - 1)) (hl : s.heap.IsList l items) (hne : l ≠ it) (hn : items.size ≤ sizeLine)
    (q0 : s.heap.get? S = some { cls := .type "list", data := .seq #[] c0 }) (hS : S ≠ it) (hS2 : S ≠ l)
    (hR : ∀ (h' : Heap) (tk : Nat) (acc : Array Value) (c : Nat), (∀ b o, b ≠ it → b ≠ S → s.heap.get? b = some o → h'.get? b = some o) → h'.get? S = some { cls := .type "list", dict := none, data := .seq acc c, slots := #[] } → ItemsOf (fun i v => items[items.size - 1 - i]? = some v) acc items.size → R (.ok (.ret res)) { s with heap := h', toks := tk }) :
    wpAny (model prog w) A.in1 (Builtin.List.listExtendWith (.ref S) (.ref it) res)
      (fun fin s' => match fin with | .done f => R (.ok f) s' | .again c' => c'.quiet = true ∧ codeAny (model prog w) A c' R s') (fun e s' => R (.error e) s') s := by
  have WW := (Walks.listRev (prog := prog) (w := w) (A := A.in1) hh it l hne items).toS
  have hSf : S ∉ [it, l] := by simp only [List.mem_cons, List.not_mem_nil, or_false, not_or]; exact ⟨hS, hS2⟩
  have hT : s.TypeIs (.ref it) "list_reverseiterator" := Heap.IsRevIter.typeIs (s := s) hit
  have same0 : Builtin.List.listSameRef (.ref S) (.ref it) = false := by simp [Builtin.List.listSameRef, hS]
  unfold Builtin.List.listExtendWith; refine wpAny_bind (wpAny_typeOf hT ?_)
  rw [if_neg (by rw [same0]; decide)]; refine wpAny_bind (wpAny_pyIter_revIter (s := s) hit ?_); refine wpAny_bind (wpAny_holding ?_)
  unfold Builtin.List.listLengthHint; refine wpAny_bind (wpAny_specialOf hT nolen_lri ?_)
  show wpAny _ A.in1 (specialOf (Value.ref it) (Str.ofString "__length_hint__") >>= _) _ _ _; refine wpAny_bind (wpAny_specialOf hT hint_lri ?_)
  generalize hid : ("list_reverseiterator.__length_hint__" : String) = idn; wp_delta
  rw [show splitId idn = some ("list_reverseiterator", "__length_hint__") from by subst hid; decide +kernel]; subst hid
  refine wpAny_bind (wpAny_isInstance (b := true) hT (by rw [isSubtype_type]; kernel_rfl) ?_); refine wpAny_pure ?_
  rw [if_neg (by decide)]
  have e0 : ((items.size : Nat) : Int) - 1 - ((0 : Nat) : Int) = (items.size : Int) - 1 := by rw [Int.natCast_zero, Int.sub_zero]
  refine wpAny_pure ⟨plainId_quiet F.plain_extend_loop _, codeAny_extend_loopS WW hn _ hSf _ items.size 0 _ _ _ rfl (Nat.zero_le _) ⟨Nat.zero_le _, by rw [e0]; exact hit, hl⟩ q0 (ItemsOf.nil _) fun s1 ac cc hm hq hac => ?_⟩
  rw [Moved.eq_with hm]
  refine hR s1.heap s1.toks ac cc (fun b o hb hb2 e => hm.heap b o (fun hmem => ?_) e) hq hac
  rcases List.mem_cons.mp hmem with hmem | hmem
  · exact hb2 hmem
  · exact hb (List.mem_singleton.mp hmem)
open RT in
theorem init_rv {R : Result → Shared → Prop} {it l S : Addr} {items : Array Value} (hh : A.handled = none) (hit : s.heap.IsRevIter it l ((items.size : Int) - 1)) (hl : s.heap.IsList l items) (hne : l ≠ it) (hn : items.size ≤ sizeLine)
    (q0 : s.heap.get? S = some { cls := .type "list", data := .seq #[] }) (hS : S ≠ it) (hS2 : S ≠ l)
    (hR : ∀ (h' : Heap) (tk : Nat) (acc : Array Value) (c : Nat), (∀ b o, b ≠ it → b ≠ S → s.heap.get? b = some o → h'.get? b = some o) → h'.get? S = some { cls := .type "list", dict := none, data := .seq acc c, slots := #[] } → ItemsOf (fun i v => items[items.size - 1 - i]? = some v) acc items.size → R (.ok (.ret .none)) { s with heap := h', toks := tk }) :
    wpAny (model prog w) A.in1 (Builtin.«list.__init__» ⟨[.ref S, .ref it], []⟩)
      (fun fin s' => match fin with | .done f => R (.ok f) s' | .again c' => c'.quiet = true ∧ codeAny (model prog w) A c' R s') (fun e s' => R (.error e) s') s := by
  show wpAny _ A.in1 (do let old0 ← Builtin.List.listItems (.ref S); Builtin.List.listUpdate (.ref S) (fun _ => #[]); letGo old0.toList.reverse; Builtin.List.listExtendWith (.ref S) (.ref it) .none) _ _ s
  refine wpAny_bind ?_; unfold Builtin.List.listItems; refine wpAny_bind (wpAny_seqItems q0 rfl (wpAny_pure ?_))
  show wpAny _ A.in1 (updateSeq S (fun _ => #[]) >>= fun _ => letGo (#[] : Array Value).toList.reverse >>= fun _ => Builtin.List.listExtendWith (.ref S) (.ref it) .none) _ _ s
  refine wpAny_bind (wpAny_updateSeq q0 rfl ?_)
  have q2 := Heap.get?_update_self (Obj.mapSeq (fun _ => (#[] : Array Value))) q0 rfl
  have oth : ∀ b o, b ≠ S → s.heap.get? b = some o → (s.heap.update S (Obj.mapSeq (fun _ => (#[] : Array Value)))).get? b = some o := fun b o hb e => (Heap.get?_update_other _ _ (Ne.symm hb)).trans e
  refine wpAny_bind (wpAny_letGo ?_)
  obtain ⟨ol, hol, cl, rl⟩ := id hl
  refine ext_rv (s := { s with heap := s.heap.update S (Obj.mapSeq (fun _ => (#[] : Array Value))) }) .none hh (hit.at fun o e => oth it o (Ne.symm hS) e) ⟨ol, oth l ol (Ne.symm hS2) hol, cl, rl⟩ hne hn q2 hS hS2 fun h' tk acc c hk hq hac => hR h' tk acc c (fun b o hb hb2 e => hk b o hb hb2 (oth b o hb2 e)) hq hac
theorem call_rv {Q : Value → Shared → Prop} {it l : Addr} {items : Array Value} (hh : A.handled = none) (hit : s.heap.IsRevIter it l ((items.size : Int) - 1)) (hl : s.heap.IsList l items) (hne : l ≠ it) (hn : items.size ≤ sizeLine)
    (hQ : ∀ (h' : Heap) (tk : Nat) (acc : Array Value) (c : Nat), (∀ b o, b ≠ it → s.heap.get? b = some o → h'.get? b = some o) → h'.get? s.heap.objs.size = some { cls := .type "list", dict := none, data := .seq acc c, slots := #[] } → ItemsOf (fun i v => items[items.size - 1 - i]? = some v) acc items.size →
      Q (.ref s.heap.objs.size) { s with heap := h', toks := tk }) : wpAny (model prog w) A (call (.type "list") [.ref it]) Q E s := by
  refine callType_codes (Q₁ := fun u t => u = .ref s.heap.objs.size ∧ t = { s with heap := s.heap.push { cls := .type "list", data := .seq #[] } }) F.called_list (F.typeCall_list_1 _) F.entry_list_init (code_list_new _ ⟨rfl, rfl⟩) fun u t ht => ?_
  obtain ⟨rfl, rfl⟩ := ht
  have q0 : (s.heap.push { cls := .type "list", data := .seq #[] }).get? s.heap.objs.size = some { cls := .type "list", data := .seq #[] } := Heap.get?_push_size _ rfl
  obtain ⟨oi, hoi, _⟩ := id hit
  obtain ⟨ol, hol, _⟩ := id hl
  refine ⟨⟨_, q0, rfl⟩, F.args_list_init_2 _ _, init_rv (A := A.in1) (s := { s with heap := s.heap.push { cls := .type "list", data := .seq #[] } }) hh (hit.at fun o e => Heap.get?_push_of_some _ e) (hl.push _) hne hn q0 (Nat.ne_of_gt (Heap.lt_size hoi)) (Nat.ne_of_gt (Heap.lt_size hol)) fun h' tk acc c hk hq hac => ?_⟩
  exact ⟨rfl, hQ h' tk acc c (fun b o hb e => hk b o hb (Nat.ne_of_lt (Heap.lt_size e)) (Heap.get?_push_of_some _ e)) hq hac⟩
end
/-- what it reads -/
def tLstRev (K : PySem.W.Frag) (te : TE) : TE := fun σ H Q => te σ H fun v H1 => ∃ (a : Addr) (xs : List V), v = .ref a ∧ SqL K H1 a xs ∧ ∀ q, H1 q = none → Q (.ref q) (upd H1 q (.lst xs.reverse))
section
variable {X : Cx}
theorem pe_lstRev {e : Expr} {te : TE} {p p2 pos pos2 : Pos} (hc : X.calm = true) (g1 : Gl X "list") (m1 : X.mg "list" = none) (g2 : Gl X "reversed") (m2 : X.mg "reversed" = none) (he : PE X e te)
    (s1 : starEach [e] X.env = (false, eval e X.env) :: starEach [] X.env := by rfl)
    (s2 : starEach [.Call (.Name "reversed" p2) [e] [] pos2] X.env = (false, eval (.Call (.Name "reversed" p2) [e] [] pos2) X.env) :: starEach [] X.env := by rfl) :
    PE X (.Call (.Name "list" p) [.Call (.Name "reversed" p2) [e] [] pos2] [] pos) (tLstRev X.K te) := by
  constructor
  intro pins s σ H Q I h
  refine Call_ (ld_blt I g1 m1 boot_list (PyProof.Rows.callWith_type1 (args_cons (Call_ (ld_blt I g2 m2 PyProof.Rows.boot_reversed (PyProof.Rows.callWith_type1 (args_cons (thn (he.run pins s σ H _ I h) fun u t ⟨v, H1, I1, r1, q1⟩ => args_nil ?_) s1) s1 rfl))) s2) s2 rfl))
  obtain ⟨a, xs, ev, hq, q⟩ := q1
  subst ev
  obtain rfl : u = Value.ref a := r1
  obtain ⟨its, rv, pl, hz⟩ := I1.list hq
  refine call_reversed_list pl.isList (args_nil ?_)
  have hli := pl.isList
  obtain ⟨ol, hol, _⟩ := id hli
  have hne : a ≠ t.heap.objs.size := Nat.ne_of_lt (Heap.lt_size hol)
  have hn : its.toArray.size ≤ sizeLine := by rw [List.size_toArray, ← rv.length]; exact hz
  refine call_rv (s := { t with heap := t.heap.push (revObj a ((its.toArray.size : Int) - 1)) }) (I1.ok.hd hc) ⟨_, Heap.get?_push_size _ rfl, rfl, rfl⟩ (hli.push _) hne hn fun h' tk acc c hk e' hi => ?_
  have kp : ∀ b o, t.heap.get? b = some o → h'.get? b = some o := fun b o e => hk b o (Nat.ne_of_lt (Heap.lt_size e)) (Heap.get?_push_of_some _ e)
  have hS : t.heap.objs.size ≤ (t.heap.push (revObj a ((its.toArray.size : Int) - 1))).objs.size := by rw [Heap.size_push]; exact Nat.le_succ _
  refine ⟨.ref _, upd H1 _ (.lst xs.reverse), I1.laid (t' := tk) kp hS (show ObjOk X.prog X.w _ _ _ (.lst xs.reverse) from ⟨by rw [List.length_reverse]; exact hz, acc.toList, c, vals_rev rv hi, ?_⟩), rfl, q _ (I1.hok.fresh hS)⟩
  rw [Array.toArray_toList]; exact e'
end
end M61.N1

set_option Elab.async false
set_option linter.all false
set_option autoImplicit false
set_option maxRecDepth 100000
/-! M4c: t[::-1]; own lists and cells. -/
namespace M61
open PySem PySem.Spec PyProof.Rows L2 HT
section
variable {prog : Program} {w : World} {A : Around} {E : Value → Shared → Prop} {s : Shared}
theorem adjust_rev (n : Nat) : Builtin.Slice.sliceAdjust none none (-1) (n : Int) = ((n : Int) - 1, -1) := by
  unfold Builtin.Slice.sliceAdjust
  rfl
theorem places_rev (n : Nat) : Builtin.Slice.slicePlaces ((n : Int) - 1) (-1) (-1) = n := by
  unfold Builtin.Slice.slicePlaces
  have h0 : ¬ ((-1 : Int) > 0) := by decide
  simp only [h0, if_false]
  by_cases h : n = 0
  · subst h; rfl
  · have h1 : ((n : Int) - 1 > -1) := by omega
    have h2 : (-(-1 : Int)) = 1 := rfl
    simp only [h1, if_true, h2, Int.ediv_one]
    omega
theorem fm_congr {α β : Type} {f g : α → Option β} : ∀ {l : List α}, (∀ x ∈ l, f x = g x) → l.filterMap f = l.filterMap g
  | [], _ => rfl
  | x :: l, h => by
    rw [List.filterMap_cons, List.filterMap_cons, h x (List.mem_cons_self ..), fm_congr fun y hy => h y (List.mem_cons_of_mem _ hy)]
theorem pick_rev1 {α : Type} : ∀ (n : Nat) (xs : List α), xs.length = n → (List.range xs.length).filterMap (fun k => xs[xs.length - 1 - k]?) = xs.reverse
  | 0, xs, h => by rw [List.eq_nil_of_length_eq_zero h]; rfl
  | n + 1, xs, h => by
    have hne : xs ≠ [] := fun e => by rw [e] at h; cases h
    have e0 := (List.dropLast_concat_getLast hne)
    generalize hy : xs.getLast hne = y at e0
    generalize hys : xs.dropLast = ys at e0
    have ih := pick_rev1 n ys (by rw [← hys, List.length_dropLast, h]; rfl)
    rw [← e0, List.length_append, List.length_singleton, List.range_succ_eq_map, List.filterMap_cons, List.filterMap_map, List.reverse_append]
    have e : (ys ++ [y])[ys.length + 1 - 1 - 0]? = some y := by simp
    rw [e]
    show y :: _ = y :: ys.reverse
    congr 1
    rw [← ih]
    refine fm_congr fun k hk => ?_
    have hk' : k < ys.length := List.mem_range.mp hk
    show (ys ++ [y])[ys.length + 1 - 1 - (k + 1)]? = ys[ys.length - 1 - k]?
    rw [List.getElem?_append_left (by omega)]
    congr 1
    omega
theorem pick_rev0 {α : Type} (xs : List α) : (List.range xs.length).filterMap (fun k => xs[xs.length - 1 - k]?) = xs.reverse := pick_rev1 _ xs rfl
theorem pick_rev (items : Array Value) : ((List.range items.size).filterMap fun (k : Nat) => items[(((items.size : Nat) : Int) - 1 + (k : Int) * -1).toNat]?).toArray = items.toList.reverse.toArray := by
  rw [← pick_rev0 items.toList]
  congr 1
  rw [Array.length_toList]
  refine fm_congr fun k hk => ?_
  have hk' : k < items.size := List.mem_range.mp hk
  rw [show (((items.size : Nat) : Int) - 1 + (k : Int) * -1).toNat = items.size - 1 - k by omega]
  simp
theorem sliceApplied_rev {sl : Addr} {vl vu vs : Value} {n : Nat} {Q : Int × Int × Nat → Shared → Prop} (hs : s.heap.IsSliceOf sl vl vu vs) (pl : IsPart vl none) (pu : IsPart vu none) (ps : IsPart vs (some (-1)))
    (h : Q ((n : Int) - 1, -1, n) s) : wpAny (model prog w) A (Builtin.Slice.sliceApplied (.ref sl) (pure (n : Int))) Q E s := by
  obtain ⟨os, hos, hcs, hds⟩ := id hs
  unfold Builtin.Slice.sliceApplied Builtin.Slice.sliceFields
  refine wpAny_bind (wpAny_bind (wpAny_field hos hds (x := vl) rfl (wpAny_bind (wpAny_field hos hds (x := vu) rfl (wpAny_bind (wpAny_field hos hds (x := vs) rfl (wpAny_pure ?_)))))))
  refine wpAny_bind (slicePart_ ps ?_)
  show wpAny _ _ (if ((-1 : Int) == 0) = true then _ else _) _ _ s
  rw [if_neg (by decide)]
  refine wpAny_bind (slicePart_ pl (wpAny_bind (slicePart_ pu (wpAny_bind (wpAny_pure ?_)))))
  show wpAny _ _ (match Builtin.Slice.sliceAdjust none none (-1) (n : Int) with | (lo, hi) => pure (lo, (-1 : Int), Builtin.Slice.slicePlaces lo hi (-1))) _ _ s
  rw [adjust_rev n]
  show wpAny _ _ (pure ((n : Int) - 1, (-1 : Int), Builtin.Slice.slicePlaces ((n : Int) - 1) (-1) (-1))) _ _ s
  rw [places_rev]
  exact wpAny_pure h
theorem getItem_tuple_rev {t sl : Addr} {items : Array Value} {vl vu vs : Value} {Q : Value → Shared → Prop} (ht : IsTup s.heap t items) (hs : s.heap.IsSliceOf sl vl vu vs) (pl : IsPart vl none) (pu : IsPart vu none) (ps : IsPart vs (some (-1)))
    (h : Q (.ref s.heap.objs.size) { s with heap := s.heap.push { cls := .type "tuple", data := .seq items.toList.reverse.toArray } })
    (hsz : items.size ≤ sizeLine) : wpAny (model prog w) A (getItem (.ref t) (.ref sl)) Q E s := by
  have htake : sizeOk (.seq items.toList.reverse.toArray) := by
    show items.toList.reverse.toArray.size ≤ sizeLine
    rw [List.size_toArray, List.length_reverse, Array.length_toList]
    omega
  obtain ⟨os, hos, hcs, hds⟩ := id hs
  have hTs : s.TypeIs (.ref sl) "slice" := ⟨os, hos, hcs⟩
  unfold getItem
  try with_reducible refine wpAny_holding ?_
  first | refine wpAny_bind (wpAny_pure ?_) | skip
  refine wpAny_bind (wpAny_sequenceKey ht.typeIs (by decide) ?_)
  refine wpAny_bind (wpAny_callSpecial?_slot (name := Str.ofString "__getitem__") ht.typeIs PyProof.Rows.slot_tuple_getitem
    (wpAny_call_entry PyProof.Rows.slot_tuple_getitem ht.typeIs entry_tuple_getitem ?_ (args_tuple_getitem _ _)))
  show wpAny _ _ (Builtin.Tuple.tupleItemsOf (.ref t) >>= _) _ _ s
  refine wpAny_bind (tupleItemsOf_ ht ?_)
  refine wpAny_bind (wpAny_typeOf hTs ?_)
  rw [if_pos (by decide)]
  refine wpAny_bind (sliceApplied_rev hs pl pu ps ?_)
  have hno : ¬ (((((items.size : Nat) : Int) - 1) == 0 && (-1 : Int) == 1 && items.size == items.size) = true) := by
    intro q
    rw [Bool.and_eq_true, Bool.and_eq_true] at q
    exact absurd q.1.2 (by decide)
  show wpAny _ _ (if ((((items.size : Nat) : Int) - 1) == 0 && (-1 : Int) == 1 && items.size == items.size) = true then _ else _) _ _ s
  rw [if_neg hno, pick_rev]
  first
    | exact wpAny_bind (m := Builtin.Tuple.tupleExact _) (wpAny_newObj_type (wpAny_pure ⟨_, rfl, wpAny_pure h⟩) htake)
    | exact wpAny_bind (m := Builtin.Tuple.tupleExact _) (wpAny_newObj_type (wpAny_bind (wpAny_pure (wpAny_pure ⟨_, rfl, wpAny_pure h⟩))) htake)
    | exact wpAny_bind (wpAny_bind (m := Builtin.Tuple.tupleExact _) (wpAny_newObj_type (wpAny_pure (wpAny_pure ⟨_, rfl, wpAny_pure h⟩)) htake))
    | exact wpAny_bind (wpAny_bind (m := Builtin.Tuple.tupleExact _) (wpAny_newObj_type (wpAny_pure ⟨_, rfl, wpAny_pure h⟩) htake))
end
/-- x[::-1] of a list or a tuple -/
def tRevA (K : PySem.W.Frag) (te : TE) : TE := fun σ H Q => te σ H fun x H1 => ∃ a xs, x = .ref a ∧ ((SqL K H1 a xs ∧ ∀ p, H1 p = none → Q (.ref p) (upd H1 p (.lst xs.reverse))) ∨ (SqT K H1 a xs ∧ ∀ p, H1 p = none → Q (.ref p) (upd H1 p (.tup xs.reverse))))
section
variable {X : Cx}
theorem pe_revA {e : Expr} {te : TE} {k : Nat} {p1 p2 p3 pos : Pos} (he : PE X e te) : PE X (.Subscript e (.Slice none none (some (.UnaryOp .USub (.Constant (.int 1) k p1) p2)) p3) pos) (tRevA X.K te) := by
  refine ⟨fun pins s σ H Q I h => ?_⟩
  refine Subscript_ (thn (he.run pins s σ H _ I h) fun v s1 ⟨x, H1, I1, r1, q1⟩ => ?_)
  obtain ⟨a, xs, ex, q⟩ := q1
  subst ex
  cases r1
  have hst : PO X (some (.UnaryOp .USub (.Constant (.int 1) k p1) p2)) (tPart (tUn (rU fun i => .int (-i)) (tC (.int 1)))) := po_some (pe_un un_neg pe_int)
  refine wpAny_Slice (thn (po_none.run pins s1 σ H1 (fun o H2 => o = none ∧ H2 = H1) I1 ⟨rfl, rfl⟩) fun vl s2 ⟨l, H2, I2, pl, el, e2⟩ => ?_)
  subst el e2
  refine thn (po_none.run pins s2 σ H2 (fun o H3 => o = none ∧ H3 = H2) I2 ⟨rfl, rfl⟩) fun vu s3 ⟨u, H3, I3, pu, eu, e3⟩ => ?_
  subst eu e3
  refine thn (hst.run pins s3 σ H3 (fun o H4 => o = some (-1) ∧ H4 = H3) I3 ⟨1, rfl, -1, rfl, rfl, rfl⟩) fun vs s4 ⟨o, H4, I4, ps, eo, e4⟩ => ?_
  subst eo e4
  have I5 : Inv X pins σ H4 { s4 with heap := s4.heap.push { cls := .type "slice", data := .fields #[vl, vu, vs] } } := I4.kept (t' := s4.toks) fun b ob q => Heap.get?_push_of_some _ q
  show wpAny (model X.prog X.w) X.A (subscriptTail e (.Slice none none (some (.UnaryOp .USub (.Constant (.int 1) k p1) p2)) p3) (.ref a) (.ref s4.heap.objs.size)) (EP X pins σ Q) X.xe { s4 with heap := s4.heap.push { cls := .type "slice", data := .fields #[vl, vu, vs] } }
  rcases q with ⟨hx, q⟩ | ⟨hx, q⟩
  · obtain ⟨its, r, ht, hz⟩ := I5.list hx
    have hlen := r.length
    refine tail_any (ops := [.ref a, .ref s4.heap.objs.size]) ht.isList.typeIs (PySem.slot_list_getitem.lookup) ?_ (by with_unfolding_all rfl)
    refine wpAny_getItem_list_slice ht.isList (Heap.IsSliceOf.new _ vl vu vs) pl pu ps (by decide) ?_ (by rw [List.size_toArray]; omega)
    rw [PySem.W.krv_pick]
    refine ⟨.ref _, _, I5.laid (t' := s4.toks) (o := .lst xs.reverse) (fun b ob q => Heap.get?_push_of_some _ q) (Nat.le_refl _) ?_, rfl, q _ (I5.hok.fresh (Nat.le_refl _))⟩
    exact ⟨by rw [List.length_reverse]; exact hz, _, 0, r.reverse, Heap.get?_push_size _ rfl⟩
  · obtain ⟨its, r, ht, hz⟩ := I5.tuple hx
    have hlen := r.length
    refine tail_any (ops := [.ref a, .ref s4.heap.objs.size]) ht.typeIs (PyProof.Rows.slot_tuple_getitem.lookup) ?_ (by with_unfolding_all rfl)
    refine getItem_tuple_rev ht (Heap.IsSliceOf.new _ vl vu vs) pl pu ps ?_ (by rw [List.size_toArray]; omega)
    refine ⟨.ref _, _, I5.laid (t' := s4.toks) (o := .tup xs.reverse) (fun b ob q => Heap.get?_push_of_some _ q) (Nat.le_refl _) ?_, rfl, q _ (I5.hok.fresh (Nat.le_refl _))⟩
    exact ⟨by rw [List.length_reverse]; exact hz, _, r.reverse, IsTup.new _ _⟩
theorem e_rev {ma : ME} {e : Expr} (h : PE X e (tRevA X.K (rd X.K ma))) : PE X e (rd X.K fun ρ C P => ma ρ C fun x ρ1 C1 => revR x fun d => P d ρ1 C1) := pe_weak h fun σ H Q ⟨B, F, ρ, C, P, R, m, k⟩ =>
  ⟨B, F, ρ, C, _, R, m, fun x ρ1 C1 F1 v1 H1 s1 R1 r1 q1 => by
    unfold revR at q1
    split at q1
    · obtain ⟨a, xs, rfl, ha, ra⟩ := r1.lst_inv
      refine ⟨a, xs, rfl, .inl ⟨.of (R1.ce.fh _ _ ha), fun p hp => ?_⟩⟩
      have g := Grow.new (o := HO.lst xs.reverse) R1.ce.fh hp
      exact k _ ρ1 C1 _ _ _ (s1.trans g.ff) (R1.grow g) (.lst upd_same (ra.reverse.mono g.ff)) q1
    · obtain ⟨a, xs, rfl, ha, ra⟩ := r1.tup_inv
      refine ⟨a, xs, rfl, .inr ⟨sqT_same R1.ce.fh ha, fun p hp => ?_⟩⟩
      have g := Grow.new (o := HO.tup xs.reverse) R1.ce.fh hp
      exact k _ ρ1 C1 _ _ _ (s1.trans g.ff) (R1.grow g) (.tup (SqT.of upd_same) (ra.reverse.mono g.ff)) q1
    · exact q1.elim⟩
/-- own lists -/
theorem varO_inv {ρ : Rho} {i : Nat} {f : List D → Prop} (h : varO ρ i f) : ∃ xs, ρ[i]? = some (some (Dv.own xs)) ∧ f xs := by
  unfold varO at h
  split at h
  · exact ⟨_, by assumption, h⟩
  · exact h.elim
theorem varL_rel {K : PySem.W.Frag} {B : Base} {F : Hp} {σ : L2.St} {H : Hp} {ρ : Rho} {C : CM} {i : Nat} {f : List D → Prop} (R : Rel K B F σ H ρ C) (h : varL ρ C i f) : ∃ a vs xs, σ[i]? = some (some (V.ref a)) ∧ H a = some (HO.lst vs) ∧ Reps K F vs xs ∧ f xs := by
  unfold varL at h
  split at h
  · obtain ⟨a, vs, e1, hl, ra, _⟩ := R.own i _ (by assumption)
    exact ⟨a, vs, _, e1, hl, ra, h⟩
  · obtain ⟨xs, hc, h⟩ := h
    obtain ⟨v, e1, r⟩ := R.dat i _ (by assumption)
    cases r
    obtain ⟨vs, hl, ra⟩ := (R.ce.cel _ _ hc).1
    exact ⟨_, vs, xs, e1, hl, ra, h⟩
  · exact h.elim
theorem e_oix {i : Nat} {mb : ME} {e : Expr} (h : PE X e (tOp (rIxL X.K) (tVar i) (rd X.K mb))) :
    PE X e (rd X.K fun ρ C P => varO ρ i fun xs => mb ρ C fun y ρ1 C1 => ρ1 = ρ ∧ itemR C1 (.lst xs) y fun d => P d ρ1 C1) := pe_weak h fun σ H Q ⟨B, F, ρ, C, P, R, m, k⟩ => by
  obtain ⟨xs, hx, m⟩ := varO_inv m
  obtain ⟨a0, vs0, e0, _⟩ := R.own i xs hx
  refine ⟨_, e0, B, F, ρ, C, _, R, m, fun y ρ1 C1 F1 v1 H1 s1 R1 r1 ⟨eq, q1⟩ => ?_⟩
  subst eq
  obtain ⟨a, vs, e1, hl, ra, _⟩ := R1.own i xs hx
  rw [e0] at e1
  cases e1
  cases y with
  | int i' =>
    cases r1
    obtain ⟨d, hd, p⟩ := q1
    obtain ⟨w, hw, rw'⟩ := atI_getD ra hd
    exact ⟨a0, vs, _, w, rfl, rfl, .of hl, hw, k d _ C1 F1 w H1 s1 R1 rw' p⟩
  | _ => exact False.elim q1
theorem e_olen {i : Nat} {e : Expr} (h : PE X e (tCB (fun xs H Q => ∃ p ys, xs = [.ref p] ∧ (SqL X.K H p ys ∨ SqT X.K H p ys) ∧ Q (.int ys.length) H) (tCons (tVar i) tNil))) :
    PE X e (rd X.K fun ρ C P => varO ρ i fun xs => P (.int xs.length) ρ C) := pe_weak h fun σ H Q ⟨B, F, ρ, C, P, R, m, k⟩ => by
  obtain ⟨xs, hx, m⟩ := varO_inv m
  obtain ⟨a, vs, e1, hl, ra, _⟩ := R.own i xs hx
  rw [← ra.length] at m
  exact ⟨_, e1, a, vs, rfl, .inl (.of hl), k _ ρ C F _ H (Same.refl _) R (.int _) m⟩
theorem eqv_nil : ∀ xs : List D, PyData.eqv (.list (D.pys xs)) (.list (D.pys [])) = xs.isEmpty
  | [] => rfl
  | _ :: _ => rfl
theorem e_one {i : Nat} {e : Expr} (h : PE X e (tOp (rNeD X.K) (tVar i) (tLst tNil))) :
    PE X e (rd X.K fun ρ C P => varL ρ C i fun xs => (D.lst xs).Cmp ∧ P (.bl (!xs.isEmpty)) ρ C) := pe_weak h fun σ H Q ⟨B, F, ρ, C, P, R, m, k⟩ => by
  obtain ⟨a, vs, xs, e1, hl, ra, ⟨p1, p2⟩, m⟩ := varL_rel R m
  refine ⟨_, e1, Nat.zero_le _, fun p hp => ?_⟩
  have hs := same_upd (o := HO.lst []) hp
  have R2 := (rel_fresh (vs := []) R hp).1
  refine ⟨_, _, .lst (.of (hs _ _ hl)) (reps_dp ((ra.mono R.ce.fh).mono hs) p1), .lst (.of upd_same) .nil, p2, by decide +kernel, ?_⟩
  have e : (!PyData.eqv (.list (D.pys xs)) (.list [])) = !xs.isEmpty := by rw [← eqv_nil xs]; rfl
  rw [e]
  exact k _ ρ C F _ _ (Same.refl _) R2 (.bl _) m
theorem e_oem {i : Nat} {e : Expr} (h : PE X e (tOp (rEqD X.K) (tVar i) (tLst tNil))) :
    PE X e (rd X.K fun ρ C P => varL ρ C i fun xs => (D.lst xs).Cmp ∧ P (.bl xs.isEmpty) ρ C) := pe_weak h fun σ H Q ⟨B, F, ρ, C, P, R, m, k⟩ => by
  obtain ⟨a, vs, xs, e1, hl, ra, ⟨p1, p2⟩, m⟩ := varL_rel R m
  refine ⟨_, e1, Nat.zero_le _, fun p hp => ?_⟩
  have hs := same_upd (o := HO.lst []) hp
  have R2 := (rel_fresh (vs := []) R hp).1
  refine ⟨_, _, .lst (.of (hs _ _ hl)) (reps_dp ((ra.mono R.ce.fh).mono hs) p1), .lst (.of upd_same) .nil, p2, by decide +kernel, ?_⟩
  have e : PyData.eqv (.list (D.pys xs)) (.list []) = xs.isEmpty := by rw [← eqv_nil xs]; rfl
  rw [e]
  exact k _ ρ C F _ _ (Same.refl _) R2 (.bl _) m
theorem lstD_rel {K : PySem.W.Frag} {F H : Hp} {C : CM} {v : V} {d : D} {xs : List D} (ce : Cells K F H C) (r : Rep K F v d) (h : lstD C d = some xs) : ∃ a vs, v = .ref a ∧ H a = some (HO.lst vs) ∧ Reps K F vs xs := by
  unfold lstD at h
  split at h
  · cases h
    obtain ⟨a, vs, rfl, ha, ra⟩ := r.lst_inv
    exact ⟨a, vs, rfl, ce.fh _ _ ha, ra⟩
  · unfold cellL at h
    split at h
    · rename_i hc
      cases h
      cases r
      obtain ⟨vs, hl, ra⟩ := (ce.cel _ _ hc).1
      exact ⟨_, vs, rfl, hl, ra⟩
    · cases h
  · cases h
theorem e_cne {ma : ME} {e : Expr} (h : PE X e (tOp (rNeD X.K) (rd X.K ma) (tLst tNil))) :
    PE X e (rd X.K fun ρ C P => ma ρ C fun x ρ1 C1 => ∃ xs, lstD C1 x = some xs ∧ (D.lst xs).Cmp ∧ P (.bl (!xs.isEmpty)) ρ1 C1) := pe_weak h fun σ H Q ⟨B, F, ρ, C, P, R, m, k⟩ =>
  ⟨B, F, ρ, C, _, R, m, fun x ρ1 C1 F1 v1 H1 s1 R1 r1 ⟨xs, hx, ⟨p1, p2⟩, q⟩ => by
    obtain ⟨a, vs, rfl, hl, ra⟩ := lstD_rel R1.ce r1 hx
    refine ⟨Nat.zero_le _, fun p hp => ?_⟩
    have hs := same_upd (o := HO.lst []) hp
    have R2 := (rel_fresh (vs := []) R1 hp).1
    refine ⟨_, _, .lst (.of (hs _ _ hl)) (reps_dp ((ra.mono R1.ce.fh).mono hs) p1), .lst (.of upd_same) .nil, p2, by decide +kernel, ?_⟩
    have e : (!PyData.eqv (.list (D.pys xs)) (.list [])) = !xs.isEmpty := by rw [← eqv_nil xs]; rfl
    rw [e]
    exact k _ ρ1 C1 F1 _ _ s1 R2 (.bl _) q⟩
theorem e_ceq {ma : ME} {e : Expr} (h : PE X e (tOp (rEqD X.K) (rd X.K ma) (tLst tNil))) :
    PE X e (rd X.K fun ρ C P => ma ρ C fun x ρ1 C1 => ∃ xs, lstD C1 x = some xs ∧ (D.lst xs).Cmp ∧ P (.bl xs.isEmpty) ρ1 C1) := pe_weak h fun σ H Q ⟨B, F, ρ, C, P, R, m, k⟩ =>
  ⟨B, F, ρ, C, _, R, m, fun x ρ1 C1 F1 v1 H1 s1 R1 r1 ⟨xs, hx, ⟨p1, p2⟩, q⟩ => by
    obtain ⟨a, vs, rfl, hl, ra⟩ := lstD_rel R1.ce r1 hx
    refine ⟨Nat.zero_le _, fun p hp => ?_⟩
    have hs := same_upd (o := HO.lst []) hp
    have R2 := (rel_fresh (vs := []) R1 hp).1
    refine ⟨_, _, .lst (.of (hs _ _ hl)) (reps_dp ((ra.mono R1.ce.fh).mono hs) p1), .lst (.of upd_same) .nil, p2, by decide +kernel, ?_⟩
    have e : PyData.eqv (.list (D.pys xs)) (.list []) = xs.isEmpty := by rw [← eqv_nil xs]; rfl
    rw [e]
    exact k _ ρ1 C1 F1 _ _ s1 R2 (.bl _) q⟩
theorem l_lrv {ma : ME} {e : Expr} (h : PE X e (tRevL X.K (rd X.K ma))) : PE X e (rdL X.K fun ρ C P => ma ρ C fun x ρ1 C1 => ∃ xs, lstD C1 x = some xs ∧ P xs.reverse ρ1 C1) := pe_weak h fun σ H Q ⟨B, F, ρ, C, P, R, m, k⟩ =>
  ⟨B, F, ρ, C, _, R, m, fun x ρ1 C1 F1 v1 H1 s1 R1 r1 ⟨xs, hx, q⟩ => by
    obtain ⟨a, vs, rfl, hl, ra⟩ := lstD_rel R1.ce r1 hx
    refine ⟨a, vs, rfl, .of hl, fun p hp => ?_⟩
    obtain ⟨R2, f1, f2, f3, f4⟩ := rel_fresh (vs := vs.reverse) R1 hp
    exact k _ ρ1 C1 F1 p vs.reverse _ s1 R2 upd_same ra.reverse f1 f2 f3 f4 q⟩
theorem l_rvd {ma : ME} {e : Expr} (h : PE X e (N1.tLstRev X.K (rd X.K ma))) : PE X e (rdL X.K fun ρ C P => ma ρ C fun x ρ1 C1 => ∃ xs, lstD C1 x = some xs ∧ P xs.reverse ρ1 C1) := pe_weak h fun σ H Q ⟨B, F, ρ, C, P, R, m, k⟩ =>
  ⟨B, F, ρ, C, _, R, m, fun x ρ1 C1 F1 v1 H1 s1 R1 r1 ⟨xs, hx, q⟩ => by
    obtain ⟨a, vs, rfl, hl, ra⟩ := lstD_rel R1.ce r1 hx
    refine ⟨a, vs, rfl, .of hl, fun p hp => ?_⟩
    obtain ⟨R2, f1, f2, f3, f4⟩ := rel_fresh (vs := vs.reverse) R1 hp
    exact k _ ρ1 C1 F1 p vs.reverse _ s1 R2 upd_same ra.reverse f1 f2 f3 f4 q⟩
theorem l_cat {ma mb : ME} {e : Expr} (h : PE X e (tOp rCat (rd X.K ma) (rd X.K mb))) : PE X e (rdL X.K fun ρ C P => ma ρ C fun x ρ1 C1 => mb ρ1 C1 fun y ρ2 C2 => ∃ xs ys, lstD C2 x = some xs ∧ lstD C2 y = some ys ∧ xs.length + ys.length ≤ sizeLine ∧ P (xs ++ ys) ρ2 C2) := pe_weak h fun σ H Q ⟨B, F, ρ, C, P, R, m, k⟩ =>
  ⟨B, F, ρ, C, _, R, m, fun x ρ1 C1 F1 v1 H1 s1 R1 r1 q1 => ⟨B, F1, ρ1, C1, _, R1, q1, fun y ρ2 C2 F2 v2 H2 s2 R2 r2 ⟨xs, ys, hx, hy, hz, q⟩ => by
    obtain ⟨a, vs, rfl, hl, ra⟩ := lstD_rel R2.ce (r1.mono s2) hx
    obtain ⟨b, ws, rfl, hl2, rb⟩ := lstD_rel R2.ce r2 hy
    refine ⟨a, b, vs, ws, rfl, rfl, hl, hl2, by rw [ra.length, rb.length]; exact hz, fun p hp => ?_⟩
    obtain ⟨R3, f1, f2, f3, f4⟩ := rel_fresh (vs := vs ++ ws) R2 hp
    exact k _ ρ2 C2 F2 p (vs ++ ws) _ (s1.trans s2) R3 upd_same (ra.append rb) f1 f2 f3 f4 q⟩⟩
theorem reps_rg (K : PySem.W.Frag) (F : Hp) (a b : Int) : Reps K F (rgV a b) (rangeD a 1 (b - a).toNat) := by
  unfold rgV rangeD
  have key : ∀ l : List Nat, Reps K F (l.map fun i => V.int (a + (i : Nat))) (l.map fun i => D.int (a + (i : Nat) * 1)) := by
    intro l
    induction l with
    | nil => exact .nil
    | cons i l ih =>
      refine .cons ?_ ih
      show Rep K F (V.int (a + (i : Nat))) (D.int (a + (i : Nat) * 1))
      rw [Int.mul_one]
      exact .int _
  exact key _
theorem l_lrg1 {ma : ME} {e : Expr} (h : PE X e (tLstRg (tRg1 (rd X.K ma)))) : PE X e (rdL X.K fun ρ C P => ma ρ C fun x ρ1 C1 => match x with
    | .int j => RgOk 0 j ∧ P (rangeD 0 1 (j - 0).toNat) ρ1 C1 | _ => False) := pe_weak h fun σ H Q ⟨B, F, ρ, C, P, R, m, k⟩ =>
  ⟨B, F, ρ, C, _, R, m, fun x ρ1 C1 F1 v1 H1 s1 R1 r1 q1 => by
    try dsimp only at q1
    split at q1
    · cases r1
      refine ⟨_, rfl, q1.1, fun p hp => ?_⟩
      obtain ⟨R2, f1, f2, f3, f4⟩ := rel_fresh R1 hp
      exact k _ ρ1 C1 F1 p _ _ s1 R2 upd_same (reps_rg _ _ _ _) f1 f2 f3 f4 q1.2
    · exact q1.elim⟩
theorem l_lrg2 {ma mb : ME} {e : Expr} (h : PE X e (tLstRg (tRg2 (rd X.K ma) (rd X.K mb)))) : PE X e (rdL X.K fun ρ C P => ma ρ C fun x ρ1 C1 => mb ρ1 C1 fun y ρ2 C2 => match x, y with
    | .int i, .int j => RgOk i j ∧ P (rangeD i 1 (j - i).toNat) ρ2 C2 | _, _ => False) := pe_weak h fun σ H Q ⟨B, F, ρ, C, P, R, m, k⟩ =>
  ⟨B, F, ρ, C, _, R, m, fun x ρ1 C1 F1 v1 H1 s1 R1 r1 q1 => ⟨B, F1, ρ1, C1, _, R1, q1, fun y ρ2 C2 F2 v2 H2 s2 R2 r2 q2 => by
    try dsimp only at q2
    split at q2
    · cases r1; cases r2
      refine ⟨_, _, rfl, rfl, q2.1, fun p hp => ?_⟩
      obtain ⟨R3, f1, f2, f3, f4⟩ := rel_fresh R2 hp
      exact k _ ρ2 C2 F2 p _ _ (s1.trans s2) R3 upd_same (reps_rg _ _ _ _) f1 f2 f3 f4 q2.2
    · exact q2.elim⟩⟩
theorem dropLast_take {α : Type} (xs : List α) : xs.dropLast = xs.take (xs.length - 1) := List.dropLast_eq_take
theorem Reps.dropLast {K : PySem.W.Frag} {F : Hp} {vs : List V} {ds : List D} (r : Reps K F vs ds) : Reps K F vs.dropLast ds.dropLast := by
  rw [List.dropLast_eq_take, List.dropLast_eq_take, r.length]; exact r.take _
theorem e_opop {i : Nat} {e : Expr} (h : PE X e (tBM0 X.K "list" rPop (tVar i))) :
    PE X e (rd X.K fun ρ C P => varO ρ i fun xs => ∃ y, xs[xs.length - 1]? = some y ∧ P y (ρ.set i (some (.own xs.dropLast))) C) := pe_weak h fun σ H Q ⟨B, F, ρ, C, P, R, m, k⟩ => by
  obtain ⟨xs, hx, y, hy, m⟩ := varO_inv m
  obtain ⟨a, vs, e1, hl, ra, _⟩ := R.own i xs hx
  obtain ⟨v, hv, rv⟩ := ra.getD hy
  refine ⟨_, e1, .inl ⟨rfl, vs, .of hl⟩, a, vs, v, rfl, rfl, hl, by rw [ra.length]; exact hv, ?_⟩
  exact k _ _ C F _ _ (Same.refl _) (R.mutOwn hx e1 ra.dropLast) rv m
theorem Reps.eraseIdx {K : PySem.W.Frag} {F : Hp} : ∀ {vs : List V} {ds : List D} (i : Nat), Reps K F vs ds → Reps K F (vs.eraseIdx i) (ds.eraseIdx i)
  | _, _, _, .nil => .nil
  | _, _, 0, .cons _ t => t
  | _, _, i + 1, .cons r t => .cons r (Reps.eraseIdx i t)
theorem e_cpop {ma : ME} {e : Expr} (h : PE X e (tBM0 X.K "list" rPop (rd X.K ma))) :
    PE X e (rd X.K fun ρ C P => ma ρ C fun x ρ1 C1 => match x with
      | .ref a => ∃ xs y, C1 a = some (.lst xs) ∧ xs[xs.length - 1]? = some y ∧ P y ρ1 (fun b => if b = a then some (.lst xs.dropLast) else C1 b)
      | _ => False) := pe_weak h fun σ H Q ⟨B, F, ρ, C, P, R, m, k⟩ =>
  ⟨B, F, ρ, C, _, R, m, fun x ρ1 C1 F1 v1 H1 s1 R1 r1 q1 => by
    try dsimp only at q1
    split at q1
    · cases r1
      obtain ⟨xs, y, hc, hy, q1⟩ := q1
      obtain ⟨vs, hl, ra⟩ := (R1.ce.cel _ _ hc).1
      obtain ⟨v, hv, rv⟩ := ra.getD hy
      refine ⟨.inl ⟨rfl, vs, .of hl⟩, _, vs, v, rfl, rfl, hl, by rw [ra.length]; exact hv, ?_⟩
      exact k _ ρ1 _ F1 _ _ s1 (R1.mutCell (c' := .lst xs.dropLast) hc ⟨_, upd_same, ra.dropLast⟩) rv q1
    · exact q1.elim⟩
theorem e_cpopA {ma mb : ME} {e : Expr} (h : PE X e (tBM X.K "list" rPopAt (rd X.K ma) (tCons (rd X.K mb) tNil))) :
    PE X e (rd X.K fun ρ C P => ma ρ C fun x ρ1 C1 => match x with
    | .ref a => ∃ xs0, C1 a = some (.lst xs0) ∧ mb ρ1 C1 fun y ρ2 C2 => match y with
      | .int i => ∃ xs j y, C2 a = some (.lst xs) ∧ -(2 ^ 63) ≤ i ∧ i < 2 ^ 63 ∧ seqIndex? i xs.length = some j ∧ xs[j]? = some y ∧ P y ρ2 (fun b => if b = a then some (.lst (xs.eraseIdx j)) else C2 b)
      | _ => False
    | _ => False) := pe_weak h fun σ H Q ⟨B, F, ρ, C, P, R, m, k⟩ =>
  ⟨B, F, ρ, C, _, R, m, fun x ρ1 C1 F1 v1 H1 s1 R1 r1 q1 => by
    try dsimp only at q1
    split at q1
    · cases r1
      obtain ⟨xs0, hc0, q1⟩ := q1
      obtain ⟨vs0, hl0, _⟩ := (R1.ce.cel _ _ hc0).1
      refine ⟨.inl ⟨rfl, vs0, .of hl0⟩, B, F1, ρ1, C1, _, R1, q1, fun y ρ2 C2 F2 v2 H2 s2 R2 r2 q2 => ?_⟩
      try dsimp only at q2
      split at q2
      · cases r2
        obtain ⟨xs, j, y, hc, h1, h2, hj, hy, q2⟩ := q2
        obtain ⟨vs, hl, ra⟩ := (R2.ce.cel _ _ hc).1
        obtain ⟨v, hv, rv⟩ := ra.getD hy
        refine ⟨_, vs, _, j, v, rfl, rfl, hl, h1, h2, by rw [ra.length]; exact hj, hv, ?_⟩
        exact k _ ρ2 _ F2 _ _ (s1.trans s2) (R2.mutCell (c' := .lst (xs.eraseIdx j)) hc ⟨_, upd_same, ra.eraseIdx j⟩) rv q2
      · exact q2.elim
    · exact q1.elim⟩
theorem pys_getD {ds : List D} {j : Nat} {z : PyData} (h : (D.pys ds)[j]? = some z) : ∃ d, ds[j]? = some d ∧ z = d.py := by
  induction ds generalizing j with
  | nil => simp [D.pys] at h
  | cons x xs ih =>
    cases j with
    | zero => simp [D.pys] at h; exact ⟨x, rfl, h.symm⟩
    | succ j => simp [D.pys] at h; exact ih h
theorem pys_get {ds : List D} {j : Nat} {d : D} (h : ds[j]? = some d) : (D.pys ds)[j]? = some d.py := by
  induction ds generalizing j with
  | nil => simp at h
  | cons x xs ih =>
    cases j with
    | zero => simp at h; subst h; rfl
    | succ j => simp [D.pys]; exact ih h
theorem firstAt_spec {d : D} : ∀ {ds : List D} {j : Nat}, firstAt d ds = some j → (∃ z, ds[j]? = some z ∧ z.eqv d = true) ∧ ∀ (m : Nat) z, m < j → ds[m]? = some z → z.eqv d = false
  | [], _, h => by cases h
  | x :: xs, j, h => by
    unfold firstAt at h
    split at h
    · rename_i q
      cases h
      exact ⟨⟨x, rfl, q⟩, fun m z hm => absurd hm (Nat.not_lt_zero m)⟩
    · rename_i q
      cases e : firstAt d xs with
      | none => rw [e] at h; cases h
      | some i =>
        rw [e] at h
        cases h
        obtain ⟨⟨z, hz, hq⟩, hm⟩ := firstAt_spec e
        refine ⟨⟨z, by simpa using hz, hq⟩, fun m z hmi hz => ?_⟩
        cases m with
        | zero => simp at hz; subst hz; exact Bool.eq_false_iff.mpr q
        | succ m => exact hm m z (Nat.lt_of_succ_lt_succ hmi) (by simpa using hz)
theorem e_indx (hr : Room 0 X.A) {ma mb : ME} {e : Expr} (h : PE X e (tBM X.K "list" (rIndexD X.K) (rd X.K ma) (tCons (rd X.K mb) tNil))) :
    PE X e (rd X.K fun ρ C P => ma ρ C fun x ρ1 C1 => match x with
    | .lst xs => mb ρ1 C1 fun y ρ2 C2 => (D.lst xs).Cmp ∧ y.Cmp ∧ ∃ j, firstAt y xs = some j ∧ P (.int (j : Nat)) ρ2 C2
    | _ => False) := pe_weak h fun σ H Q ⟨B, F, ρ, C, P, R, m, k⟩ =>
  ⟨B, F, ρ, C, _, R, m, fun x ρ1 C1 F1 v1 H1 s1 R1 r1 q1 => by
    try dsimp only at q1
    split at q1
    · obtain ⟨a, vs, rfl, ha, ra⟩ := r1.lst_inv
      refine ⟨.inl ⟨rfl, vs, .of (R1.ce.fh _ _ ha)⟩, B, F1, ρ1, C1, _, R1, q1, fun y ρ2 C2 F2 v2 H2 s2 R2 r2 ⟨p1, p2, j, hj, q2⟩ => ?_⟩
      obtain ⟨⟨z, hz, hq⟩, hm⟩ := firstAt_spec hj
      have rl := (Rep.lst (s2 _ _ ha) (ra.mono s2)).mono R2.ce.fh
      refine ⟨a, v2, _, _, j, _, rfl, rfl, rep_dp rl p1.1, rep_dp (r2.mono R2.ce.fh) p2.1, p1.2, p2.2, pys_get hz, hq, fun m z' hm' hz' => ?_, k _ ρ2 C2 F2 _ H2 (s1.trans s2) R2 (.int _) q2⟩
      obtain ⟨d, hd, rfl⟩ := pys_getD hz'
      exact hm m d hm' hd
    · exact q1.elim⟩
end
end M61

set_option Elab.async false
set_option linter.all false
set_option autoImplicit false
set_option maxRecDepth 100000
/-! M4d: what is walked, targets, comprehensions. -/
namespace M61
open PySem PySem.Spec PyProof.Rows L2
section
variable {X : Cx}
theorem i_seq {tg : Expr} {ma : ME} {e : Expr} (h : PI X tg e (iSeq X.K (rd X.K ma))) : PI X tg e (rdI X.K fun ρ C P => ma ρ C fun x ρ1 C1 => match x with
    | .tup xs => P xs ρ1 C1 | .lst xs => P xs ρ1 C1 | _ => False) := pi_weak h fun σ H R ⟨B, F, ρ, C, P, Rl, m, k⟩ =>
  ⟨B, F, ρ, C, _, Rl, m, fun x ρ1 C1 F1 v1 H1 s1 R1 r1 q1 => by
    try dsimp only at q1
    split at q1
    · obtain ⟨a, vs, rfl, ha, ra⟩ := r1.tup_inv
      exact ⟨a, vs, rfl, .inr ⟨sqT_same R1.ce.fh ha, k _ ρ1 C1 F1 _ H1 s1 R1 (it_tup ha ra) q1⟩⟩
    · obtain ⟨a, vs, rfl, ha, ra⟩ := r1.lst_inv
      exact ⟨a, vs, rfl, .inl ⟨.of (R1.ce.fh _ _ ha), k _ ρ1 C1 F1 _ H1 s1 R1 (it_list (.of ha) ra) q1⟩⟩
    · exact q1.elim⟩
theorem i_enum {tg : Expr} {ma : ME} {e : Expr} (h : PI X tg e (iEnumA X.K (tCons (rd X.K ma) tNil))) : PI X tg e (rdI X.K fun ρ C P => ma ρ C fun x ρ1 C1 => match x with
    | .tup xs => P (enumD 0 xs) ρ1 C1 | .lst xs => P (enumD 0 xs) ρ1 C1 | _ => False) := pi_weak h fun σ H R ⟨B, F, ρ, C, P, Rl, m, k⟩ =>
  ⟨B, F, ρ, C, _, Rl, m, fun x ρ1 C1 F1 v1 H1 s1 R1 r1 q1 => by
    try dsimp only at q1
    split at q1
    · obtain ⟨a, vs, rfl, ha, ra⟩ := r1.tup_inv
      exact ⟨a, vs, rfl, .inr ⟨sqT_same R1.ce.fh ha, k _ ρ1 C1 F1 _ H1 s1 R1 (it_enumT ha ra) q1⟩⟩
    · obtain ⟨a, vs, rfl, ha, ra⟩ := r1.lst_inv
      exact ⟨a, vs, rfl, .inl ⟨.of (R1.ce.fh _ _ ha), k _ ρ1 C1 F1 _ H1 s1 R1 (it_enum (.of ha) ra) q1⟩⟩
    · exact q1.elim⟩
theorem i_rng1 {tg : Expr} {ma : ME} {e : Expr} (h : PI X tg e (iRng1 (tCons (rd X.K ma) tNil))) : PI X tg e (rdI X.K fun ρ C P => ma ρ C fun x ρ1 C1 => match x with
    | .int j => -(2 ^ 62) ≤ j ∧ j < 2 ^ 62 ∧ P (rangeD 0 1 j.toNat) ρ1 C1 | _ => False) := pi_weak h fun σ H R ⟨B, F, ρ, C, P, Rl, m, k⟩ =>
  ⟨B, F, ρ, C, _, Rl, m, fun x ρ1 C1 F1 v1 H1 s1 R1 r1 q1 => by
    try dsimp only at q1
    split at q1
    · cases r1
      exact ⟨_, rfl, q1.1, q1.2.1, k _ ρ1 C1 F1 _ H1 s1 R1 (it_range 0 _) q1.2.2⟩
    · exact q1.elim⟩
theorem i_rng2 {tg : Expr} {ma mb : ME} {e : Expr} (h : PI X tg e (iRng2 (tCons (rd X.K ma) (tCons (rd X.K mb) tNil)))) : PI X tg e (rdI X.K fun ρ C P => ma ρ C fun x ρ1 C1 => mb ρ1 C1 fun y ρ2 C2 => match x, y with
    | .int i, .int j => bnd i j ∧ P (rangeD i 1 (j - i).toNat) ρ2 C2 | _, _ => False) := pi_weak h fun σ H R ⟨B, F, ρ, C, P, Rl, m, k⟩ =>
  ⟨B, F, ρ, C, _, Rl, m, fun x ρ1 C1 F1 v1 H1 s1 R1 r1 q1 => ⟨B, F1, ρ1, C1, _, R1, q1, fun y ρ2 C2 F2 v2 H2 s2 R2 r2 q2 => by
    try dsimp only at q2
    split at q2
    · cases r1; cases r2
      exact ⟨_, _, rfl, q2.1, k _ ρ2 C2 F2 _ H2 (s1.trans s2) R2 (it_range _ _) q2.2⟩
    · exact q2.elim⟩⟩
theorem i_rng3 {tg : Expr} {ma mb mc : ME} {e : Expr} (h : PI X tg e (iRng3 (tCons (rd X.K ma) (tCons (rd X.K mb) (tCons (rd X.K mc) tNil))))) : PI X tg e (rdI X.K fun ρ C P => ma ρ C fun x ρ1 C1 => mb ρ1 C1 fun y ρ2 C2 => mc ρ2 C2 fun z ρ3 C3 => match x, y, z with
    | .int i, .int j, .int k => bnd i j ∧ k = -1 ∧ P (rangeD i k (i - j).toNat) ρ3 C3 | _, _, _ => False) := pi_weak h fun σ H R ⟨B, F, ρ, C, P, Rl, m, k⟩ =>
  ⟨B, F, ρ, C, _, Rl, m, fun x ρ1 C1 F1 v1 H1 s1 R1 r1 q1 => ⟨B, F1, ρ1, C1, _, R1, q1, fun y ρ2 C2 F2 v2 H2 s2 R2 r2 q2 => ⟨B, F2, ρ2, C2, _, R2, q2, fun z ρ3 C3 F3 v3 H3 s3 R3 r3 q3 => by
    try dsimp only at q3
    split at q3
    · cases r1; cases r2; cases r3
      obtain ⟨⟨b1, b2, b3, b4⟩, e, q3⟩ := q3
      subst e
      exact ⟨_, _, -1, _, rfl, RgC.neg b1 b2 b3 b4, k _ ρ3 C3 F3 _ H3 (s1.trans (s2.trans s3)) R3 (it_rangeC _ _ _) q3⟩
    · exact q3.elim⟩⟩⟩
/-- zip -/
theorem zipD_len : ∀ xs ys : List D, (zipD xs ys).length = min xs.length ys.length
  | [], _ => by simp [zipD]
  | _ :: _, [] => by simp [zipD]
  | x :: xs, y :: ys => by
    unfold zipD
    rw [List.length_cons, List.length_cons, List.length_cons, zipD_len xs ys]; omega
theorem zipD_get : ∀ (xs ys : List D) (i : Nat) (x y : D), xs[i]? = some x → ys[i]? = some y → (zipD xs ys)[i]? = some (.tup [x, y])
  | [], _, _, _, _, h, _ => by simp at h
  | _ :: _, [], _, _, _, _, h => by simp at h
  | a :: xs, b :: ys, 0, x, y, h, h2 => by simp at h h2; subst h h2; rfl
  | a :: xs, b :: ys, i + 1, x, y, h, h2 => by
    unfold zipD
    rw [List.getElem?_cons_succ] at h h2 ⊢
    exact zipD_get xs ys i x y h h2
theorem it_zipG {K : PySem.W.Frag} {F : Hp} {xs ys : List V} {ds es : List D} {J : It} {G : Hp → Prop} (r1 : Reps K F xs ds) (r2 : Reps K F ys es) (w : Walk J (zipD ds es).length G (YPair (fun i => xs[i]?) (fun i => ys[i]?))) (g : ∀ H, Same F H → G H) : IterOk K F (zipD ds es) J :=
  ⟨G, _, w, g, fun i H F2 x H' hi s s2 y => it_pair (n := (zipD ds es).length) (fun i u v F2 hi h1 h2 s => by
    obtain ⟨d, hd, rd⟩ := r1.get h1
    obtain ⟨e, he, re⟩ := r2.get h2
    exact ⟨d, e, rd.mono s, re.mono s, zipD_get _ _ _ _ _ hd he⟩) hi s s2 y⟩
theorem it_rev {K : PySem.W.Frag} {F : Hp} {xs : List V} {ds : List D} {J : It} {G : Hp → Prop} (r : Reps K F xs ds) (w : Walk J ds.reverse.length G (fun i H x H' => H' = H ∧ xs[xs.length - 1 - i]? = some x)) (g : ∀ H, Same F H → G H) : IterOk K F ds.reverse J :=
  ⟨G, _, w, g, fun i H F2 x H' hi s s2 ⟨e, hx⟩ => by
    subst e
    obtain ⟨d, hd, rd⟩ := r.get hx
    refine ⟨F2, d, Grow.refl s2, ?_, rd.mono s⟩
    rw [List.length_reverse] at hi
    rw [List.getElem?_reverse (by omega), ← r.length]
    exact hd⟩
theorem walk_revT {K : PySem.W.Frag} {a : Addr} {xs : List V} : Walk (RT.ItvT K a xs.length) xs.length (fun H => SqT K H a xs) (fun i H x H' => H' = H ∧ xs[xs.length - 1 - i]? = some x) :=
  ⟨fun i _ hi q => ⟨hi, xs, xs[xs.length - 1 - i]'(by omega), q, by simp [show xs.length - 1 - i < xs.length by omega]⟩, fun _ _ => Nat.le_refl _, fun _ _ _ _ _ q y => ⟨y.1, y.2 xs q⟩⟩
theorem i_rvs {tg : Expr} {ma : ME} {e : Expr} (h : PI X tg e (RT.iRevA X.K (rd X.K ma))) : PI X tg e (rdI X.K fun ρ C P => ma ρ C fun x ρ1 C1 => match x with
    | .tup xs => P xs.reverse ρ1 C1 | .lst xs => P xs.reverse ρ1 C1 | _ => False) := pi_weak h fun σ H R ⟨B, F, ρ, C, P, Rl, m, k⟩ =>
  ⟨B, F, ρ, C, _, Rl, m, fun x ρ1 C1 F1 v1 H1 s1 R1 r1 q1 => by
    try dsimp only at q1
    split at q1
    · obtain ⟨a, vs, rfl, ha, ra⟩ := r1.tup_inv
      exact ⟨a, vs, rfl, .inr ⟨sqT_same R1.ce.fh ha, k _ ρ1 C1 F1 _ H1 s1 R1 (it_rev ra (by rw [List.length_reverse, ← ra.length]; exact walk_revT) fun H s => sqT_same s ha) q1⟩⟩
    · obtain ⟨a, vs, rfl, ha, ra⟩ := r1.lst_inv
      exact ⟨a, vs, rfl, .inl ⟨.of (R1.ce.fh _ _ ha), k _ ρ1 C1 F1 _ H1 s1 R1 (it_rev ra (by rw [List.length_reverse, ← ra.length]; exact walk_rev) fun H s => SqL.of (s _ _ ha)) q1⟩⟩
    · exact q1.elim⟩
theorem i_rvr {tg : Expr} {ma mb : ME} {e : Expr} (h : PI X tg e (iRevR (tRg2 (rd X.K ma) (rd X.K mb)))) : PI X tg e (rdI X.K fun ρ C P => ma ρ C fun x ρ1 C1 => mb ρ1 C1 fun y ρ2 C2 => match x, y with
    | .int i, .int j => bnd i j ∧ P (rangeD (i + (((j - i).toNat : Nat) : Int) - 1) (-1) (j - i).toNat) ρ2 C2 | _, _ => False) := pi_weak h fun σ H R ⟨B, F, ρ, C, P, Rl, m, k⟩ =>
  ⟨B, F, ρ, C, _, Rl, m, fun x ρ1 C1 F1 v1 H1 s1 R1 r1 q1 => ⟨B, F1, ρ1, C1, _, R1, q1, fun y ρ2 C2 F2 v2 H2 s2 R2 r2 q2 => by
    try dsimp only at q2
    split at q2
    · cases r1; cases r2
      obtain ⟨⟨b1, b2, b3, b4⟩, q2⟩ := q2
      exact ⟨_, _, rfl, rfl, b1, b2, b3, b4, k _ ρ2 C2 F2 _ H2 (s1.trans s2) R2 (it_rangeC _ _ _) q2⟩
    · exact q2.elim⟩⟩

theorem i_rvr1 {tg : Expr} {ma : ME} {e : Expr} (h : PI X tg e (iRevR (tRg1 (rd X.K ma)))) : PI X tg e (rdI X.K fun ρ C P => ma ρ C fun x ρ1 C1 => match x with
    | .int j => bnd 0 j ∧ P (rangeD (0 + (((j - 0).toNat : Nat) : Int) - 1) (-1) (j - 0).toNat) ρ1 C1 | _ => False) := pi_weak h fun σ H R ⟨B, F, ρ, C, P, Rl, m, k⟩ =>
  ⟨B, F, ρ, C, _, Rl, m, fun x ρ1 C1 F1 v1 H1 s1 R1 r1 q1 => by
    try dsimp only at q1
    split at q1
    · cases r1
      obtain ⟨⟨b1, b2, b3, b4⟩, q1⟩ := q1
      exact ⟨_, rfl, b1, b2, b3, b4, k _ ρ1 C1 F1 _ H1 s1 R1 (it_rangeC _ _ _) q1⟩
    · exact q1.elim⟩
/-! ### targets -/
mutual
def tgSlots : Tg → List Nat
  | .nm i => [i]
  | .tp ts => tgsSlots ts
def tgsSlots : Tgs → List Nat
  | .nil => []
  | .cons t ts => tgSlots t ++ tgsSlots ts
end
/-- slots outside vs stay -/
def OutS (vs : List Nat) (ρ ρ' : Rho) (σ σ' : L2.St) : Prop := σ'.length = σ.length ∧ ∀ i, i ∉ vs → ρ'[i]? = ρ[i]? ∧ σ'[i]? = σ[i]?
theorem OutS.refl {vs : List Nat} {ρ : Rho} {σ : L2.St} : OutS vs ρ ρ σ σ := ⟨rfl, fun _ _ => ⟨rfl, rfl⟩⟩
theorem OutS.trans {vs : List Nat} {ρ ρ1 ρ2 : Rho} {σ σ1 σ2 : L2.St} (a : OutS vs ρ ρ1 σ σ1) (b : OutS vs ρ1 ρ2 σ1 σ2) : OutS vs ρ ρ2 σ σ2 :=
  ⟨b.1.trans a.1, fun i h => ⟨(b.2 i h).1.trans (a.2 i h).1, (b.2 i h).2.trans (a.2 i h).2⟩⟩
theorem OutS.mono {vs ws : List Nat} {ρ ρ1 : Rho} {σ σ1 : L2.St} (a : OutS vs ρ ρ1 σ σ1) (h : ∀ i ∈ vs, i ∈ ws) : OutS ws ρ ρ1 σ σ1 := ⟨a.1, fun i hi => a.2 i fun q => hi (h i q)⟩
def rg (K : PySem.W.Frag) (tg : Tg) : TG := fun v σ H Q => ∃ (B : Base) (F : Hp) (ρ : Rho) (C : CM) (d : D) (P : Rho → Prop), Rel K B F σ H ρ C ∧ Rep K F v d ∧ bindT tg d ρ P ∧
  ∀ ρ' σ', Rel K B F σ' H ρ' C → OutS (tgSlots tg) ρ ρ' σ σ' → P ρ' → Q σ' H
def rgs (K : PySem.W.Frag) (tg : Tgs) : TGs := fun vs σ H Q => ∃ (B : Base) (F : Hp) (ρ : Rho) (C : CM) (ds : List D) (P : Rho → Prop), Rel K B F σ H ρ C ∧ Reps K F vs ds ∧ bindTs tg ds ρ P ∧
  ∀ ρ' σ', Rel K B F σ' H ρ' C → OutS (tgsSlots tg) ρ ρ' σ σ' → P ρ' → Q σ' H
theorem pg_weak {e : Expr} {t t' : TG} (h : PG X e t) (k : ∀ v σ H Q, t' v σ H Q → t v σ H Q) : PG X e t' := ⟨fun pins s σ H x v Q I r q => h.run pins s σ H x v Q I r (k x σ H Q q)⟩
theorem pgs_weak {e : List Expr} {t t' : TGs} (h : PGs X e t) (k : ∀ v σ H Q, t' v σ H Q → t v σ H Q) : PGs X e t' := ⟨fun pins s σ H xs us Q I r q => h.run pins s σ H xs us Q I r (k xs σ H Q q)⟩
theorem g_nm {i : Nat} {e : Expr} (h : PG X e (gName i)) : PG X e (rg X.K (.nm i)) := pg_weak h fun v σ H Q ⟨B, F, ρ, C, d, P, R, r, m, k⟩ =>
  k _ _ (R.setDat i r) ⟨by rw [List.length_set], fun j hj => by
    have hne : i ≠ j := fun e => hj (by unfold tgSlots; rw [e]; exact List.mem_singleton.mpr rfl)
    exact ⟨List.getElem?_set_ne hne, List.getElem?_set_ne hne⟩⟩ m
theorem gs_nil : PGs X [] (rgs X.K .nil) := pgs_weak pgs_nil fun vs σ H Q ⟨B, F, ρ, C, ds, P, R, r, m, k⟩ => by
  cases r with
  | nil => exact ⟨rfl, k ρ σ R OutS.refl m⟩
  | cons _ _ => exact False.elim m
theorem gs_cons {e : Expr} {es : List Expr} {t : Tg} {ts : Tgs} (h : PGs X (e :: es) (gCons (rg X.K t) (rgs X.K ts))) : PGs X (e :: es) (rgs X.K (.cons t ts)) := pgs_weak h fun vs σ H Q ⟨B, F, ρ, C, ds, P, R, r, m, k⟩ => by
  cases r with
  | nil => exact False.elim m
  | cons r1 rr =>
    refine ⟨_, _, rfl, B, F, ρ, C, _, _, R, r1, m, fun ρ1 σ1 R1 o1 q1 => ⟨B, F, ρ1, C, _, _, R1, rr, q1, fun ρ2 σ2 R2 o2 q2 => k ρ2 σ2 R2 ?_ q2⟩⟩
    exact (o1.mono fun i hi => by unfold tgsSlots; exact List.mem_append_left _ hi).trans (o2.mono fun i hi => by unfold tgsSlots; exact List.mem_append_right _ hi)
theorem bindTs_len : ∀ {ts : Tgs} {ds : List D} {ρ : Rho} {P : Rho → Prop} {es : List Expr}, PGs X es (rgs X.K ts) → bindTs ts ds ρ P → True := fun _ _ => trivial
theorem pg_or {e : Expr} {t1 t2 : TG} (h1 : PG X e t1) (h2 : PG X e t2) : PG X e (fun v σ H Q => t1 v σ H Q ∨ t2 v σ H Q) := ⟨fun pins s σ H x v Q I r q => q.elim (h1.run pins s σ H x v Q I r) (h2.run pins s σ H x v Q I r)⟩
theorem g_tp {e : Expr} {ts : Tgs} {n : Nat} (hl : ∀ {ds : List D} {ρ : Rho} {P : Rho → Prop}, bindTs ts ds ρ P → ds.length = n) (h : PG X e (gTup X.K n (rgs X.K ts))) (h2 : PG X e (gLst X.K n (rgs X.K ts))) : PG X e (rg X.K (.tp ts)) := pg_weak (pg_or h h2) fun v σ H Q ⟨B, F, ρ, C, d, P, R, r, m, k⟩ => by
  cases d with
  | tup ds =>
    have m : bindTs ts ds ρ P := m
    obtain ⟨a, vs, rfl, ha, ra⟩ := r.tup_inv
    exact .inl ⟨a, vs, rfl, sqT_same R.ce.fh ha, by rw [ra.length]; exact hl m, B, F, ρ, C, _, P, R, ra, m, k⟩
  | lst ds =>
    have m : bindTs ts ds ρ P := m
    cases r with
    | lst ha ra => exact .inr ⟨_, _, rfl, .of (R.ce.fh _ _ ha), by rw [ra.length]; exact hl m, B, F, ρ, C, _, P, R, ra, m, k⟩
  | _ => exact False.elim m
end
end M61

set_option Elab.async false
set_option linter.all false
set_option autoImplicit false
set_option maxRecDepth 100000
/-! M4e: comprehensions, statements. -/
namespace M61
open PySem PySem.Spec PyProof.Rows L2
section
variable {K : PySem.W.Frag} {B : Base} {F F' H H' : Hp} {σ σ' : L2.St} {ρ ρ' : Rho} {C C' : CM}
/-- an address that nobody speaks of changes -/
theorem Rel.updFree (R : Rel K B F σ H ρ C) {a : Addr} {o : HO} (n1 : F a = none) (n2 : C a = none) (n3 : B.H a = none) (no : NotOwn ρ σ a) : Rel K B F σ (upd H a o) ρ C := by
  have neF : ∀ {b : Addr} {u : HO}, F b = some u → b ≠ a := fun q z => by rw [z, n1] at q; cases q
  have neC : ∀ {b : Addr} {c : Cell}, C b = some c → b ≠ a := fun q z => by rw [z, n2] at q; cases q
  have neB : ∀ {b : Addr} {u : HO}, B.H b = some u → b ≠ a := fun q z => by rw [z, n3] at q; cases q
  refine ⟨R.len, ⟨fun b u q => by rw [upd_ne (neF q)]; exact R.ce.fh b u q, fun b c q => ?_⟩, ⟨R.fr.ff, R.fr.fnew, fun b u q q2 => by rw [upd_ne (neB q)]; exact R.fr.frame b u q q2, R.fr.cnew, fun b u q => by rw [upd_ne (neB q)]; exact R.fr.stay b u q⟩, R.dat, fun i xs q => ?_, R.dis⟩
  · obtain ⟨q1, q2⟩ := R.ce.cel b c q
    exact ⟨q1.mono (Same.refl _) (fun u z => by rw [upd_ne (neC q)]; exact z), q2⟩
  · obtain ⟨b, ws, e1, e2, e3, e4, e5, e6⟩ := R.own i xs q
    have nb : b ≠ a := fun z => by subst z; exact no i xs q e1
    exact ⟨b, ws, e1, by rw [upd_ne nb]; exact e2, e3, e4, e5, e6⟩
end
section
variable {X : Cx}
/-- one turn of a comprehension -/
def compTurn (tg : Tg) (mc : MT) (me : ME) (vs : List Nat) (ρ1 : Rho) : D → CM → (Option D → CM → Prop) → Prop := fun d C2 K => bindT tg d (wipeR ρ1 vs) fun ρ2 => mc ρ2 C2 fun b ρ3 C3 => ρ3 = ρ2 ∧
  if b = true then me ρ3 C3 fun y ρ4 C4 => ρ4 = ρ2 ∧ K (some y) C4 else K none C3
theorem te_comp {mi : ML} {tg : Tg} {mc : MT} {me : ME} {vs : List Nat} (hsub : ∀ i ∈ tgSlots tg, i ∈ vs) : ∀ (σ : L2.St) (H : Hp) (Q : VK), rdL X.K (fun ρ C P => mi ρ C fun ds ρ1 C1 => compGo (compTurn tg mc me vs ρ1) ds [] C1 fun acc C4 => P acc ρ1 C4) σ H Q →
    tLc (rdI X.K mi) (rg X.K tg) (rdT X.K mc) (rd X.K me) vs σ H Q := fun σ H Q ⟨B, F, ρ, C, P, R, m, k⟩ =>
  ⟨B, F, ρ, C, _, R, m, fun ds ρ1 C1 F1 J H1 s1 R1 ⟨G, Y, w, hg, hy⟩ q1 D hD => by
    have bn := R1.base_none hD
    have no := R1.notOwn_of hD
    refine lc_it w (fun i H => ∃ F2 C2 acc vacc, Same F1 F2 ∧ Rel X.K B F2 σ H ρ1 C2 ∧ H D = some (HO.lst vacc) ∧ Reps X.K F2 vacc acc ∧ F2 D = none ∧ C2 D = none ∧
      compGo (compTurn tg mc me vs ρ1) (ds.drop i) acc C2 fun acc C4 => P acc ρ1 C4) ?_ (fun i H _ ⟨F2, C2, acc, vacc, s2, R2, _⟩ => hg H (s2.trans R2.ce.fh)) (fun i x H H' hi pv y => ?_) (fun H pv => ?_)
    · obtain ⟨R2, f1, f2, f3, f4⟩ := rel_fresh (vs := []) R1 hD
      exact ⟨F1, C1, [], [], Same.refl _, R2, upd_same, .nil, f1, f2, q1⟩
    · obtain ⟨F2, C2, acc, vacc, s2, R2, hl, ra, n1, n2, q2⟩ := pv
      obtain ⟨F3, d, g, hd, rd⟩ := hy i H F2 x H' hi s2 R2.ce.fh y
      have ed : ds.drop i = d :: ds.drop (i + 1) := by
        obtain ⟨h1, h2⟩ := List.getElem?_eq_some_iff.mp hd
        rw [← h2]; exact List.drop_eq_getElem_cons h1
      rw [ed] at q2
      have R3 := R2.grow g
      have hl3 : H' D = some (HO.lst vacc) := g.hh _ _ hl
      have n3 : F3 D = none := by
        cases z : F3 D with
        | none => rfl
        | some u =>
          rcases g.fnew D u z with z | z
          · rw [n1] at z; cases z
          · rw [hl] at z; cases z
      have nown : ¬ OwnAt (wipeR ρ1 vs) (wipe σ vs) D := fun ⟨j, ys, q1, q2⟩ => by
        obtain ⟨q3, nj⟩ := wipeR_some q1
        rw [wipe_outS nj] at q2
        exact no j ys q3 q2
      refine ⟨_, F3, wipeR ρ1 vs, C2, d, _, (R3.wiped vs).rebase, rd, q2, fun ρ2 σ2 R4 o4 q4 => ?_⟩
      have o5 : σ2.length = σ.length ∧ ∀ i, i ∉ vs → ρ2[i]? = ρ1[i]? ∧ σ2[i]? = σ[i]? := by
        obtain ⟨o1, o2⟩ := o4.mono hsub
        exact ⟨o1.trans (wipe_length _ _), fun i hi => ⟨(o2 i hi).1.trans (wipeR_out hi), (o2 i hi).2.trans (wipe_outS hi)⟩⟩
      refine ⟨wipe_eq o5.1 fun i hi => (o5.2 i hi).2, _, F3, ρ2, C2, _, R4, q4, fun b ρ3 C3 F5 H5 s5 R5 ⟨e3, q5⟩ => ?_⟩
      subst e3
      cases b with
      | false =>
        obtain ⟨k1, k2, k3⟩ := R5.keep hl3 n3 n2 nown
        exact ⟨F5, C3, acc, vacc, s2.trans (g.ff.trans s5), R3.back R5 o5.2, k1, ra.mono (g.ff.trans s5), k2, k3, q5⟩
      | true =>
        refine ⟨_, F5, ρ3, C3, _, R5, q5, fun y ρ4 C4 F6 v6 H6 s6 R6 r6 ⟨e4, q6, q7⟩ => ?_⟩
        subst e4
        obtain ⟨k1, k2, k3⟩ := R6.keep hl3 n3 n2 nown
        have s7 : Same F2 F6 := g.ff.trans (s5.trans s6)
        refine ⟨vacc, k1, by rw [ra.length]; exact q6, F6, C4, acc ++ [y], vacc ++ [v6], s2.trans s7, (R3.back R6 o5.2).updFree k2 k3 bn no, upd_same, (ra.mono s7).append (.cons r6 .nil), k2, k3, q7⟩
    · obtain ⟨F2, C2, acc, vacc, s2, R2, hl, ra, n1, n2, q2⟩ := pv
      rw [List.drop_length] at q2
      exact k acc ρ1 C2 F2 D vacc H (s1.trans s2) R2 hl ra n1 n2 bn no q2⟩

/-! ### statements -/
abbrev MS := AEnds → Rho → CM → Prop
def rdS (K : PySem.W.Frag) (m : MS) : TS := fun D σ H => ∃ (B : Base) (F : Hp) (ρ : Rho) (C : CM) (A : AEnds), Rel K B F σ H ρ C ∧ m A ρ C ∧
  (∀ ρ' C' F' σ' H', Same F F' → Rel K B F' σ' H' ρ' C' → A.nx ρ' C' → D.nx σ' H') ∧
  (∀ d C' F' v H', Cells K F' H' C' → Fr B.H B.F B.C H' F' C' → Rep K F' v d → A.rt d C' → D.rt v H') ∧
  (∀ ρ' C' F' σ' H', Same F F' → Rel K B F' σ' H' ρ' C' → A.bk ρ' C' → D.bk σ' H') ∧
  (∀ ρ' C' F' σ' H', Same F F' → Rel K B F' σ' H' ρ' C' → A.ct ρ' C' → D.ct σ' H')
theorem ps_weak {st : Stmt} {t t' : TS} (h : PS X st t) (k : ∀ D σ H, t' D σ H → t D σ H) : PS X st t' := ⟨fun pins s σ H D I q => h.run pins s σ H D I (k D σ H q)⟩
theorem pss_weak {st : List Stmt} {t t' : TS} (h : PSs X st t) (k : ∀ D σ H, t' D σ H → t D σ H) : PSs X st t' := ⟨fun pins s σ H D I q => h.run pins s σ H D I (k D σ H q)⟩

theorem ss_nil : PSs X [] (rdS X.K fun A ρ C => A.nx ρ C) := pss_weak pss_nil fun D σ H ⟨B, F, ρ, C, A, R, m, k1, _⟩ => k1 ρ C F σ H (Same.refl _) R m
theorem ss_cons {ms : MS} {mss : MS} {st : Stmt} {sts : List Stmt} (h1 : PS X st (rdS X.K ms)) (h2 : PSs X sts (rdS X.K mss)) :
    PSs X (st :: sts) (rdS X.K fun A ρ C => ms { A with nx := mss A } ρ C) := pss_weak (pss_cons h1 h2) fun D σ H ⟨B, F, ρ, C, A, R, m, k1, k2, k3, k4⟩ =>
  ⟨B, F, ρ, C, { A with nx := mss A }, R, m, fun ρ1 C1 F1 σ1 H1 s1 R1 q1 => ⟨B, F1, ρ1, C1, A, R1, q1, fun ρ2 C2 F2 σ2 H2 s2 R2 q2 => k1 ρ2 C2 F2 σ2 H2 (s1.trans s2) R2 q2, k2,
    fun ρ2 C2 F2 σ2 H2 s2 R2 q2 => k3 ρ2 C2 F2 σ2 H2 (s1.trans s2) R2 q2, fun ρ2 C2 F2 σ2 H2 s2 R2 q2 => k4 ρ2 C2 F2 σ2 H2 (s1.trans s2) R2 q2⟩, k2, k3, k4⟩
theorem s_set {i : Nat} {me : ME} {st : Stmt} (h : PS X st (tAsg (rd X.K me) (gName i))) : PS X st (rdS X.K fun A ρ C => me ρ C fun d ρ1 C1 => A.nx (ρ1.set i (some (.dat d))) C1) :=
  ps_weak h fun D σ H ⟨B, F, ρ, C, A, R, m, k1, _⟩ => ⟨B, F, ρ, C, _, R, m, fun d ρ1 C1 F1 v1 H1 s1 R1 r1 q1 => k1 _ C1 F1 _ H1 s1 (R1.setDat i r1) q1⟩
theorem s_par2 {i j : Nat} {ma : ML} {st : Stmt} (h : PS X st (tPar i j (rdA X.K ma))) : PS X st (rdS X.K fun A ρ C => ma ρ C fun ds ρ1 C1 => match ds with
    | [d, e] => A.nx ((ρ1.set i (some (.dat d))).set j (some (.dat e))) C1 | _ => False) :=
  ps_weak h fun D σ H ⟨B, F, ρ, C, A, R, m, k1, _⟩ => ⟨B, F, ρ, C, _, R, m, fun ds ρ1 C1 F1 vs H1 s1 R1 r1 q1 => by
    try dsimp only at q1
    split at q1
    · cases r1 with
      | cons ra rr =>
        cases rr with
        | cons rb rn =>
          cases rn
          exact ⟨_, _, rfl, k1 _ C1 F1 _ H1 s1 ((R1.setDat i ra).setDat j rb) q1⟩
    · exact q1.elim⟩
theorem s_par3 {i j l : Nat} {ma : ML} {st : Stmt} (h : PS X st (tPar3 i j l (rdA X.K ma))) : PS X st (rdS X.K fun A ρ C => ma ρ C fun ds ρ1 C1 => match ds with
    | [d, e, f] => A.nx (((ρ1.set i (some (.dat d))).set j (some (.dat e))).set l (some (.dat f))) C1 | _ => False) :=
  ps_weak h fun D σ H ⟨B, F, ρ, C, A, R, m, k1, _⟩ => ⟨B, F, ρ, C, _, R, m, fun ds ρ1 C1 F1 vs H1 s1 R1 r1 q1 => by
    try dsimp only at q1
    split at q1
    · cases r1 with
      | cons ra rr =>
        cases rr with
        | cons rb rn =>
          cases rn with
          | cons rc rm =>
            cases rm
            exact ⟨_, _, _, rfl, k1 _ C1 F1 _ H1 s1 (((R1.setDat i ra).setDat j rb).setDat l rc) q1⟩
    · exact q1.elim⟩
theorem s_own {i : Nat} {ml : ML} {st : Stmt} (h : PS X st (tAsg (rdL X.K ml) (gName i))) : PS X st (rdS X.K fun A ρ C => ml ρ C fun ds ρ1 C1 => A.nx (ρ1.set i (some (.own ds))) C1) :=
  ps_weak h fun D σ H ⟨B, F, ρ, C, A, R, m, k1, _⟩ => ⟨B, F, ρ, C, _, R, m, fun ds ρ1 C1 F1 a vs H1 s1 R1 hl rs n1 n2 n3 no q1 => k1 _ C1 F1 _ H1 s1 (R1.setOwn i hl rs n1 n2 n3 no) q1⟩
theorem s_unp {tg : Tg} {me : ME} {st : Stmt} (h : PS X st (tAsg (rd X.K me) (rg X.K tg))) : PS X st (rdS X.K fun A ρ C => me ρ C fun d ρ1 C1 => bindT tg d ρ1 fun ρ2 => A.nx ρ2 C1) :=
  ps_weak h fun D σ H ⟨B, F, ρ, C, A, R, m, k1, _⟩ => ⟨B, F, ρ, C, _, R, m, fun d ρ1 C1 F1 v1 H1 s1 R1 r1 q1 => ⟨B, F1, ρ1, C1, d, _, R1, r1, q1, fun ρ2 σ2 R2 _ q2 => k1 ρ2 C1 F1 σ2 H1 s1 R2 q2⟩⟩
theorem s_exp {me : ME} {st : Stmt} (h : PS X st (tDrop (rd X.K me))) : PS X st (rdS X.K fun A ρ C => me ρ C fun _ ρ1 C1 => A.nx ρ1 C1) :=
  ps_weak h fun D σ H ⟨B, F, ρ, C, A, R, m, k1, _⟩ => ⟨B, F, ρ, C, _, R, m, fun d ρ1 C1 F1 v1 H1 s1 R1 r1 q1 => k1 ρ1 C1 F1 σ H1 s1 R1 q1⟩
theorem s_ret {me : ME} {st : Stmt} (h : PS X st (tRet (rd X.K me))) : PS X st (rdS X.K fun A ρ C => me ρ C fun d _ C1 => A.rt d C1) :=
  ps_weak h fun D σ H ⟨B, F, ρ, C, A, R, m, k1, k2, _⟩ => ⟨B, F, ρ, C, _, R, m, fun d ρ1 C1 F1 v1 H1 s1 R1 r1 q1 => k2 d C1 F1 v1 H1 R1.ce R1.fr r1 q1⟩
theorem s_ret0 {st : Stmt} (h : PS X st tRetN) : PS X st (rdS X.K fun A _ C => A.rt .non C) :=
  ps_weak h fun D σ H ⟨B, F, ρ, C, A, R, m, k1, k2, _⟩ => k2 .non C F .non H R.ce R.fr .non m
theorem s_pass {st : Stmt} (h : PS X st tNext) : PS X st (rdS X.K fun A ρ C => A.nx ρ C) := ps_weak h fun D σ H ⟨B, F, ρ, C, A, R, m, k1, _⟩ => k1 ρ C F σ H (Same.refl _) R m
theorem s_brk {st : Stmt} (h : PS X st tBreak) : PS X st (rdS X.K fun A ρ C => A.bk ρ C) := ps_weak h fun D σ H ⟨B, F, ρ, C, A, R, m, k1, k2, k3, k4⟩ => k3 ρ C F σ H (Same.refl _) R m
theorem s_cnt {st : Stmt} (h : PS X st tCont) : PS X st (rdS X.K fun A ρ C => A.ct ρ C) := ps_weak h fun D σ H ⟨B, F, ρ, C, A, R, m, k1, k2, k3, k4⟩ => k4 ρ C F σ H (Same.refl _) R m
theorem s_nev {st : Stmt} : PS X st (rdS X.K fun _ _ _ => False) := ps_weak ps_never fun D σ H ⟨B, F, ρ, C, A, R, m, _⟩ => m.elim
theorem s_ife {mt : MT} {ma mb : MS} {st : Stmt} (h : PS X st (tIfS (rdT X.K mt) (rdS X.K ma) (rdS X.K mb))) :
    PS X st (rdS X.K fun A ρ C => mt ρ C fun k ρ1 C1 => if k = true then ma A ρ1 C1 else mb A ρ1 C1) := ps_weak h fun D σ H ⟨B, F, ρ, C, A, R, m, k1, k2, k3, k4⟩ =>
  ⟨B, F, ρ, C, _, R, m, fun b ρ1 C1 F1 H1 s1 R1 q1 => by
    have c1 := fun ρ2 C2 F2 σ2 H2 (s2 : Same F1 F2) R2 q2 => k1 ρ2 C2 F2 σ2 H2 (s1.trans s2) R2 q2
    have c3 := fun ρ2 C2 F2 σ2 H2 (s2 : Same F1 F2) R2 q2 => k3 ρ2 C2 F2 σ2 H2 (s1.trans s2) R2 q2
    have c4 := fun ρ2 C2 F2 σ2 H2 (s2 : Same F1 F2) R2 q2 => k4 ρ2 C2 F2 σ2 H2 (s1.trans s2) R2 q2
    cases b with
    | true => exact ⟨B, F1, ρ1, C1, A, R1, q1, c1, k2, c3, c4⟩
    | false => exact ⟨B, F1, ρ1, C1, A, R1, q1, c1, k2, c3, c4⟩⟩
theorem s_for {mi : ML} {tg : Tg} {mb : MS} {st : Stmt} (h : PS X st (tFor (rdI X.K mi) (rg X.K tg) (rdS X.K mb))) :
    PS X st (rdS X.K fun A ρ C => mi ρ C fun ds ρ1 C1 => forGo tg mb A ds ρ1 C1) := ps_weak h fun D σ H ⟨B, F, ρ, C, A, R, m, k1, k2, k3, k4⟩ =>
  ⟨B, F, ρ, C, _, R, m, fun ds ρ1 C1 F1 J H1 s1 R1 ⟨G, Y, w, hg, hy⟩ q1 => by
    refine for_it w (fun i σ H => ∃ F2 ρ2 C2, Same F1 F2 ∧ Rel X.K B F2 σ H ρ2 C2 ∧ forGo tg mb A (ds.drop i) ρ2 C2) ⟨F1, ρ1, C1, Same.refl _, R1, q1⟩ (fun i σ H _ ⟨F2, ρ2, C2, s2, R2, _⟩ => hg H (s2.trans R2.ce.fh)) (fun i x σ H H' hi pv y => ?_) (fun σ H pv => ?_)
    · obtain ⟨F2, ρ2, C2, s2, R2, q2⟩ := pv
      obtain ⟨F3, d, g, hd, rd⟩ := hy i H F2 x H' hi s2 R2.ce.fh y
      have ed : ds.drop i = d :: ds.drop (i + 1) := by
        obtain ⟨h1, h2⟩ := List.getElem?_eq_some_iff.mp hd
        rw [← h2]; exact List.drop_eq_getElem_cons h1
      rw [ed] at q2
      refine ⟨B, F3, ρ2, C2, d, _, R2.grow g, rd, q2, fun ρ3 σ3 R3 _ q3 => ⟨B, F3, ρ3, C2, _, R3, q3, fun ρ4 C4 F4 σ4 H4 s4 R4 q4 => ⟨F4, ρ4, C4, s2.trans (g.ff.trans s4), R4, q4⟩, k2, fun ρ4 C4 F4 σ4 H4 s4 R4 q4 => k1 ρ4 C4 F4 σ4 H4 (s1.trans (s2.trans (g.ff.trans s4))) R4 q4, fun ρ4 C4 F4 σ4 H4 s4 R4 q4 => ⟨F4, ρ4, C4, s2.trans (g.ff.trans s4), R4, q4⟩⟩⟩
    · obtain ⟨F2, ρ2, C2, s2, R2, q2⟩ := pv
      rw [List.drop_length] at q2
      exact k1 ρ2 C2 F2 σ H (s1.trans s2) R2 q2⟩
theorem reps_nums {K : PySem.W.Frag} {F : Hp} : ∀ {ns : List Int} {vs : List V}, Reps K F vs (ns.map .int) → vs = ns.map V.int
  | [], _, r => by cases r; rfl
  | n :: ns, _, r => by
    cases r with
    | cons r1 r2 => cases r1; rw [reps_nums r2]; rfl
theorem goC_at {a : Addr} {ns : List Int} {tg : Tg} {mb : MS} {A : AEnds} {ds : List Int} {ρ : Rho} {C : CM} (h : forGoC a ns tg mb A ds ρ C) : C a = some (.lst (ns.map .int)) := by
  cases ds with
  | nil => exact h.1
  | cons d ds => exact h.1
theorem s_forc {ma : ME} {tg : Tg} {mb : MS} {st : Stmt} (h : PS X st (tFor (iSeq X.K (rd X.K ma)) (rg X.K tg) (rdS X.K mb))) :
    PS X st (rdS X.K fun A ρ C => ma ρ C fun x ρ1 C1 => match x with
      | .ref a => ∃ ns : List Int, forGoC a ns tg mb A ns ρ1 C1
      | _ => False) := ps_weak h fun D σ H ⟨B, F, ρ, C, A, R, m, k1, k2, k3, k4⟩ =>
  ⟨B, F, ρ, C, _, R, m, fun x ρ1 C1 F1 v1 H1 s1 R1 r1 q1 => by
    try dsimp only at q1
    split at q1
    · rename_i a
      obtain ⟨ns, q1⟩ := q1
      cases r1
      have atC : ∀ {F2 : Hp} {H2 : Hp} {C2 : CM}, Cells X.K F2 H2 C2 → C2 a = some (.lst (ns.map .int)) → H2 a = some (HO.lst (ns.map V.int)) ∧ Reps X.K F2 (ns.map V.int) (ns.map .int) := fun ce hc => by
        obtain ⟨vs, hl, ra⟩ := (ce.cel _ _ hc).1
        have e := reps_nums ra
        subst e
        exact ⟨hl, ra⟩
      obtain ⟨hl1, ra1⟩ := atC R1.ce (goC_at q1)
      refine ⟨a, ns.map V.int, rfl, .inl ⟨.of hl1, ?_⟩⟩
      refine for_it walk_list (fun i σ H => ∃ F2 ρ2 C2, Same F1 F2 ∧ Rel X.K B F2 σ H ρ2 C2 ∧ forGoC a ns tg mb A (ns.drop i) ρ2 C2) ⟨F1, ρ1, C1, Same.refl _, R1, q1⟩ (fun i σ H _ ⟨F2, ρ2, C2, s2, R2, q2⟩ => .of (atC R2.ce (goC_at q2)).1) (fun i x σ H H' hi pv y => ?_) (fun σ H pv => ?_)
      · obtain ⟨F2, ρ2, C2, s2, R2, q2⟩ := pv
        obtain ⟨F3, d, g, hd, rd⟩ := it_at ra1 s2 R2.ce.fh y
        rw [List.getElem?_map] at hd
        obtain ⟨nd, hnd, rfl⟩ := Option.map_eq_some_iff.mp hd
        have ed : ns.drop i = nd :: ns.drop (i + 1) := by
          obtain ⟨h1, h2⟩ := List.getElem?_eq_some_iff.mp hnd
          rw [← h2]; exact List.drop_eq_getElem_cons h1
        rw [ed] at q2
        refine ⟨B, F3, ρ2, C2, .int nd, _, R2.grow g, rd, q2.2, fun ρ3 σ3 R3 _ q3 => ⟨B, F3, ρ3, C2, _, R3, q3, fun ρ4 C4 F4 σ4 H4 s4 R4 q4 => ⟨F4, ρ4, C4, s2.trans (g.ff.trans s4), R4, q4⟩, k2, fun ρ4 C4 F4 σ4 H4 s4 R4 q4 => k1 ρ4 C4 F4 σ4 H4 (s1.trans (s2.trans (g.ff.trans s4))) R4 q4, fun ρ4 C4 F4 σ4 H4 s4 R4 q4 => ⟨F4, ρ4, C4, s2.trans (g.ff.trans s4), R4, q4⟩⟩⟩
      · obtain ⟨F2, ρ2, C2, s2, R2, q2⟩ := pv
        rw [show ns.drop (ns.map V.int).length = [] by rw [List.length_map, List.drop_length]] at q2
        exact k1 ρ2 C2 F2 σ H (s1.trans s2) R2 q2.2
    · exact q1.elim⟩
theorem s_whl {mt : MT} {mb : MS} {st : Stmt} (h : PS X st (tWhile (rdT X.K mt) (rdS X.K mb))) :
    PS X st (rdS X.K fun A ρ C => ∃ n, whlGo mt mb A n ρ C) := ps_weak h fun D σ H ⟨B, F, ρ, C, A, R, ⟨n, m⟩, k1, k2, k3, k4⟩ => by
  refine ⟨fun n σ H => ∃ F2 ρ2 C2, Same F F2 ∧ Rel X.K B F2 σ H ρ2 C2 ∧ whlGo mt mb A n ρ2 C2, ⟨n, F, ρ, C, Same.refl _, R, m⟩, fun n σ H ⟨F2, ρ2, C2, s2, R2, q2⟩ => ?_⟩
  cases n with
  | zero => exact q2.elim
  | succ n =>
    refine ⟨B, F2, ρ2, C2, _, R2, q2, fun b ρ3 C3 F3 H3 s3 R3 q3 => ?_⟩
    cases b with
    | false => exact k1 ρ3 C3 F3 σ H3 (s2.trans s3) R3 q3
    | true =>
      refine ⟨fun σ' H' => ∃ F2 ρ2 C2, Same F F2 ∧ Rel X.K B F2 σ' H' ρ2 C2 ∧ whlGo mt mb A n ρ2 C2, fun σ' H' ⟨F4, ρ4, C4, s4, R4, q4⟩ => ⟨n, Nat.lt_succ_self n, F4, ρ4, C4, s4, R4, q4⟩,
        B, F3, ρ3, C3, _, R3, q3, fun ρ4 C4 F4 σ4 H4 s4 R4 q4 => ⟨F4, ρ4, C4, s2.trans (s3.trans s4), R4, q4⟩, k2, fun ρ4 C4 F4 σ4 H4 s4 R4 q4 => k1 ρ4 C4 F4 σ4 H4 (s2.trans (s3.trans s4)) R4 q4, fun ρ4 C4 F4 σ4 H4 s4 R4 q4 => ⟨F4, ρ4, C4, s2.trans (s3.trans s4), R4, q4⟩⟩
end
end M61

set_option Elab.async false
set_option linter.all false
set_option autoImplicit false
set_option maxRecDepth 100000
/-! M4f: statements that change lists; tests. -/
namespace M61
open PySem PySem.Spec PyProof.Rows L2
section
variable {X : Cx}
theorem varD_inv {ρ : Rho} {i : Nat} {f : D → Prop} (h : varD ρ i f) : ∃ d, ρ[i]? = some (some (Dv.dat d)) ∧ f d := by
  unfold varD at h
  split at h
  · exact ⟨_, by assumption, h⟩
  · exact h.elim
theorem s_augA {i : Nat} {me : ME} {st : Stmt} (h : PS X st (tAug i (rd X.K me) (ipI fun i j => i + j))) : PS X st (rdS X.K fun A ρ C => varD ρ i fun x => me ρ C fun y ρ1 C1 => match Bop.add, x, y with
    | .add, .int a, .int b => A.nx (ρ1.set i (some (.dat (.int (a + b))))) C1
    | .sub, .int a, .int b => A.nx (ρ1.set i (some (.dat (.int (a - b))))) C1
    | _, _, _ => False) := ps_weak h fun D σ H ⟨B, F, ρ, C, A, R, m, k1, _⟩ => by
  obtain ⟨d, hd, m⟩ := varD_inv m
  obtain ⟨v, hv, rv⟩ := R.dat i d hd
  refine ⟨v, hv, B, F, ρ, C, _, R, m, fun y ρ1 C1 F1 v1 H1 s1 R1 r1 q1 => ?_⟩
  cases d with
  | int a =>
    cases y with
    | int b =>
      cases rv; cases r1
      exact ⟨_, _, rfl, rfl, k1 _ C1 F1 _ H1 s1 (R1.setDat i (.int _)) q1⟩
    | _ => exact False.elim q1
  | _ => cases y <;> exact False.elim q1
theorem s_augS {i : Nat} {me : ME} {st : Stmt} (h : PS X st (tAug i (rd X.K me) (ipI fun i j => i - j))) : PS X st (rdS X.K fun A ρ C => varD ρ i fun x => me ρ C fun y ρ1 C1 => match Bop.sub, x, y with
    | .add, .int a, .int b => A.nx (ρ1.set i (some (.dat (.int (a + b))))) C1
    | .sub, .int a, .int b => A.nx (ρ1.set i (some (.dat (.int (a - b))))) C1
    | _, _, _ => False) := ps_weak h fun D σ H ⟨B, F, ρ, C, A, R, m, k1, _⟩ => by
  obtain ⟨d, hd, m⟩ := varD_inv m
  obtain ⟨v, hv, rv⟩ := R.dat i d hd
  refine ⟨v, hv, B, F, ρ, C, _, R, m, fun y ρ1 C1 F1 v1 H1 s1 R1 r1 q1 => ?_⟩
  cases d with
  | int a =>
    cases y with
    | int b =>
      cases rv; cases r1
      exact ⟨_, _, rfl, rfl, k1 _ C1 F1 _ H1 s1 (R1.setDat i (.int _)) q1⟩
    | _ => exact False.elim q1
  | _ => cases y <;> exact False.elim q1
theorem s_app {i : Nat} {me : ME} {st : Stmt} (h : PS X st (tDrop (tBM X.K "list" rAppend (tVar i) (tCons (rd X.K me) tNil)))) :
    PS X st (rdS X.K fun A ρ C => varO ρ i fun _ => me ρ C fun d ρ1 C1 => varO ρ1 i fun xs => xs.length < sizeLine ∧ A.nx (ρ1.set i (some (.own (xs ++ [d])))) C1) := ps_weak h fun D σ H ⟨B, F, ρ, C, A, R, m, k1, _⟩ => by
  obtain ⟨xs0, hx0, m⟩ := varO_inv m
  obtain ⟨a, vs0, e0, hl0, _⟩ := R.own i xs0 hx0
  refine ⟨_, e0, .inl ⟨rfl, vs0, .of hl0⟩, B, F, ρ, C, _, R, m, fun d ρ1 C1 F1 v1 H1 s1 R1 r1 q1 => ?_⟩
  obtain ⟨xs, hx, q1, q2⟩ := varO_inv q1
  obtain ⟨b, vs, e1, hl, ra, _⟩ := R1.own i xs hx
  rw [e0] at e1
  cases e1
  exact ⟨a, vs, v1, rfl, rfl, hl, by rw [ra.length]; exact q1, k1 _ C1 F1 σ _ s1 (R1.mutOwn hx e0 (ra.append (.cons r1 .nil))) q2⟩
theorem s_ext {i : Nat} {me : ME} {st : Stmt} (h : PS X st (tDrop (tBM X.K "list" rExtend (tVar i) (tCons (rd X.K me) tNil)))) :
    PS X st (rdS X.K fun A ρ C => varO ρ i fun _ => me ρ C fun d ρ1 C1 => varO ρ1 i fun xs => match d with
    | .lst ys => xs.length + ys.length ≤ sizeLine ∧ A.nx (ρ1.set i (some (.own (xs ++ ys)))) C1
    | _ => False) := ps_weak h fun D σ H ⟨B, F, ρ, C, A, R, m, k1, _⟩ => by
  obtain ⟨xs0, hx0, m⟩ := varO_inv m
  obtain ⟨a, vs0, e0, hl0, _⟩ := R.own i xs0 hx0
  refine ⟨_, e0, .inl ⟨rfl, vs0, .of hl0⟩, B, F, ρ, C, _, R, m, fun d ρ1 C1 F1 v1 H1 s1 R1 r1 q1 => ?_⟩
  obtain ⟨xs, hx, q1⟩ := varO_inv q1
  obtain ⟨b, vs, e1, hl, ra, _⟩ := R1.own i xs hx
  rw [e0] at e1
  cases e1
  try dsimp only at q1
  split at q1
  · obtain ⟨c, ws, rfl, hc, rc⟩ := r1.lst_inv
    exact ⟨a, c, vs, ws, rfl, rfl, hl, R1.ce.fh _ _ hc, by rw [ra.length, rc.length]; exact q1.1, k1 _ C1 F1 σ _ s1 (R1.mutOwn hx e0 (ra.append rc)) q1.2⟩
  · exact q1.elim
theorem s_oset {i : Nat} {me mk : ME} {st : Stmt} (h : PS X st (tAsg (rd X.K me) (gSub (tVar i) (rd X.K mk) rSetL))) :
    PS X st (rdS X.K fun A ρ C => me ρ C fun d ρ1 C1 => varO ρ1 i fun _ => mk ρ1 C1 fun x ρ2 C2 => varO ρ2 i fun xs => match x with
    | .int j => ∃ n, ixN xs.length j = some n ∧ A.nx (ρ2.set i (some (.own (xs.set n d)))) C2
    | _ => False) := ps_weak h fun D σ H ⟨B, F, ρ, C, A, R, m, k1, _⟩ =>
  ⟨B, F, ρ, C, _, R, m, fun d ρ1 C1 F1 v1 H1 s1 R1 r1 q1 => by
    obtain ⟨xs0, hx0, q1⟩ := varO_inv q1
    obtain ⟨a, vs0, e0, hl0, _⟩ := R1.own i xs0 hx0
    refine ⟨_, e0, B, F1, ρ1, C1, _, R1, q1, fun x ρ2 C2 F2 v2 H2 s2 R2 r2 q2 => ?_⟩
    obtain ⟨xs, hx, q2⟩ := varO_inv q2
    obtain ⟨b, vs, e1, hl, ra, _⟩ := R2.own i xs hx
    rw [e0] at e1
    cases e1
    try dsimp only at q2
    split at q2
    · cases r2
      obtain ⟨n, hn, q2⟩ := q2
      exact ⟨a, vs, _, n, rfl, rfl, hl, by rw [ra.length]; exact hn, k1 _ C2 F2 σ _ (s1.trans s2) (R2.mutOwn hx e0 (ra.set n (r1.mono s2))) q2⟩
    · exact q2.elim⟩
theorem s_csub {me mo mk : ME} {st : Stmt} (h : PS X st (tAsg (rd X.K me) (gSub (rd X.K mo) (rd X.K mk) rSetL))) :
    PS X st (rdS X.K fun A ρ C => me ρ C fun d ρ1 C1 => mo ρ1 C1 fun x ρ2 C2 => mk ρ2 C2 fun y ρ3 C3 => match x, y with
    | .ref a, .int j => ∃ xs n, C3 a = some (.lst xs) ∧ ixN xs.length j = some n ∧ A.nx ρ3 (fun b => if b = a then some (.lst (xs.set n d)) else C3 b)
    | _, _ => False) := ps_weak h fun D σ H ⟨B, F, ρ, C, A, R, m, k1, _⟩ =>
  ⟨B, F, ρ, C, _, R, m, fun d ρ1 C1 F1 v1 H1 s1 R1 r1 q1 => ⟨B, F1, ρ1, C1, _, R1, q1, fun x ρ2 C2 F2 v2 H2 s2 R2 r2 q2 => ⟨B, F2, ρ2, C2, _, R2, q2, fun y ρ3 C3 F3 v3 H3 s3 R3 r3 q3 => by
    try dsimp only at q3
    split at q3
    · cases r2; cases r3
      obtain ⟨xs, n, hc, hn, q3⟩ := q3
      obtain ⟨vs, hl, ra⟩ := (R3.ce.cel _ _ hc).1
      exact ⟨_, vs, _, n, rfl, rfl, hl, by rw [ra.length]; exact hn, k1 _ _ F3 σ _ (s1.trans (s2.trans s3)) (R3.mutCell (c' := .lst (xs.set n d)) hc ⟨_, upd_same, ra.set n ((r1.mono s2).mono s3)⟩) q3⟩
    · exact q3.elim⟩⟩⟩
theorem s_capp {mo me : ME} {st : Stmt} (h : PS X st (tDrop (tBM X.K "list" rAppend (rd X.K mo) (tCons (rd X.K me) tNil)))) :
    PS X st (rdS X.K fun A ρ C => mo ρ C fun x ρ1 C1 => match x with
    | .ref a => ∃ xs0, C1 a = some (.lst xs0) ∧ me ρ1 C1 fun d ρ2 C2 => ∃ xs, C2 a = some (.lst xs) ∧ xs.length < sizeLine ∧ A.nx ρ2 (fun b => if b = a then some (.lst (xs ++ [d])) else C2 b)
    | _ => False) := ps_weak h fun D σ H ⟨B, F, ρ, C, A, R, m, k1, _⟩ =>
  ⟨B, F, ρ, C, _, R, m, fun x ρ1 C1 F1 v1 H1 s1 R1 r1 q1 => by
    try dsimp only at q1
    split at q1
    · cases r1
      obtain ⟨xs0, hc0, q1⟩ := q1
      obtain ⟨vs0, hl0, _⟩ := (R1.ce.cel _ _ hc0).1
      refine ⟨.inl ⟨rfl, vs0, .of hl0⟩, B, F1, ρ1, C1, _, R1, q1, fun d ρ2 C2 F2 v2 H2 s2 R2 r2 ⟨xs, hc, hz, q2⟩ => ?_⟩
      obtain ⟨vs, hl, ra⟩ := (R2.ce.cel _ _ hc).1
      exact ⟨_, vs, v2, rfl, rfl, hl, by rw [ra.length]; exact hz, k1 _ _ F2 σ _ (s1.trans s2) (R2.mutCell (c' := .lst (xs ++ [d])) hc ⟨_, upd_same, ra.append (.cons r2 .nil)⟩) q2⟩
    · exact q1.elim⟩
def rIns : V → List V → Hp → VK → Prop := fun x vs H Q => ∃ (l : Addr) (xs : List V) (i : Int) (y : V), x = .ref l ∧ vs = [.int i, y] ∧ H l = some (.lst xs) ∧ xs.length < sizeLine ∧ 0 ≤ i ∧ i < 2 ^ 63 ∧
    Q .non (upd H l (.lst (xs.take i.toNat ++ [y] ++ xs.drop i.toNat)))
theorem s_cins {mo mk me : ME} {st : Stmt} (h : PS X st (tDrop (tBM X.K "list" rIns (rd X.K mo) (tCons (rd X.K mk) (tCons (rd X.K me) tNil))))) :
    PS X st (rdS X.K fun A ρ C => mo ρ C fun x ρ1 C1 => match x with
    | .ref a => ∃ xs0, C1 a = some (.lst xs0) ∧ mk ρ1 C1 fun y ρ2 C2 => me ρ2 C2 fun d ρ3 C3 => match y with
      | .int i => ∃ xs, C3 a = some (.lst xs) ∧ xs.length < sizeLine ∧ 0 ≤ i ∧ i < 2 ^ 63 ∧ A.nx ρ3 (fun b => if b = a then some (.lst (xs.take i.toNat ++ [d] ++ xs.drop i.toNat)) else C3 b)
      | _ => False
    | _ => False) := ps_weak h fun D σ H ⟨B, F, ρ, C, A, R, m, k1, _⟩ =>
  ⟨B, F, ρ, C, _, R, m, fun x ρ1 C1 F1 v1 H1 s1 R1 r1 q1 => by
    try dsimp only at q1
    split at q1
    · cases r1
      obtain ⟨xs0, hc0, q1⟩ := q1
      obtain ⟨vs0, hl0, _⟩ := (R1.ce.cel _ _ hc0).1
      refine ⟨.inl ⟨rfl, vs0, .of hl0⟩, B, F1, ρ1, C1, _, R1, q1, fun y ρ2 C2 F2 v2 H2 s2 R2 r2 q2 => ⟨B, F2, ρ2, C2, _, R2, q2, fun d ρ3 C3 F3 v3 H3 s3 R3 r3 q3 => ?_⟩⟩
      try dsimp only at q3
      split at q3
      · cases r2
        obtain ⟨xs, hc, hz, h1, h2, q3⟩ := q3
        obtain ⟨vs, hl, ra⟩ := (R3.ce.cel _ _ hc).1
        exact ⟨_, vs, _, v3, rfl, rfl, hl, by rw [ra.length]; exact hz, h1, h2, k1 _ _ F3 σ _ (s1.trans (s2.trans s3)) (R3.mutCell (c' := .lst (xs.take _ ++ [d] ++ xs.drop _)) hc ⟨_, upd_same, ((ra.take _).append (.cons r3 .nil)).append (ra.drop _)⟩) q3⟩
      · exact q3.elim
    · exact q1.elim⟩
/-! ### tests -/
theorem t_and {ma mb : MT} {e : Expr} (h : PT X e (tAnd (rdT X.K ma) (rdT X.K mb))) : PT X e (rdT X.K fun ρ C P => ma ρ C fun k ρ1 C1 => if k = true then mb ρ1 C1 P else P false ρ1 C1) :=
  pt_weak h fun σ H Q ⟨B, F, ρ, C, P, R, m, k⟩ => ⟨B, F, ρ, C, _, R, m, fun b ρ1 C1 F1 H1 s1 R1 q1 => by
    cases b with
    | false => exact k _ ρ1 C1 F1 H1 s1 R1 q1
    | true => exact ⟨B, F1, ρ1, C1, P, R1, q1, fun c ρ2 C2 F2 H2 s2 R2 q2 => k c ρ2 C2 F2 H2 (s1.trans s2) R2 q2⟩⟩
theorem t_or {ma mb : MT} {e : Expr} (h : PT X e (tOr (rdT X.K ma) (rdT X.K mb))) : PT X e (rdT X.K fun ρ C P => ma ρ C fun k ρ1 C1 => if k = true then P true ρ1 C1 else mb ρ1 C1 P) :=
  pt_weak h fun σ H Q ⟨B, F, ρ, C, P, R, m, k⟩ => ⟨B, F, ρ, C, _, R, m, fun b ρ1 C1 F1 H1 s1 R1 q1 => by
    cases b with
    | true => exact k _ ρ1 C1 F1 H1 s1 R1 q1
    | false => exact ⟨B, F1, ρ1, C1, P, R1, q1, fun c ρ2 C2 F2 H2 s2 R2 q2 => k c ρ2 C2 F2 H2 (s1.trans s2) R2 q2⟩⟩
theorem t_not {ma : MT} {e : Expr} (h : PT X e (tNot (rdT X.K ma))) : PT X e (rdT X.K fun ρ C P => ma ρ C fun k ρ1 C1 => P (!k) ρ1 C1) :=
  pt_weak h fun σ H Q ⟨B, F, ρ, C, P, R, m, k⟩ => ⟨B, F, ρ, C, _, R, m, fun b ρ1 C1 F1 H1 s1 R1 q1 => k _ ρ1 C1 F1 H1 s1 R1 q1⟩
/-- the truth of a value -/
theorem t_val {me : ME} {e : Expr} (h : PE X e (rd X.K me)) (he : ∀ whole, isTrue e X.env whole = (do let v ← whole; standAt e.pos; holding [v] (truthy v))) :
    PT X e (rdT X.K fun ρ C P => me ρ C fun d ρ1 C1 => truD d fun b => P b ρ1 C1) :=
  pt_weak (pt_truth h he) fun σ H Q ⟨B, F, ρ, C, P, R, m, k⟩ => ⟨B, F, ρ, C, _, R, m, fun d ρ1 C1 F1 v1 H1 s1 R1 r1 q1 => by
    obtain ⟨b, hb, p⟩ := tru_of R1.ce.fh r1 q1
    exact ⟨b, hb, k b ρ1 C1 F1 H1 s1 R1 p⟩⟩
/-- the truth of a comparison -/
theorem t_cmp {r : D → D → (Bool → Prop) → Prop} {ma mb : ME} {e : Expr} (h : PT X e (tTest (tOp (lift2 X.K fun d e P => r d e fun b => P (.bl b)) (rd X.K ma) (rd X.K mb)))) :
    PT X e (rdT X.K fun ρ C P => ma ρ C fun x ρ1 C1 => mb ρ1 C1 fun y ρ2 C2 => r x y fun b => P b ρ2 C2) :=
  pt_weak h fun σ H Q ⟨B, F, ρ, C, P, R, m, k⟩ => ⟨B, F, ρ, C, _, R, m, fun x ρ1 C1 F1 v1 H1 s1 R1 r1 q1 => ⟨B, F1, ρ1, C1, _, R1, q1, fun y ρ2 C2 F2 v2 H2 s2 R2 r2 q2 =>
    ⟨F2, x, y, blP fun b => P b ρ2 C2, R2.ce.fh, r1.mono s2, r2, q2, fun d F3 v3 H3 g r3 p3 => by
      obtain ⟨b, rfl, rfl, p3⟩ := blP_inv r3 p3
      exact ⟨b, rfl, k b ρ2 C2 F3 H3 (s1.trans (s2.trans g.ff)) (R2.grow g) p3⟩⟩⟩⟩
theorem t_chn {r r' : D → D → (Bool → Prop) → Prop} {ma mb mc : ME} {e : Expr} (h : PT X e (tTest (tChain (lift2 X.K fun d e P => r d e fun b => P (.bl b)) (lift2 X.K fun d e P => r' d e fun b => P (.bl b)) (rd X.K ma) (rd X.K mb) (rd X.K mc)))) :
    PT X e (rdT X.K fun ρ C P => ma ρ C fun x ρ1 C1 => mb ρ1 C1 fun y ρ2 C2 => r x y fun k => if k = true then mc ρ2 C2 fun z ρ3 C3 => r' y z fun k' => P k' ρ3 C3 else P false ρ2 C2) :=
  pt_weak h fun σ H Q ⟨B, F, ρ, C, P, R, m, k⟩ =>
  ⟨B, F, ρ, C, _, R, m, fun x ρ1 C1 F1 v1 H1 s1 R1 r1 q1 => ⟨B, F1, ρ1, C1, _, R1, q1, fun y ρ2 C2 F2 v2 H2 s2 R2 r2 q2 =>
    ⟨F2, x, y, blP fun k => if k = true then mc ρ2 C2 fun z ρ3 C3 => r' y z fun k' => P k' ρ3 C3 else P false ρ2 C2, R2.ce.fh, r1.mono s2, r2, q2, fun d F3 v3 H3 g r3 p3 => by
      obtain ⟨b, rfl, rfl, p3⟩ := blP_inv r3 p3
      refine ⟨b, rfl, ?_⟩
      cases b with
      | false => exact ⟨false, rfl, k _ ρ2 C2 F3 H3 (s1.trans (s2.trans g.ff)) (R2.grow g) p3⟩
      | true => exact ⟨B, F3, ρ2, C2, _, R2.grow g, p3, fun z ρ3 C3 F4 v4 H4 s4 R4 r4 q4 => ⟨F4, y, z, blP fun k' => P k' ρ3 C3, R4.ce.fh, (r2.mono g.ff).mono s4, r4, q4, fun d F5 v5 H5 g5 r5 p5 => by
          obtain ⟨b, rfl, rfl, p5⟩ := blP_inv r5 p5
          exact ⟨b, rfl, k _ ρ3 C3 F5 H5 (s1.trans (s2.trans (g.ff.trans (s4.trans g5.ff)))) (R4.grow g5) p5⟩⟩⟩⟩⟩⟩
theorem t_one {i : Nat} {e : Expr} (h : PT X e (tTest (tOp (rNeD X.K) (tVar i) (tLst tNil)))) :
    PT X e (rdT X.K fun ρ C P => varL ρ C i fun xs => (D.lst xs).Cmp ∧ P (!xs.isEmpty) ρ C) := pt_weak h fun σ H Q ⟨B, F, ρ, C, P, R, m, k⟩ => by
  obtain ⟨a, vs, xs, e1, hl, ra, ⟨p1, p2⟩, m⟩ := varL_rel R m
  refine ⟨_, e1, Nat.zero_le _, fun p hp => ?_⟩
  have hs := same_upd (o := HO.lst []) hp
  have R2 := (rel_fresh (vs := []) R hp).1
  refine ⟨_, _, .lst (.of (hs _ _ hl)) (reps_dp ((ra.mono R.ce.fh).mono hs) p1), .lst (.of upd_same) .nil, p2, by decide +kernel, _, rfl, ?_⟩
  have e : (!PyData.eqv (.list (D.pys xs)) (.list [])) = !xs.isEmpty := by rw [← eqv_nil xs]; rfl
  rw [e]
  exact k _ ρ C F _ (Same.refl _) R2 m
theorem t_oem {i : Nat} {e : Expr} (h : PT X e (tTest (tOp (rEqD X.K) (tVar i) (tLst tNil)))) :
    PT X e (rdT X.K fun ρ C P => varL ρ C i fun xs => (D.lst xs).Cmp ∧ P xs.isEmpty ρ C) := pt_weak h fun σ H Q ⟨B, F, ρ, C, P, R, m, k⟩ => by
  obtain ⟨a, vs, xs, e1, hl, ra, ⟨p1, p2⟩, m⟩ := varL_rel R m
  refine ⟨_, e1, Nat.zero_le _, fun p hp => ?_⟩
  have hs := same_upd (o := HO.lst []) hp
  have R2 := (rel_fresh (vs := []) R hp).1
  refine ⟨_, _, .lst (.of (hs _ _ hl)) (reps_dp ((ra.mono R.ce.fh).mono hs) p1), .lst (.of upd_same) .nil, p2, by decide +kernel, _, rfl, ?_⟩
  have e : PyData.eqv (.list (D.pys xs)) (.list []) = xs.isEmpty := by rw [← eqv_nil xs]; rfl
  rw [e]
  exact k _ ρ C F _ (Same.refl _) R2 m
theorem t_cne {ma : ME} {e : Expr} (h : PT X e (tTest (tOp (rNeD X.K) (rd X.K ma) (tLst tNil)))) :
    PT X e (rdT X.K fun ρ C P => ma ρ C fun x ρ1 C1 => ∃ xs, lstD C1 x = some xs ∧ (D.lst xs).Cmp ∧ P (!xs.isEmpty) ρ1 C1) := pt_weak h fun σ H Q ⟨B, F, ρ, C, P, R, m, k⟩ =>
  ⟨B, F, ρ, C, _, R, m, fun x ρ1 C1 F1 v1 H1 s1 R1 r1 ⟨xs, hx, ⟨p1, p2⟩, q⟩ => by
    obtain ⟨a, vs, rfl, hl, ra⟩ := lstD_rel R1.ce r1 hx
    refine ⟨Nat.zero_le _, fun p hp => ?_⟩
    have hs := same_upd (o := HO.lst []) hp
    have R2 := (rel_fresh (vs := []) R1 hp).1
    refine ⟨_, _, .lst (.of (hs _ _ hl)) (reps_dp ((ra.mono R1.ce.fh).mono hs) p1), .lst (.of upd_same) .nil, p2, by decide +kernel, _, rfl, ?_⟩
    have e : (!PyData.eqv (.list (D.pys xs)) (.list [])) = !xs.isEmpty := by rw [← eqv_nil xs]; rfl
    rw [e]
    exact k _ ρ1 C1 F1 _ s1 R2 q⟩
theorem t_ceq {ma : ME} {e : Expr} (h : PT X e (tTest (tOp (rEqD X.K) (rd X.K ma) (tLst tNil)))) :
    PT X e (rdT X.K fun ρ C P => ma ρ C fun x ρ1 C1 => ∃ xs, lstD C1 x = some xs ∧ (D.lst xs).Cmp ∧ P xs.isEmpty ρ1 C1) := pt_weak h fun σ H Q ⟨B, F, ρ, C, P, R, m, k⟩ =>
  ⟨B, F, ρ, C, _, R, m, fun x ρ1 C1 F1 v1 H1 s1 R1 r1 ⟨xs, hx, ⟨p1, p2⟩, q⟩ => by
    obtain ⟨a, vs, rfl, hl, ra⟩ := lstD_rel R1.ce r1 hx
    refine ⟨Nat.zero_le _, fun p hp => ?_⟩
    have hs := same_upd (o := HO.lst []) hp
    have R2 := (rel_fresh (vs := []) R1 hp).1
    refine ⟨_, _, .lst (.of (hs _ _ hl)) (reps_dp ((ra.mono R1.ce.fh).mono hs) p1), .lst (.of upd_same) .nil, p2, by decide +kernel, _, rfl, ?_⟩
    have e : PyData.eqv (.list (D.pys xs)) (.list []) = xs.isEmpty := by rw [← eqv_nil xs]; rfl
    rw [e]
    exact k _ ρ1 C1 F1 _ s1 R2 q⟩
/-- a comprehension's tests -/
theorem c_no : PTs X [] (rdT X.K fun ρ C P => P true ρ C) := ⟨fun pins s σ H Q I ⟨B, F, ρ, C, P, R, m, k⟩ => pts_nil.run pins s σ H Q I (k true ρ C F H (Same.refl _) R m)⟩
theorem c_yes {mt : MT} {e : Expr} (h : PT X e (rdT X.K mt)) : PTs X [e] (rdT X.K mt) := pts_one h
end
end M61

set_option Elab.async false
set_option linter.all false
set_option autoImplicit false
set_option maxRecDepth 100000
/-! M4g: zip of lists and tuples, mixed; of three. -/
namespace M61
open PySem PySem.Spec PyProof.Rows L2
def SqK (t : Bool) (K : PySem.W.Frag) (H : Hp) (a : Addr) (xs : List V) : Prop := match t with
  | true => SqT K H a xs
  | false => SqL K H a xs
def IterK (t : Bool) (h : Heap) (it a : Addr) (i : Nat) : Prop := match t with
  | true => h.IsTupleIter it a i
  | false => h.IsListIter it a i
def HeldK (t : Bool) (h : Heap) (a : Addr) (its : Array Value) : Prop := match t with
  | true => h.IsTuple a its
  | false => h.IsList a its
def itObj (t : Bool) (a : Addr) : Obj := match t with
  | true => { cls := .type "tuple_iterator", data := .fields #[.ref a, .int 0 0] }
  | false => { cls := .type "list_iterator", data := .fields #[.ref a, .int 0 0] }
theorem drawsK {P : Program} {w : World} {A : Around} (t : Bool) (hh : A.handled = none) (it a : Addr) (hne : a ≠ it) (its : Array Value) :
    Draws P w A it [it, a] its.size (fun i v => its[i]? = some v) (fun i h => IterK t h it a i ∧ HeldK t h a its) := by
  cases t
  · exact Draws.list hh it a hne its
  · exact Draws.tuple hh it a hne its
theorem beginsK (t : Bool) (a : Addr) (its : Array Value) : Begins (.ref a) (itObj t a) (fun h => HeldK t h a its) := by
  cases t
  · exact begins_list a its
  · exact begins_tuple a its
theorem seqK {X : Cx} {pins : List (Addr × Obj)} {σ : L2.St} {H : Hp} {s : Shared} (t : Bool) (I : Inv X pins σ H s) {a : Addr} {xs : List V} (h : SqK t X.K H a xs) : ∃ its : List Value, Vals xs its ∧ HeldK t s.heap a its.toArray := by
  cases t
  · obtain ⟨its, r, p, _⟩ := I.list h; exact ⟨its, r, p.isList⟩
  · obtain ⟨its, r, p, _⟩ := I.tuple h; exact ⟨its, r, (show s.heap.IsTuple a its.toArray from p)⟩
theorem injK {X : Cx} {pins : List (Addr × Obj)} {σ : L2.St} {H : Hp} {s : Shared} {t : Bool} (I : Inv X pins σ H s) {a : Addr} {xs ys : List V} (h : SqK t X.K H a xs) (h' : SqK t X.K H a ys) : xs = ys := by
  cases t
  · exact I.list_inj h h'
  · exact I.tuple_inj h h'
theorem IterK.at {t : Bool} {h h' : Heap} {it a : Addr} {i : Nat} (r : IterK t h it a i) (k : ∀ o, h.get? it = some o → h'.get? it = some o) : IterK t h' it a i := by
  cases t
  · exact (show h.IsListIter it a i from r).at k
  · exact (show h.IsTupleIter it a i from r).at k
theorem IterK.obj {t : Bool} {h : Heap} {it a : Addr} {i : Nat} (r : IterK t h it a i) : ∃ o, h.get? it = some o ∧ ∀ v, o.data ≠ .cell v := by
  cases t
  · obtain ⟨o, e, _, d⟩ := (show h.IsListIter it a i from r); exact ⟨o, e, fun v q => by rw [d] at q; cases q⟩
  · obtain ⟨o, e, _, d⟩ := (show h.IsTupleIter it a i from r); exact ⟨o, e, fun v q => by rw [d] at q; cases q⟩
theorem IterK.new {t : Bool} {h : Heap} {it a : Addr} (g : h.get? it = some (itObj t a)) : IterK t h it a 0 := by
  cases t
  · exact ⟨_, g, rfl, rfl⟩
  · exact ⟨_, g, rfl, rfl⟩
theorem HeldK.lt {t : Bool} {h : Heap} {a : Addr} {its : Array Value} (r : HeldK t h a its) : a < h.objs.size := by
  cases t
  · obtain ⟨o, e, _⟩ := (show h.IsList a its from r); exact Heap.lt_size e
  · obtain ⟨o, e, _⟩ := (show h.IsTuple a its from r); exact Heap.lt_size e
def ItzK (ta tb : Bool) (K : PySem.W.Frag) (a b : Addr) : It :=
  ⟨fun i H => ∃ (xs ys : List V) (x y : V), SqK ta K H a xs ∧ SqK tb K H b ys ∧ xs[i]? = some x ∧ ys[i]? = some y,
    fun i H v H' => ∃ T x y, v = .ref T ∧ H T = none ∧ H' = upd H T (.tup [x, y]) ∧ (∀ xs, SqK ta K H a xs → xs[i]? = some x) ∧ ∀ ys, SqK tb K H b ys → ys[i]? = some y,
    fun i H => ∃ xs ys : List V, SqK ta K H a xs ∧ SqK tb K H b ys ∧ i = min xs.length ys.length⟩
theorem turn_zipK {P : Program} {w : World} {K : PySem.W.Frag} {elts : List Expr} {kk : Nat} {tpos : Pos} {ta tb : Bool} {a b z TI TO i1 i2 : Addr} (S : ZipSep2 z TI TO i1 i2 [i1, a] [i2, b]) (n1 : a ≠ i1) (n2 : b ≠ i2) (z1 : z ≠ i1) (z2 : z ≠ i2) :
    Turn P w K (.Tuple elts kk tpos) (ItzK ta tb K a b) [z, TI, TO, i1, i2] z (fun i h => IsZip h z TI TO .none ∧ IsTupOf2 h TI (.ref i1) (.ref i2) ∧ (∃ x y, IsTupOf2 h TO x y) ∧ IterK ta h i1 a i ∧ IterK tb h i2 b i) where
  mem := by simp
  obj := fun i h st c hc => by
    obtain ⟨hz, hTI, ⟨x, y, hTO⟩, h1, h2⟩ := st
    have e' : c = z ∨ c = TI ∨ c = TO ∨ c = i1 ∨ c = i2 := by simpa using hc
    rcases e' with q | q | q | q | q
    · rw [q]; exact ⟨_, hz, fun v q => nomatch q⟩
    · rw [q]; exact ⟨_, hTI, fun v q => nomatch q⟩
    · rw [q]; exact ⟨_, hTO, fun v q => nomatch q⟩
    · rw [q]; exact h1.obj
    · rw [q]; exact h2.obj
  keep := fun i h h' st k => by
    obtain ⟨hz, hTI, ⟨x, y, hTO⟩, h1, h2⟩ := st
    exact ⟨k z (by simp) _ hz, k TI (by simp) _ hTI, ⟨x, y, k TO (by simp) _ hTO⟩, h1.at fun o q => k i1 (by simp) o q, h2.at fun o q => k i2 (by simp) o q⟩
  item := by
    intro X hP hw hK hc i pins s σ H E I hf st hg
    subst hP hw hK
    obtain ⟨hz, hTI, ⟨x0, y0, hTO⟩, h1, h2⟩ := st
    obtain ⟨xs, ys, x, y, hqx, hqy, hx, hy⟩ := hg
    obtain ⟨its, rv, p⟩ := seqK ta I hqx
    obtain ⟨its2, rv2, p2⟩ := seqK tb I hqy
    obtain ⟨u, hu, ru⟩ := rv.get hx
    obtain ⟨u2, hu2, ru2⟩ := rv2.get hy
    have hzl : z < s.heap.objs.size := Heap.lt_size hz
    obtain ⟨o1, e1, _⟩ := h1.obj
    obtain ⟨o2, e2, _⟩ := h2.obj
    have b1 : i < its.length := by rcases Nat.lt_or_ge i its.length with q | q; exact q; rw [List.getElem?_eq_none q] at hu; cases hu
    have b2 : i < its2.length := by rcases Nat.lt_or_ge i its2.length with q | q; exact q; rw [List.getElem?_eq_none q] at hu2; cases hu2
    refine wpAny_pyNext_zipD2_item S (drawsK ta (show X.A.in1.handled = none from I.ok.hd hc) i1 a n1 its.toArray) (drawsK tb (show X.A.in1.handled = none from I.ok.hd hc) i2 b n2 its2.toArray) hz hTI hTO ⟨h1, p⟩ ⟨h2, p2⟩ (by simpa using b1) (by simpa using b2) fun v v2 h' tk hv hv2 z' TO' d1 d2 hT hsz hk => ?_
    have ev : v = u := by
      have : its[i]? = some v := by simpa using hv
      rw [hu] at this; cases this; rfl
    have ev2 : v2 = u2 := by
      have : its2[i]? = some v2 := by simpa using hv2
      rw [hu2] at this; cases this; rfl
    subst ev ev2
    refine ⟨_, rfl, wpAny_letOwnedTupleGo_zip (s := { s with heap := h', toks := tk }) z' fun h'' z'' sb => ?_⟩
    have hT2 : h''.get? s.heap.objs.size = some { cls := .type "tuple", data := .seq #[v, v2] } := (sb.2 _ (Nat.ne_of_gt hzl)).trans hT
    have new : ObjOk X.prog X.w (upd H s.heap.objs.size (.tup [x, y])) h'' s.heap.objs.size (.tup [x, y]) :=
      ⟨by show 2 ≤ sizeLine; decide, [v, v2], .cons ru (.cons ru2 .nil), ⟨_, hT2, rfl, _, rfl⟩⟩
    have I1 : Inv X pins σ (upd H s.heap.objs.size (.tup [x, y])) { s with heap := h'', toks := tk } :=
      I.turnedNew (t' := tk) (ch := [z, TI, TO, i1, i2]) (fun c o hb q => (sb.2 c (fun q' => hb (by simp [q']))).trans (hk c o (fun q' => hb (by simp [q'])) (fun q' => hb (by simp [q'])) (fun q' => hb (by simp [q'])) (fun q' => hb (by simp [q'])) q)) hf (Nat.le_refl _) new
    refine ⟨.ref s.heap.objs.size, _, I1, rfl, ⟨_, x, y, rfl, I.hok.fresh (Nat.le_refl _), rfl, fun l hl => by rw [injK I hl hqx]; exact hx, fun l hl => by rw [injK I hl hqy]; exact hy⟩, ⟨z'', ?_, ⟨v, v2, ?_⟩, ?_, ?_⟩, fun c hcm => ?_⟩
    · exact (sb.2 _ S.TIz).trans (hk _ _ S.TIz S.TITO S.TIi1 S.TIi2 hTI)
    · exact (sb.2 _ S.TOz).trans TO'
    · exact d1.1.at fun o q => (sb.2 _ (fun e => z1 e.symm)).trans q
    · exact d2.1.at fun o q => (sb.2 _ (fun e => z2 e.symm)).trans q
    · have hlt : c < s.heap.objs.size := by
        have e' : c = z ∨ c = TI ∨ c = TO ∨ c = i1 ∨ c = i2 := by simpa using hcm
        rcases e' with q | q | q | q | q
        · rw [q]; exact hzl
        · rw [q]; exact Heap.lt_size hTI
        · rw [q]; exact Heap.lt_size hTO
        · rw [q]; exact Heap.lt_size e1
        · rw [q]; exact Heap.lt_size e2
      rw [upd_ne (Nat.ne_of_lt hlt)]
      exact (hf c hcm).1
  done := by
    intro X hP hw hK hc i pins s σ H E I hf st hg
    subst hP hw hK
    obtain ⟨hz, hTI, ⟨x0, y0, hTO⟩, h1, h2⟩ := st
    obtain ⟨xs, ys, hqx, hqy, hend⟩ := hg
    obtain ⟨its, rv, p⟩ := seqK ta I hqx
    obtain ⟨its2, rv2, p2⟩ := seqK tb I hqy
    have l1 := rv.length
    have l2 := rv2.length
    refine wpAny_pyNext_zipD2_end S (drawsK ta (show X.A.in1.handled = none from I.ok.hd hc) i1 a n1 its.toArray) (drawsK tb (show X.A.in1.handled = none from I.ok.hd hc) i2 b n2 its2.toArray) hz hTI hTO ⟨h1, p⟩ ⟨h2, p2⟩ ?_ ?_ ?_ fun h' tk hk => ⟨rfl, I.turnedL (t' := tk) (ch := [z, TI, TO, i1, i2]) (fun c o hb q =>
      hk c o (fun q' => hb (by simp [q'])) (fun q' => hb (by simp [q'])) (fun q' => hb (by simp [q'])) (fun q' => hb (by simp [q'])) q) hf⟩
    · show i ≤ its.toArray.size
      rw [List.size_toArray]; omega
    · show i ≤ its2.toArray.size
      rw [List.size_toArray]; omega
    · show i = its.toArray.size ∨ i = its2.toArray.size
      rw [List.size_toArray, List.size_toArray]; omega
  self := fun A i s Q E st h => wpAny_pyIter_zip st.1 h
def iZipK (K : PySem.W.Frag) (t : TA) : TI := fun σ H R => t σ H fun vs H1 => ∃ ta tb a b xs ys, vs = [.ref a, .ref b] ∧ SqK ta K H1 a xs ∧ SqK tb K H1 b ys ∧ R (ItzK ta tb K a b) H1
theorem pi_zipK {X : Cx} {e e2 : Expr} {t : TA} {p pos tpos : Pos} {elts : List Expr} {kk : Nat} (hg : Gl X "zip") (hm : X.mg "zip" = none) (ha : PA X [e, e2] t)
    (hs : starEach [e, e2] X.env = (false, eval e X.env) :: starEach [e2] X.env := by rfl) (hpl : (backTo pos (starEach [e2] X.env)).any (·.1) = false := by rfl) :
    PI X (.Tuple elts kk tpos) (.Call (.Name "zip" p) [e, e2] [] pos) (iZipK X.K t) := by
  refine ⟨fun pins s σ H R I h => ?_⟩
  refine Call_ (ld_blt I hg hm PyProof.Rows.boot_zip (PyProof.Rows.callWith_type1 (thn (ha.run pos pins s σ H _ I h) fun us s1 ⟨vs, H1, I1, r1, q1⟩ => ?_) hs hpl))
  obtain ⟨ta, tb, a, b, xs, ys, ex, hqx, hqy, q⟩ := q1
  subst ex
  cases r1 with
  | cons r rr =>
    cases rr with
    | cons r' rr =>
      cases rr
      cases r
      cases r'
      have fresh5 : ∀ c, c ∈ [s1.heap.objs.size + 4, s1.heap.objs.size + 2, s1.heap.objs.size + 3, s1.heap.objs.size, s1.heap.objs.size + 1] → FpOk X pins H1 c := fun c hcm => by
        have e' : c = s1.heap.objs.size + 4 ∨ c = s1.heap.objs.size + 2 ∨ c = s1.heap.objs.size + 3 ∨ c = s1.heap.objs.size ∨ c = s1.heap.objs.size + 1 := by simpa using hcm
        have hle : s1.heap.objs.size ≤ c := by
          rcases e' with z | z | z | z | z <;> rw [z] <;> first | exact Nat.le_add_right _ _ | exact Nat.le_refl _
        exact I1.fpOk hle (I1.hok.fresh hle)
      obtain ⟨its, rv, p1⟩ := seqK ta I1 hqx
      obtain ⟨its2, rv2, p2⟩ := seqK tb I1 hqy
      have la := p1.lt
      have lb := p2.lt
      refine zip_begins2 (beginsK ta a its.toArray) (beginsK tb b its2.toArray) p1 p2 fun h' hz hTI hTO g1 g2 hsz hk => wpAny_pyIter_zip hz ?_
      have I2 : Inv X pins σ H1 { s1 with heap := h' } := I1.kept (t' := s1.toks) hk
      exact ⟨s1.heap.objs.size + 4, [s1.heap.objs.size + 4, s1.heap.objs.size + 2, s1.heap.objs.size + 3, s1.heap.objs.size, s1.heap.objs.size + 1], _, _, H1, rfl, I2,
        turn_zipK (zip_sep2 (fun c h => by rw [List.mem_singleton.mp h]; exact la) (fun c h => by rw [List.mem_singleton.mp h]; exact lb)) (Nat.ne_of_lt la) (Nat.ne_of_lt (Nat.lt_succ_of_lt lb)) (by show s1.heap.objs.size + 4 ≠ s1.heap.objs.size; omega) (by show s1.heap.objs.size + 4 ≠ s1.heap.objs.size + 1; omega),
        ⟨hz, hTI, ⟨_, _, hTO⟩, .new g1, .new g2⟩, fresh5, q⟩
/-! three -/
def ItzK3 (ta tb tc : Bool) (K : PySem.W.Frag) (a b d : Addr) : It :=
  ⟨fun i H => ∃ (xs ys zs : List V) (x y z : V), SqK ta K H a xs ∧ SqK tb K H b ys ∧ SqK tc K H d zs ∧ xs[i]? = some x ∧ ys[i]? = some y ∧ zs[i]? = some z,
    fun i H v H' => ∃ T x y z, v = .ref T ∧ H T = none ∧ H' = upd H T (.tup [x, y, z]) ∧ (∀ xs, SqK ta K H a xs → xs[i]? = some x) ∧ (∀ ys, SqK tb K H b ys → ys[i]? = some y) ∧ ∀ zs, SqK tc K H d zs → zs[i]? = some z,
    fun i H => ∃ xs ys zs : List V, SqK ta K H a xs ∧ SqK tb K H b ys ∧ SqK tc K H d zs ∧ i = min xs.length (min ys.length zs.length)⟩
theorem turn_zipK3 {P : Program} {w : World} {K : PySem.W.Frag} {elts : List Expr} {kk : Nat} {tpos : Pos} {ta tb tc : Bool} {a b d z TI TO i1 i2 i3 : Addr} (S : ZipSep3 z TI TO i1 i2 i3 [i1, a] [i2, b] [i3, d]) (n1 : a ≠ i1) (n2 : b ≠ i2) (n3 : d ≠ i3) (z1 : z ≠ i1) (z2 : z ≠ i2) (z3 : z ≠ i3) :
    Turn P w K (.Tuple elts kk tpos) (ItzK3 ta tb tc K a b d) [z, TI, TO, i1, i2, i3] z (fun i h => IsZip h z TI TO .none ∧ IsTupOf3 h TI (.ref i1) (.ref i2) (.ref i3) ∧ (∃ x y u, IsTupOf3 h TO x y u) ∧ IterK ta h i1 a i ∧ IterK tb h i2 b i ∧ IterK tc h i3 d i) where
  mem := by simp
  obj := fun i h st c hc => by
    obtain ⟨hz, hTI, ⟨x, y, u, hTO⟩, h1, h2, h3⟩ := st
    have e' : c = z ∨ c = TI ∨ c = TO ∨ c = i1 ∨ c = i2 ∨ c = i3 := by simpa using hc
    rcases e' with q | q | q | q | q | q
    · rw [q]; exact ⟨_, hz, fun v q => nomatch q⟩
    · rw [q]; exact ⟨_, hTI, fun v q => nomatch q⟩
    · rw [q]; exact ⟨_, hTO, fun v q => nomatch q⟩
    · rw [q]; exact h1.obj
    · rw [q]; exact h2.obj
    · rw [q]; exact h3.obj
  keep := fun i h h' st k => by
    obtain ⟨hz, hTI, ⟨x, y, u, hTO⟩, h1, h2, h3⟩ := st
    exact ⟨k z (by simp) _ hz, k TI (by simp) _ hTI, ⟨x, y, u, k TO (by simp) _ hTO⟩, h1.at fun o q => k i1 (by simp) o q, h2.at fun o q => k i2 (by simp) o q, h3.at fun o q => k i3 (by simp) o q⟩
  item := by
    intro X hP hw hK hc i pins s σ H E I hf st hg
    subst hP hw hK
    obtain ⟨hz, hTI, ⟨x0, y0, u0, hTO⟩, h1, h2, h3⟩ := st
    obtain ⟨xs, ys, zs, x, y, t, hqx, hqy, hqz, hx, hy, ht⟩ := hg
    obtain ⟨its, rv, p⟩ := seqK ta I hqx
    obtain ⟨its2, rv2, p2⟩ := seqK tb I hqy
    obtain ⟨its3, rv3, p3⟩ := seqK tc I hqz
    obtain ⟨u, hu, ru⟩ := rv.get hx
    obtain ⟨u2, hu2, ru2⟩ := rv2.get hy
    obtain ⟨u3, hu3, ru3⟩ := rv3.get ht
    have hzl : z < s.heap.objs.size := Heap.lt_size hz
    obtain ⟨o1, e1, _⟩ := h1.obj
    obtain ⟨o2, e2, _⟩ := h2.obj
    obtain ⟨o3, e3, _⟩ := h3.obj
    have b1 : i < its.length := by rcases Nat.lt_or_ge i its.length with q | q; exact q; rw [List.getElem?_eq_none q] at hu; cases hu
    have b2 : i < its2.length := by rcases Nat.lt_or_ge i its2.length with q | q; exact q; rw [List.getElem?_eq_none q] at hu2; cases hu2
    have b3 : i < its3.length := by rcases Nat.lt_or_ge i its3.length with q | q; exact q; rw [List.getElem?_eq_none q] at hu3; cases hu3
    refine wpAny_pyNext_zipD3_item S (drawsK ta (show X.A.in1.handled = none from I.ok.hd hc) i1 a n1 its.toArray) (drawsK tb (show X.A.in1.handled = none from I.ok.hd hc) i2 b n2 its2.toArray) (drawsK tc (show X.A.in1.handled = none from I.ok.hd hc) i3 d n3 its3.toArray) hz hTI hTO ⟨h1, p⟩ ⟨h2, p2⟩ ⟨h3, p3⟩ (by simpa using b1) (by simpa using b2) (by simpa using b3) fun v v2 v3 h' tk hv hv2 hv3 z' TO' d1 d2 d3 hT hsz hk => ?_
    have ev : v = u := by
      have : its[i]? = some v := by simpa using hv
      rw [hu] at this; cases this; rfl
    have ev2 : v2 = u2 := by
      have : its2[i]? = some v2 := by simpa using hv2
      rw [hu2] at this; cases this; rfl
    have ev3 : v3 = u3 := by
      have : its3[i]? = some v3 := by simpa using hv3
      rw [hu3] at this; cases this; rfl
    subst ev ev2 ev3
    refine ⟨_, rfl, wpAny_letOwnedTupleGo_zip (s := { s with heap := h', toks := tk }) z' fun h'' z'' sb => ?_⟩
    have hT2 : h''.get? s.heap.objs.size = some { cls := .type "tuple", data := .seq #[v, v2, v3] } := (sb.2 _ (Nat.ne_of_gt hzl)).trans hT
    have new : ObjOk X.prog X.w (upd H s.heap.objs.size (.tup [x, y, t])) h'' s.heap.objs.size (.tup [x, y, t]) :=
      ⟨by show 3 ≤ sizeLine; decide, [v, v2, v3], .cons ru (.cons ru2 (.cons ru3 .nil)), ⟨_, hT2, rfl, _, rfl⟩⟩
    have I1 : Inv X pins σ (upd H s.heap.objs.size (.tup [x, y, t])) { s with heap := h'', toks := tk } :=
      I.turnedNew (t' := tk) (ch := [z, TI, TO, i1, i2, i3]) (fun c o hb q => (sb.2 c (fun q' => hb (by simp [q']))).trans (hk c o (fun q' => hb (by simp [q'])) (fun q' => hb (by simp [q'])) (fun q' => hb (by simp [q'])) (fun q' => hb (by simp [q'])) (fun q' => hb (by simp [q'])) q)) hf (Nat.le_refl _) new
    refine ⟨.ref s.heap.objs.size, _, I1, rfl, ⟨_, x, y, t, rfl, I.hok.fresh (Nat.le_refl _), rfl, fun l hl => by rw [injK I hl hqx]; exact hx, fun l hl => by rw [injK I hl hqy]; exact hy, fun l hl => by rw [injK I hl hqz]; exact ht⟩, ⟨z'', ?_, ⟨v, v2, v3, ?_⟩, ?_, ?_, ?_⟩, fun c hcm => ?_⟩
    · exact (sb.2 _ S.TIz).trans (hk _ _ S.TIz S.TITO S.TIi1 S.TIi2 S.TIi3 hTI)
    · exact (sb.2 _ S.TOz).trans TO'
    · exact d1.1.at fun o q => (sb.2 _ (fun e => z1 e.symm)).trans q
    · exact d2.1.at fun o q => (sb.2 _ (fun e => z2 e.symm)).trans q
    · exact d3.1.at fun o q => (sb.2 _ (fun e => z3 e.symm)).trans q
    · have hlt : c < s.heap.objs.size := by
        have e' : c = z ∨ c = TI ∨ c = TO ∨ c = i1 ∨ c = i2 ∨ c = i3 := by simpa using hcm
        rcases e' with q | q | q | q | q | q
        · rw [q]; exact hzl
        · rw [q]; exact Heap.lt_size hTI
        · rw [q]; exact Heap.lt_size hTO
        · rw [q]; exact Heap.lt_size e1
        · rw [q]; exact Heap.lt_size e2
        · rw [q]; exact Heap.lt_size e3
      rw [upd_ne (Nat.ne_of_lt hlt)]
      exact (hf c hcm).1
  done := by
    intro X hP hw hK hc i pins s σ H E I hf st hg
    subst hP hw hK
    obtain ⟨hz, hTI, ⟨x0, y0, u0, hTO⟩, h1, h2, h3⟩ := st
    obtain ⟨xs, ys, zs, hqx, hqy, hqz, hend⟩ := hg
    obtain ⟨its, rv, p⟩ := seqK ta I hqx
    obtain ⟨its2, rv2, p2⟩ := seqK tb I hqy
    obtain ⟨its3, rv3, p3⟩ := seqK tc I hqz
    have l1 := rv.length
    have l2 := rv2.length
    have l3 := rv3.length
    refine wpAny_pyNext_zipD3_end S (drawsK ta (show X.A.in1.handled = none from I.ok.hd hc) i1 a n1 its.toArray) (drawsK tb (show X.A.in1.handled = none from I.ok.hd hc) i2 b n2 its2.toArray) (drawsK tc (show X.A.in1.handled = none from I.ok.hd hc) i3 d n3 its3.toArray) hz hTI hTO ⟨h1, p⟩ ⟨h2, p2⟩ ⟨h3, p3⟩ ?_ ?_ ?_ ?_ fun h' tk hk => ⟨rfl, I.turnedL (t' := tk) (ch := [z, TI, TO, i1, i2, i3]) (fun c o hb q =>
      hk c o (fun q' => hb (by simp [q'])) (fun q' => hb (by simp [q'])) (fun q' => hb (by simp [q'])) (fun q' => hb (by simp [q'])) (fun q' => hb (by simp [q'])) q) hf⟩
    · show i ≤ its.toArray.size
      rw [List.size_toArray]; omega
    · show i ≤ its2.toArray.size
      rw [List.size_toArray]; omega
    · show i ≤ its3.toArray.size
      rw [List.size_toArray]; omega
    · show i = its.toArray.size ∨ i = its2.toArray.size ∨ i = its3.toArray.size
      rw [List.size_toArray, List.size_toArray, List.size_toArray]; omega
  self := fun A i s Q E st h => wpAny_pyIter_zip st.1 h
def iZipK3 (K : PySem.W.Frag) (t : TA) : TI := fun σ H R => t σ H fun vs H1 => ∃ ta tb tc a b d xs ys zs, vs = [.ref a, .ref b, .ref d] ∧ SqK ta K H1 a xs ∧ SqK tb K H1 b ys ∧ SqK tc K H1 d zs ∧ R (ItzK3 ta tb tc K a b d) H1
theorem pi_zipK3 {X : Cx} {e e2 e3 : Expr} {t : TA} {p pos tpos : Pos} {elts : List Expr} {kk : Nat} (hg : Gl X "zip") (hm : X.mg "zip" = none) (ha : PA X [e, e2, e3] t)
    (hs : starEach [e, e2, e3] X.env = (false, eval e X.env) :: starEach [e2, e3] X.env := by rfl) (hpl : (backTo pos (starEach [e2, e3] X.env)).any (·.1) = false := by rfl) :
    PI X (.Tuple elts kk tpos) (.Call (.Name "zip" p) [e, e2, e3] [] pos) (iZipK3 X.K t) := by
  refine ⟨fun pins s σ H R I h => ?_⟩
  refine Call_ (ld_blt I hg hm PyProof.Rows.boot_zip (PyProof.Rows.callWith_type1 (thn (ha.run pos pins s σ H _ I h) fun us s1 ⟨vs, H1, I1, r1, q1⟩ => ?_) hs hpl))
  obtain ⟨ta, tb, tc, a, b, d, xs, ys, zs, ex, hqx, hqy, hqz, q⟩ := q1
  subst ex
  cases r1 with
  | cons r rr =>
    cases rr with
    | cons r' rr =>
      cases rr with
      | cons r'' rr =>
        cases rr
        cases r
        cases r'
        cases r''
        have fresh6 : ∀ c, c ∈ [s1.heap.objs.size + 5, s1.heap.objs.size + 3, s1.heap.objs.size + 4, s1.heap.objs.size, s1.heap.objs.size + 1, s1.heap.objs.size + 2] → FpOk X pins H1 c := fun c hcm => by
          have e' : c = s1.heap.objs.size + 5 ∨ c = s1.heap.objs.size + 3 ∨ c = s1.heap.objs.size + 4 ∨ c = s1.heap.objs.size ∨ c = s1.heap.objs.size + 1 ∨ c = s1.heap.objs.size + 2 := by simpa using hcm
          have hle : s1.heap.objs.size ≤ c := by
            rcases e' with z | z | z | z | z | z <;> rw [z] <;> first | exact Nat.le_add_right _ _ | exact Nat.le_refl _
          exact I1.fpOk hle (I1.hok.fresh hle)
        obtain ⟨its, rv, p1⟩ := seqK ta I1 hqx
        obtain ⟨its2, rv2, p2⟩ := seqK tb I1 hqy
        obtain ⟨its3, rv3, p3⟩ := seqK tc I1 hqz
        have la := p1.lt
        have lb := p2.lt
        have lc := p3.lt
        refine zip_begins3 (beginsK ta a its.toArray) (beginsK tb b its2.toArray) (beginsK tc d its3.toArray) p1 p2 p3 fun h' hz hTI hTO g1 g2 g3 hsz hk => wpAny_pyIter_zip hz ?_
        have I2 : Inv X pins σ H1 { s1 with heap := h' } := I1.kept (t' := s1.toks) hk
        exact ⟨s1.heap.objs.size + 5, [s1.heap.objs.size + 5, s1.heap.objs.size + 3, s1.heap.objs.size + 4, s1.heap.objs.size, s1.heap.objs.size + 1, s1.heap.objs.size + 2], _, _, H1, rfl, I2,
          turn_zipK3 (zip_sep3 (fun c h => by rw [List.mem_singleton.mp h]; exact la) (fun c h => by rw [List.mem_singleton.mp h]; exact lb) (fun c h => by rw [List.mem_singleton.mp h]; exact lc)) (Nat.ne_of_lt la) (Nat.ne_of_lt (Nat.lt_succ_of_lt lb)) (Nat.ne_of_lt (Nat.lt_succ_of_lt (Nat.lt_succ_of_lt lc))) (by show s1.heap.objs.size + 5 ≠ s1.heap.objs.size; omega) (by show s1.heap.objs.size + 5 ≠ s1.heap.objs.size + 1; omega) (by show s1.heap.objs.size + 5 ≠ s1.heap.objs.size + 2; omega),
          ⟨hz, hTI, ⟨_, _, _, hTO⟩, .new g1, .new g2, .new g3⟩, fresh6, q⟩
/-! the readings -/
theorem walk_zipK {K : PySem.W.Frag} {ta tb : Bool} {a b : Addr} {xs ys : List V} {n : Nat} (hn : n = min xs.length ys.length) : Walk (ItzK ta tb K a b) n (fun H => SqK ta K H a xs ∧ SqK tb K H b ys) (YPair (fun i => xs[i]?) (fun i => ys[i]?)) := by
  subst hn
  refine ⟨fun i _ hi q => ?_, fun _ q => ⟨xs, ys, q.1, q.2, rfl⟩, fun i H v H' _ q y => ?_⟩
  · have h1 : i < xs.length := by omega
    have h2 : i < ys.length := by omega
    exact ⟨xs, ys, xs[i], ys[i], q.1, q.2, by simp [h1], by simp [h2]⟩
  · obtain ⟨T, x, z, h1, h2, h3, h4, h5⟩ := y
    exact ⟨T, x, z, h1, h2, h3, h4 xs q.1, h5 ys q.2⟩
def YTrip (xs ys zs : Nat → Option V) : Nat → Hp → V → Hp → Prop := fun i H v H' => ∃ T x y z, v = .ref T ∧ H T = none ∧ H' = upd H T (.tup [x, y, z]) ∧ xs i = some x ∧ ys i = some y ∧ zs i = some z
theorem walk_zipK3 {K : PySem.W.Frag} {ta tb tc : Bool} {a b d : Addr} {xs ys zs : List V} {n : Nat} (hn : n = min xs.length (min ys.length zs.length)) : Walk (ItzK3 ta tb tc K a b d) n (fun H => SqK ta K H a xs ∧ SqK tb K H b ys ∧ SqK tc K H d zs) (YTrip (fun i => xs[i]?) (fun i => ys[i]?) (fun i => zs[i]?)) := by
  subst hn
  refine ⟨fun i _ hi q => ?_, fun _ q => ⟨xs, ys, zs, q.1, q.2.1, q.2.2, rfl⟩, fun i H v H' _ q y => ?_⟩
  · have h1 : i < xs.length := by omega
    have h2 : i < ys.length := by omega
    have h3 : i < zs.length := by omega
    exact ⟨xs, ys, zs, xs[i], ys[i], zs[i], q.1, q.2.1, q.2.2, by simp [h1], by simp [h2], by simp [h3]⟩
  · obtain ⟨T, x, z, t, h1, h2, h3, h4, h5, h6⟩ := y
    exact ⟨T, x, z, t, h1, h2, h3, h4 xs q.1, h5 ys q.2.1, h6 zs q.2.2⟩
theorem seqK_same {t : Bool} {K : PySem.W.Frag} {F F' : Hp} {a : Addr} {xs : List V} (s : Same F F') (h : SqK t K F a xs) : SqK t K F' a xs := by
  cases t
  · exact s.seq h
  · exact sqT_same s h
theorem sqD_inv {K : PySem.W.Frag} {F : Hp} {v : V} {d : D} {xs : List D} (r : Rep K F v d) (h : sqD d = some xs) : ∃ t a vs, v = .ref a ∧ SqK t K F a vs ∧ Reps K F vs xs := by
  unfold sqD at h
  split at h
  · cases h
    obtain ⟨a, vs, rfl, ha, ra⟩ := r.tup_inv
    exact ⟨true, a, vs, rfl, ha, ra⟩
  · cases h
    obtain ⟨a, vs, rfl, ha, ra⟩ := r.lst_inv
    exact ⟨false, a, vs, rfl, SqL.of ha, ra⟩
  · cases h
theorem zip3D_len : ∀ xs ys zs : List D, (zip3D xs ys zs).length = min xs.length (min ys.length zs.length)
  | [], _, _ => by simp [zip3D]
  | _ :: _, [], _ => by simp [zip3D]
  | _ :: _, _ :: _, [] => by simp [zip3D]
  | x :: xs, y :: ys, z :: zs => by
    unfold zip3D
    rw [List.length_cons, List.length_cons, List.length_cons, List.length_cons, zip3D_len xs ys zs]; omega
theorem zip3D_get : ∀ (xs ys zs : List D) (i : Nat) (x y z : D), xs[i]? = some x → ys[i]? = some y → zs[i]? = some z → (zip3D xs ys zs)[i]? = some (.tup [x, y, z])
  | [], _, _, _, _, _, _, h, _, _ => by simp at h
  | _ :: _, [], _, _, _, _, _, _, h, _ => by simp at h
  | _ :: _, _ :: _, [], _, _, _, _, _, _, h => by simp at h
  | a :: xs, b :: ys, c :: zs, 0, x, y, z, h, h2, h3 => by simp at h h2 h3; subst h h2 h3; rfl
  | a :: xs, b :: ys, c :: zs, i + 1, x, y, z, h, h2, h3 => by
    unfold zip3D
    rw [List.getElem?_cons_succ] at h h2 h3 ⊢
    exact zip3D_get xs ys zs i x y z h h2 h3
theorem it_zipG3 {K : PySem.W.Frag} {F : Hp} {xs ys zs : List V} {ds es fs : List D} {J : It} {G : Hp → Prop} (r1 : Reps K F xs ds) (r2 : Reps K F ys es) (r3 : Reps K F zs fs) (w : Walk J (zip3D ds es fs).length G (YTrip (fun i => xs[i]?) (fun i => ys[i]?) (fun i => zs[i]?))) (g : ∀ H, Same F H → G H) : IterOk K F (zip3D ds es fs) J :=
  ⟨G, _, w, g, fun i H F2 x H' hi s s2 y => by
    obtain ⟨T, u, v, t, rfl, hT, rfl, h1, h2, h3⟩ := y
    obtain ⟨d, hd, rd⟩ := r1.get h1
    obtain ⟨e, he, re⟩ := r2.get h2
    obtain ⟨f, hf, rf⟩ := r3.get h3
    have g := Grow.new (o := HO.tup [u, v, t]) s2 hT
    have s3 := s.trans g.ff
    exact ⟨_, _, g, zip3D_get _ _ _ _ _ _ _ hd he hf, .tup (SqT.of upd_same) (.cons (rd.mono s3) (.cons (re.mono s3) (.cons (rf.mono s3) .nil)))⟩⟩
section
variable {X : Cx}
theorem i_zip {tg : Expr} {ma mb : ME} {e : Expr} (h : PI X tg e (iZipK X.K (tCons (rd X.K ma) (tCons (rd X.K mb) tNil)))) : PI X tg e (rdI X.K fun ρ C P => ma ρ C fun x ρ1 C1 => mb ρ1 C1 fun y ρ2 C2 => ∃ xs ys, sqD x = some xs ∧ sqD y = some ys ∧ P (zipD xs ys) ρ2 C2) := pi_weak h fun σ H R ⟨B, F, ρ, C, P, Rl, m, k⟩ =>
  ⟨B, F, ρ, C, _, Rl, m, fun x ρ1 C1 F1 v1 H1 s1 R1 r1 q1 => ⟨B, F1, ρ1, C1, _, R1, q1, fun y ρ2 C2 F2 v2 H2 s2 R2 r2 q2 => by
    obtain ⟨xs, ys, e1, e2, q2⟩ := q2
    obtain ⟨t1, a, vs, rfl, ha, ra⟩ := sqD_inv (r1.mono s2) e1
    obtain ⟨t2, b, ws, rfl, hb, rb⟩ := sqD_inv r2 e2
    refine ⟨t1, t2, a, b, vs, ws, rfl, seqK_same R2.ce.fh ha, seqK_same R2.ce.fh hb, k _ ρ2 C2 F2 _ H2 (s1.trans s2) R2 (it_zipG ra rb (walk_zipK ?_) fun H s => ⟨seqK_same s ha, seqK_same s hb⟩) q2⟩
    rw [zipD_len, ra.length, rb.length]⟩⟩
theorem i_zip3 {tg : Expr} {ma mb mc : ME} {e : Expr} (h : PI X tg e (iZipK3 X.K (tCons (rd X.K ma) (tCons (rd X.K mb) (tCons (rd X.K mc) tNil))))) : PI X tg e (rdI X.K fun ρ C P => ma ρ C fun x ρ1 C1 => mb ρ1 C1 fun y ρ2 C2 => mc ρ2 C2 fun z ρ3 C3 => ∃ xs ys zs, sqD x = some xs ∧ sqD y = some ys ∧ sqD z = some zs ∧ P (zip3D xs ys zs) ρ3 C3) := pi_weak h fun σ H R ⟨B, F, ρ, C, P, Rl, m, k⟩ =>
  ⟨B, F, ρ, C, _, Rl, m, fun x ρ1 C1 F1 v1 H1 s1 R1 r1 q1 => ⟨B, F1, ρ1, C1, _, R1, q1, fun y ρ2 C2 F2 v2 H2 s2 R2 r2 q2 => ⟨B, F2, ρ2, C2, _, R2, q2, fun z ρ3 C3 F3 v3 H3 s3 R3 r3 q3 => by
    obtain ⟨xs, ys, zs, e1, e2, e3, q3⟩ := q3
    obtain ⟨t1, a, vs, rfl, ha, ra⟩ := sqD_inv (r1.mono (s2.trans s3)) e1
    obtain ⟨t2, b, ws, rfl, hb, rb⟩ := sqD_inv (r2.mono s3) e2
    obtain ⟨t3, d, us, rfl, hd, rd⟩ := sqD_inv r3 e3
    refine ⟨t1, t2, t3, a, b, d, vs, ws, us, rfl, seqK_same R3.ce.fh ha, seqK_same R3.ce.fh hb, seqK_same R3.ce.fh hd, k _ ρ3 C3 F3 _ H3 (s1.trans (s2.trans s3)) R3 (it_zipG3 ra rb rd (walk_zipK3 ?_) fun H s => ⟨seqK_same s ha, seqK_same s hb, seqK_same s hd⟩) q3⟩
    rw [zip3D_len, ra.length, rb.length, rd.length]⟩⟩⟩
end
/-! chains of three -/
def tChain3 (r r' r'' : R2) (ta tb tc td : TE) : TE := fun σ H Q => ta σ H fun x H1 => tb σ H1 fun y H2 => r x y H2 fun z H3 => ∃ k, z = .bl k ∧
  (if k = true then tc σ H3 fun w' H4 => r' y w' H4 fun z' H5 => ∃ k', z' = .bl k' ∧ (if k' = true then td σ H5 fun u' H6 => r'' w' u' H6 Q else Q (.bl false) H5) else Q (.bl false) H3)
section
variable {X : Cx} {a b d f : Expr} {pos : Pos}
theorem pe_chain3 {op op' op'' : CmpOp} {r r' r'' : R2} {ta tb tc td : TE} (ho : OpR X (compareOp op) r) (ho' : OpR X (compareOp op') r') (ho'' : OpR X (compareOp op'') r'') (ha : PE X a ta) (hb : PE X b tb) (hc : PE X d tc) (hd : PE X f td)
    (hm : lastMarks [op, op', op''] [b, d, f] = false) : PE X (.Compare a [op, op', op''] [b, d, f] pos) (tChain3 r r' r'' ta tb tc td) := by
  refine ⟨fun pins s σ H Q I h => ?_⟩
  refine Compare_chain (thn (ha.run pins s σ H _ I h) fun v s1 ⟨x, H1, I1, r1, q1⟩ => chain_link (thn (hb.run pins s1 σ H1 _ I1 q1) fun u s2 ⟨y, H2, I2, r2, q2⟩ =>
    thn (ho pins s2 σ H2 x y v u _ I2 r1 r2 q2) fun d s3 ⟨z, H3, I3, r3, k, e, q3⟩ => ?_)) hm
  subst e
  cases r3
  refine wpAny_truthy_bool ?_
  cases k with
  | false => exact ite_ff ⟨.bl false, H3, I3, rfl, q3⟩
  | true =>
    refine ite_tt (chain_link (thn (hc.run pins s3 σ H3 _ I3 q3) fun w' s4 ⟨z', H4, I4, r4, q4⟩ => thn (ho' pins s4 σ H4 y z' u w' _ I4 r2 r4 q4) fun d5 s5 ⟨z5, H5, I5, r5, k5, e5, q5⟩ => ?_))
    subst e5
    cases r5
    refine wpAny_truthy_bool ?_
    cases k5 with
    | false => exact ite_ff ⟨.bl false, H5, I5, rfl, q5⟩
    | true => exact ite_tt (chain_last (thn (hd.run pins s5 σ H5 _ I5 q5) fun w6 s6 ⟨z6, H6, I6, r6, q6⟩ => ho'' pins s6 σ H6 z' z6 w' w6 Q I6 r4 r6 q6))
theorem e_chn3 {r r' r'' : D → D → (Bool → Prop) → Prop} {ma mb mc md : ME} {e : Expr} (h : PE X e (tChain3 (lift2 X.K fun d e P => r d e fun b => P (.bl b)) (lift2 X.K fun d e P => r' d e fun b => P (.bl b)) (lift2 X.K fun d e P => r'' d e fun b => P (.bl b)) (rd X.K ma) (rd X.K mb) (rd X.K mc) (rd X.K md))) :
    PE X e (rd X.K fun ρ C P => ma ρ C fun x ρ1 C1 => mb ρ1 C1 fun y ρ2 C2 => r x y fun k => if k = true then mc ρ2 C2 fun z ρ3 C3 => r' y z fun k' => if k' = true then md ρ3 C3 fun u ρ4 C4 => r'' z u fun k'' => P (.bl k'') ρ4 C4 else P (.bl false) ρ3 C3 else P (.bl false) ρ2 C2) :=
  pe_weak h fun σ H Q ⟨B, F, ρ, C, P, R, m, k⟩ =>
  ⟨B, F, ρ, C, _, R, m, fun x ρ1 C1 F1 v1 H1 s1 R1 r1 q1 => ⟨B, F1, ρ1, C1, _, R1, q1, fun y ρ2 C2 F2 v2 H2 s2 R2 r2 q2 =>
    ⟨F2, x, y, blP fun k => if k = true then mc ρ2 C2 fun z ρ3 C3 => r' y z fun k' => if k' = true then md ρ3 C3 fun u ρ4 C4 => r'' z u fun k'' => P (.bl k'') ρ4 C4 else P (.bl false) ρ3 C3 else P (.bl false) ρ2 C2, R2.ce.fh, r1.mono s2, r2, q2, fun d F3 v3 H3 g r3 p3 => by
      obtain ⟨b, rfl, rfl, p3⟩ := blP_inv r3 p3
      refine ⟨b, rfl, ?_⟩
      cases b with
      | false => exact k _ ρ2 C2 F3 _ H3 (s1.trans (s2.trans g.ff)) (R2.grow g) (.bl _) p3
      | true => exact ⟨B, F3, ρ2, C2, _, R2.grow g, p3, fun z ρ3 C3 F4 v4 H4 s4 R4 r4 q4 => ⟨F4, y, z, blP fun k' => if k' = true then md ρ3 C3 fun u ρ4 C4 => r'' z u fun k'' => P (.bl k'') ρ4 C4 else P (.bl false) ρ3 C3, R4.ce.fh, (r2.mono g.ff).mono s4, r4, q4, fun d F5 v5 H5 g5 r5 p5 => by
          obtain ⟨b, rfl, rfl, p5⟩ := blP_inv r5 p5
          refine ⟨b, rfl, ?_⟩
          cases b with
          | false => exact k _ ρ3 C3 F5 _ H5 (s1.trans (s2.trans (g.ff.trans (s4.trans g5.ff)))) (R4.grow g5) (.bl _) p5
          | true => exact ⟨B, F5, ρ3, C3, _, R4.grow g5, p5, fun u ρ6 C6 F6 v6 H6 s6 R6 r6 q6 => ⟨F6, z, u, blP fun k'' => P (.bl k'') ρ6 C6, R6.ce.fh, (r4.mono g5.ff).mono s6, r6, q6, fun d F7 v7 H7 g7 r7 p7 => by
              obtain ⟨b, rfl, rfl, p7⟩ := blP_inv r7 p7
              exact k _ ρ6 C6 F7 _ H7 (s1.trans (s2.trans (g.ff.trans (s4.trans (g5.ff.trans (s6.trans g7.ff)))))) (R6.grow g7) (.bl _) p7⟩⟩⟩⟩⟩⟩⟩
/-! a display of texts, asked at once -/
def dlkT (kvs : List (String × String)) : List (TE × TE) := kvs.map fun p => (tC (.str (Str.ofString p.1)), tC (.str (Str.ofString p.2)))
theorem tPairs_const : ∀ (kvs : List (String × String)) (σ : L2.St) (H : Hp) (Q : List (V × V) → Hp → Prop), Q (kvs.map fun p => (V.str (Str.ofString p.1), V.str (Str.ofString p.2))) H → tPairs (dlkT kvs) σ H Q
  | [], _, _, _, q => q
  | p :: kvs, σ, H, Q, q => tPairs_const kvs σ H _ q
theorem upd_upd {H : Hp} {p : Addr} {o o' : HO} : upd (upd H p o) p o' = upd H p o' := by
  funext a
  by_cases q : a = p
  · subst q; rw [upd_same, upd_same]
  · rw [upd_ne q, upd_ne q, upd_ne q]
theorem e_dlk {kvs : List (String × String)} {ma : ME} {e : Expr} (hl : kvs.length ≤ 15) (h : PE X e (tDGet (tDisp (dlkT kvs)) (rd X.K ma))) :
    PE X e (rd X.K fun ρ C P => ma ρ C fun x ρ1 C1 => match x with | .str s => ∃ y, dlkAt kvs s = some (.str y) ∧ P (.str y) ρ1 C1 | _ => False) := pe_weak h fun σ H Q ⟨B, F, ρ, C, P, R, m, k⟩ => by
  intro p hp
  refine tPairs_const kvs σ _ _ ⟨upd_same, kvs.map (fun q => (Sum.inr (Str.ofString q.1), V.str (Str.ofString q.2))), ?_, by rw [List.length_map]; exact hl, ?_⟩
  · rw [List.map_map]; rfl
  · rw [upd_upd]
    have g := Grow.new (o := HO.dK (mergeK [] (kvs.map (fun q => (Sum.inr (Str.ofString q.1), V.str (Str.ofString q.2)))))) R.ce.fh hp
    refine ⟨B, _, ρ, C, _, R.grow g, m, fun x ρ1 C1 F1 v1 H1 s1 R1 r1 q1 => ?_⟩
    try dsimp only at q1
    split at q1
    · rename_i s
      obtain ⟨y, e1, q1⟩ := q1
      cases r1
      refine ⟨p, .str y, rfl, .inl ⟨_, Sum.inr s, .inl (R1.ce.fh _ _ (s1 _ _ upd_same)), rfl, ?_⟩, k _ ρ1 C1 F1 _ H1 (g.ff.trans s1) R1 (.str _) q1⟩
      exact e1.symm
    · exact q1.elim
end
end M61

set_option Elab.async false
set_option linter.all false
set_option autoImplicit false
set_option maxRecDepth 100000
/-! M4h: dicts of written text keys, kept in cells. -/
namespace M61
open PySem PySem.Spec PyProof.Rows L2
/-! ### p is let go of -/
def wo (F : Hp) (p : Addr) : Hp := fun b => if b = p then none else F b
theorem wo_ne {F : Hp} {p b : Addr} (h : b ≠ p) : wo F p b = F b := if_neg h
theorem wo_self {F : Hp} {p : Addr} : wo F p p = none := if_pos rfl
theorem wo_some {F : Hp} {p b : Addr} {o : HO} (h : wo F p b = some o) : b ≠ p ∧ F b = some o := by
  by_cases q : b = p
  · rw [q, wo_self] at h; cases h
  · rw [wo_ne q] at h; exact ⟨q, h⟩
theorem wo_none {F : Hp} {p b : Addr} (h : F b = none) : wo F p b = none := by
  by_cases q : b = p
  · rw [q]; exact wo_self
  · rw [wo_ne q]; exact h
section
variable {K : PySem.W.Frag} {F : Hp} {p : Addr}
theorem rd_wo {u : HO} {a : Addr} (hp : F p = some (HO.dK [])) (hu : ∀ kvs, u ≠ HO.dK kvs) (h : L2.Rd F a u) : L2.Rd (wo F p) a u := by
  rcases h with h | ⟨o, h⟩
  · refine .inl ?_
    rw [wo_ne]
    · exact h
    · intro e; rw [e, hp] at h; exact hu _ (Option.some.inj h).symm
  · refine .inr ⟨o, ?_⟩
    rw [wo_ne]
    · exact h
    · intro e; rw [e, hp] at h; cases h
theorem sqT_wo {a : Addr} {xs : List V} (hp : F p = some (HO.dK [])) (h : SqT K F a xs) : SqT K (wo F p) a xs := h.imp (rd_wo hp (fun _ e => by cases e)) id
theorem sqL_wo {a : Addr} {xs : List V} (hp : F p = some (HO.dK [])) (h : SqL K F a xs) : SqL K (wo F p) a xs := h.imp (rd_wo hp (fun _ e => by cases e)) id
mutual
theorem Rep.wo (hp : F p = some (HO.dK [])) : ∀ {v : V} {d : D}, Rep K F v d → Rep K (M61.wo F p) v d
  | _, _, .non => .non
  | _, _, .bl b => .bl b
  | _, _, .int i => .int i
  | _, _, .str x => .str x
  | _, _, .tup h r => .tup (sqT_wo hp h) (Reps.wo hp r)
  | _, _, .lst (a := a) h r => .lst (by
      rw [wo_ne]
      · exact h
      · intro e; rw [e, hp] at h; cases h) (Reps.wo hp r)
  | _, _, .scr h r => .scr (sqL_wo hp h) (Reps.wo hp r)
  | _, _, .ref a => .ref a
  | _, _, .dic (u := u) h d => .dic (by
      rw [wo_ne]
      · exact h
      · intro e; rw [e, hp] at h; cases h; exact absurd rfl d) d
theorem Reps.wo (hp : F p = some (HO.dK [])) : ∀ {vs : List V} {ds : List D}, Reps K F vs ds → Reps K (M61.wo F p) vs ds
  | _, _, .nil => .nil
  | _, _, .cons r t => .cons (Rep.wo hp r) (Reps.wo hp t)
end
theorem RepKV.wo (hp : F p = some (HO.dK [])) : ∀ {vs ds}, RepKV K F vs ds → RepKV K (M61.wo F p) vs ds
  | _, _, .nil => .nil
  | _, _, .cons r t => .cons (r.wo hp) (RepKV.wo hp t)
end
/-- a frozen empty dict becomes a cell -/
theorem Rel.dctCell {K : PySem.W.Frag} {B : Base} {F H : Hp} {σ : L2.St} {ρ : Rho} {C : CM} {p : Addr} {kvs : List (L2.Key × V)} {ds : List (L2.Key × D)} (R : Rel K B F σ H ρ C) (hp : F p = some (HO.dK [])) (hB : B.H p = none) (hF : B.F p = none) (rk : RepKV K F kvs ds) :
    Rel K B (wo F p) σ (upd H p (.dK kvs)) ρ (fun b => if b = p then some (.dct ds) else C b) ∧ C p = none := by
  have hC : C p = none := by
    cases e : C p with
    | none => rfl
    | some c => obtain ⟨_, n⟩ := R.ce.cel p c e; rw [hp] at n; cases n
  have hH := R.ce.fh _ _ hp
  refine ⟨⟨R.len, ⟨fun b o q => ?_, fun b c q => ?_⟩, ⟨fun b o q => ?_, fun b o q => ?_, fun b o q q2 => ?_, fun b c q => ?_, fun b o q => ?_⟩, fun i d q => ?_, fun i xs q => ?_, R.dis⟩, hC⟩
  · obtain ⟨n, q⟩ := wo_some q
    rw [upd_ne n]; exact R.ce.fh b o q
  · by_cases e : b = p
    · subst e
      rw [if_pos rfl] at q
      cases q
      exact ⟨⟨kvs, upd_same, rk.wo hp⟩, wo_self⟩
    · rw [if_neg e] at q
      obtain ⟨r, n⟩ := R.ce.cel b c q
      refine ⟨?_, wo_none n⟩
      cases c with
      | lst xs => obtain ⟨vs, h1, h2⟩ := r; exact ⟨vs, by rw [upd_ne e]; exact h1, h2.wo hp⟩
      | dct xs => obtain ⟨vs, h1, h2⟩ := r; exact ⟨vs, by rw [upd_ne e]; exact h1, h2.wo hp⟩
  · rw [wo_ne]
    · exact R.fr.ff b o q
    · intro e; rw [e, hF] at q; cases q
  · obtain ⟨n, q⟩ := wo_some q
    exact R.fr.fnew b o q
  · rw [upd_ne]
    · exact R.fr.frame b o q q2
    · intro e; rw [e, hB] at q; cases q
  · by_cases e : b = p
    · subst e; exact .inr hB
    · exact R.fr.cnew b c (by have : (if b = p then some (Cell.dct ds) else C b) = some c := q; rwa [if_neg e] at this)
  · by_cases e : b = p
    · subst e; exact ⟨_, upd_same⟩
    · rw [upd_ne e]; exact R.fr.stay b o q
  · obtain ⟨v, h1, h2⟩ := R.dat i d q
    exact ⟨v, h1, h2.wo hp⟩
  · obtain ⟨a, vs, h1, h2, h3, n1, n2, n3⟩ := R.own i xs q
    have e : a ≠ p := fun e => by rw [e, hp] at n1; cases n1
    exact ⟨a, vs, h1, by rw [upd_ne e]; exact h2, h3.wo hp, wo_none n1, by show (if a = p then _ else C a) = none; rw [if_neg e]; exact n2, n3⟩
/-! ### displays -/
def chainM : List ME → ML
  | [], ρ, C, P => P [] ρ C
  | m :: ms, ρ, C, P => m ρ C fun x ρ1 C1 => chainM ms ρ1 C1 fun xs ρ2 C2 => P (x :: xs) ρ2 C2
def pairsT (K : PySem.W.Frag) : List String → List ME → List (TE × TE)
  | k :: ks, m :: ms => (tC (.str (Str.ofString k)), rd K m) :: pairsT K ks ms
  | _, _ => []
theorem keyed_len {α : Type} : ∀ (ks : List String) (xs : List α), (keyed ks xs).length ≤ ks.length
  | [], _ => Nat.zero_le _
  | _ :: _, [] => Nat.zero_le _
  | k :: ks, x :: xs => Nat.succ_le_succ (keyed_len ks xs)
theorem keyed_rep {K : PySem.W.Frag} {F : Hp} : ∀ (ks : List String) {vs : List V} {ds : List D}, Reps K F vs ds → RepKV K F (keyed ks vs) (keyed ks ds)
  | [], _, _, _ => .nil
  | _ :: _, _, _, .nil => .nil
  | _ :: ks, _, _, .cons r t => .cons r (keyed_rep ks t)
theorem tPairs_rd {K : PySem.W.Frag} : ∀ (ks : List String) (ms : List ME), ks.length = ms.length → ∀ {B : Base} {F : Hp} {ρ : Rho} {C : CM} {σ : L2.St} {H : Hp} {P : List D → Rho → CM → Prop} {Q : List (V × V) → Hp → Prop}, Rel K B F σ H ρ C → chainM ms ρ C P →
    (∀ ds ρ1 C1 F1 vs H1, Same F F1 → Rel K B F1 σ H1 ρ1 C1 → Reps K F1 vs ds → P ds ρ1 C1 → Q ((keyed ks vs).map fun kv => (kV kv.1, kv.2)) H1) → tPairs (pairsT K ks ms) σ H Q
  | [], [], _, B, F, ρ, C, σ, H, P, Q, R, m, k => k [] ρ C F [] H (Same.refl _) R .nil m
  | k0 :: ks, m0 :: ms, e, B, F, ρ, C, σ, H, P, Q, R, m, k => by
    refine ⟨B, F, ρ, C, _, R, m, fun d ρ1 C1 F1 v H1 s1 R1 r1 q1 => ?_⟩
    refine tPairs_rd ks ms (Nat.succ.inj e) R1 q1 fun ds ρ2 C2 F2 vs H2 s2 R2 r2 q2 => ?_
    exact k (d :: ds) ρ2 C2 F2 (v :: vs) H2 (s1.trans s2) R2 (.cons (r1.mono s2) r2) q2
theorem merge_nodup : ∀ (more kvs : List (L2.Key × V)), ((kvs ++ more).map (·.1)).Nodup → mergeK kvs more = kvs ++ more
  | [], kvs, _ => by rw [List.append_nil]; rfl
  | kv :: more, kvs, h => by
    show mergeK (putK kvs kv.1 kv.2) more = _
    have hn : (kvs.any fun p => decide (p.1 = kv.1)) = false := by
      rw [List.any_eq_false]
      intro p hp
      rw [decide_eq_true_eq]
      intro e
      rw [List.map_append, List.map_cons, List.nodup_append] at h
      exact h.2.2 p.1 (List.mem_map.mpr ⟨p, hp, rfl⟩) kv.1 List.mem_cons_self e
    have e : putK kvs kv.1 kv.2 = kvs ++ [kv] := by unfold putK; rw [hn]; rfl
    rw [e, merge_nodup more (kvs ++ [kv]) (by rw [List.append_assoc]; exact h), List.append_assoc]; rfl
theorem keyed_keys {α β : Type} : ∀ (ks : List String) (xs : List α) (ys : List β), xs.length = ys.length → (keyed ks xs).map (·.1) = (keyed ks ys).map (·.1)
  | [], _, _, _ => rfl
  | _ :: _, [], [], _ => rfl
  | _ :: ks, _ :: xs, _ :: ys, h => by
    show _ :: (keyed ks xs).map (·.1) = _ :: (keyed ks ys).map (·.1)
    rw [keyed_keys ks xs ys (Nat.succ.inj h)]
section
variable {X : Cx}
theorem e_celd {ks : List String} {ms : List ME} {e : Expr} (hl : ks.length ≤ 15) (hm : ks.length = ms.length) (h : PE X e (tDisp (pairsT X.K ks ms))) :
    PE X e (rd X.K fun ρ C P => chainM ms ρ C fun ds ρ1 C1 => ((keyed ks ds).map (·.1)).Nodup ∧ ∀ a, C1 a = none → P (.ref a) ρ1 (fun b => if b = a then some (.dct (keyed ks ds)) else C1 b)) := pe_weak h fun σ H Q ⟨B, F, ρ, C, P, R, m, k⟩ => by
  intro p hp
  have g := Grow.new (o := HO.dK []) R.ce.fh hp
  have hB := R.base_none hp
  have hF : B.F p = none := by
    cases e : B.F p with
    | none => rfl
    | some o => have := R.ce.fh _ _ (R.fr.ff _ _ e); rw [hp] at this; cases this
  refine tPairs_rd ks ms hm (R.grow g) m fun ds ρ1 C1 F1 vs H1 s1 R1 r1 ⟨nd, q⟩ => ?_
  have hp1 := s1 _ _ (upd_same (H := F) (a := p) (o := HO.dK []))
  refine ⟨R1.ce.fh _ _ hp1, keyed ks vs, rfl, Nat.le_trans (keyed_len ks vs) hl, ?_⟩
  rw [merge_nodup (keyed ks vs) [] (by rw [List.nil_append, keyed_keys ks vs ds r1.length]; exact nd), List.nil_append]
  obtain ⟨R2, hC⟩ := R1.dctCell hp1 hB hF (keyed_rep ks r1)
  refine k (.ref p) ρ1 _ (wo F1 p) (.ref p) _ (fun b o q => ?_) R2 (.ref p) (q p hC)
  rw [wo_ne]
  · exact s1 _ _ (g.ff _ _ q)
  · intro e
    rw [e] at q
    have := R.ce.fh _ _ q
    rw [hp] at this; cases this
theorem RepKV.at {K : PySem.W.Frag} {F : Hp} {k : L2.Key} {d : D} : ∀ {vs ds}, RepKV K F vs ds → dctAt ds k = some d → ∃ v, valV vs k = some v ∧ Rep K F v d
  | _, _, .nil, h => by cases h
  | _, _, .cons (k := k') (v := v) (d := d') (vs := vs) (ds := ds) r t, h => by
    by_cases e : k' = k
    · have : dctAt ((k', d') :: ds) k = some d' := by unfold dctAt; rw [List.find?_cons, decide_eq_true e]; rfl
      rw [this] at h
      cases h
      exact ⟨v, valV_pos e, r⟩
    · have : dctAt ((k', d') :: ds) k = dctAt ds k := by unfold dctAt; rw [List.find?_cons, decide_eq_false e]
      rw [this] at h
      obtain ⟨v', h1, h2⟩ := RepKV.at t h
      exact ⟨v', by rw [valV_neg e]; exact h1, h2⟩
theorem RepKV.any {K : PySem.W.Frag} {F : Hp} (k : L2.Key) : ∀ {vs ds}, RepKV K F vs ds → (vs.any fun kv => decide (kv.1 = k)) = (ds.any fun kv => decide (kv.1 = k))
  | _, _, .nil => rfl
  | _, _, .cons r t => by rw [List.any_cons, List.any_cons, RepKV.any k t]
theorem RepKV.map {K : PySem.W.Frag} {F : Hp} {k : L2.Key} {v : V} {d : D} (r0 : Rep K F v d) : ∀ {vs ds}, RepKV K F vs ds → RepKV K F (vs.map fun kv => if kv.1 = k then (kv.1, v) else kv) (ds.map fun kv => if kv.1 = k then (kv.1, d) else kv)
  | _, _, .nil => .nil
  | _, _, .cons (k := k') r t => by
    rw [List.map_cons, List.map_cons]
    by_cases e : k' = k
    · rw [if_pos e, if_pos e]; exact .cons r0 (RepKV.map r0 t)
    · rw [if_neg e, if_neg e]; exact .cons r (RepKV.map r0 t)
theorem RepKV.snoc {K : PySem.W.Frag} {F : Hp} {k : L2.Key} {v : V} {d : D} (r0 : Rep K F v d) : ∀ {vs ds}, RepKV K F vs ds → RepKV K F (vs ++ [(k, v)]) (ds ++ [(k, d)])
  | _, _, .nil => .cons r0 .nil
  | _, _, .cons r t => .cons r (RepKV.snoc r0 t)
theorem RepKV.put {K : PySem.W.Frag} {F : Hp} {k : L2.Key} {v : V} {d : D} (r0 : Rep K F v d) {vs ds} (r : RepKV K F vs ds) : RepKV K F (putK vs k v) (dctPut ds k d) := by
  unfold putK dctPut
  rw [r.any k]
  split
  · exact r.map r0
  · exact r.snoc r0
theorem RepKV.length {K : PySem.W.Frag} {F : Hp} : ∀ {vs ds}, RepKV K F vs ds → vs.length = ds.length
  | _, _, .nil => rfl
  | _, _, .cons _ t => congrArg (· + 1) (RepKV.length t)
theorem e_dix {k : String} {ma : ME} {e : Expr} (h : PE X e (tDGet (rd X.K ma) (tC (.str (Str.ofString k))))) :
    PE X e (rd X.K fun ρ C P => ma ρ C fun x ρ1 C1 => match x with | .ref p => ∃ kvs d, C1 p = some (.dct kvs) ∧ dctAt kvs (Sum.inr (Str.ofString k)) = some d ∧ P d ρ1 C1 | _ => False) := pe_weak h fun σ H Q ⟨B, F, ρ, C, P, R, m, kk⟩ => by
  refine ⟨B, F, ρ, C, _, R, m, fun x ρ1 C1 F1 v1 H1 s1 R1 r1 q1 => ?_⟩
  try dsimp only at q1
  split at q1
  · rename_i p
    obtain ⟨kvs, d, hc, hd, q1⟩ := q1
    cases r1
    obtain ⟨vs, hl, ra⟩ := (R1.ce.cel _ _ hc).1
    obtain ⟨v, e1, rv⟩ := ra.at hd
    have dg := DGet.k (k := Sum.inr (Str.ofString k)) hl
    rw [e1] at dg
    exact ⟨p, v, rfl, dg, kk d ρ1 C1 F1 v H1 s1 R1 rv q1⟩
  · exact q1.elim
theorem s_dset {k : String} {me mo : ME} {st : Stmt} (h : PS X st (tAsg (rd X.K me) (gSub (rd X.K mo) (tC (.str (Str.ofString k))) rSetD))) :
    PS X st (rdS X.K fun A ρ C => me ρ C fun d ρ1 C1 => mo ρ1 C1 fun x ρ2 C2 => match x with
    | .ref p => ∃ kvs, C2 p = some (.dct kvs) ∧ kvs.length < sizeLine ∧ A.nx ρ2 (fun b => if b = p then some (.dct (dctPut kvs (Sum.inr (Str.ofString k)) d)) else C2 b)
    | _ => False) := ps_weak h fun D σ H ⟨B, F, ρ, C, A, R, m, k1, _⟩ =>
  ⟨B, F, ρ, C, _, R, m, fun d ρ1 C1 F1 v1 H1 s1 R1 r1 q1 => ⟨B, F1, ρ1, C1, _, R1, q1, fun x ρ2 C2 F2 v2 H2 s2 R2 r2 q2 => by
    try dsimp only at q2
    split at q2
    · rename_i p
      cases r2
      obtain ⟨kvs, hc, hn, q2⟩ := q2
      obtain ⟨vs, hl, ra⟩ := (R2.ce.cel _ _ hc).1
      exact ⟨p, _, rfl, DPut.k (k := Sum.inr (Str.ofString k)) hl (by rw [ra.length]; exact hn), k1 _ _ F2 σ _ (s1.trans s2) (R2.mutCell (c' := .dct (dctPut kvs (Sum.inr (Str.ofString k)) d)) hc ⟨_, upd_same, ra.put (r1.mono s2)⟩) q2⟩
    · exact q2.elim⟩⟩
/-- {} -/
theorem e_edic {e : Expr} (h : PE X e (fun σ H Q => ∀ p, H p = none → Q (.ref p) (upd H p (.dT [])))) : PE X e (rd X.K fun ρ C P => P .dic ρ C) := pe_weak h fun σ H Q ⟨B, F, ρ, C, P, R, m, k⟩ => fun p hp => by
  have g := Grow.new (o := HO.dT []) R.ce.fh hp
  exact k .dic ρ C _ (.ref p) _ g.ff (R.grow g) (.dic upd_same trivial) m
/-- a frozen empty dict is filled -/
theorem Rel.dicF {K : PySem.W.Frag} {B : Base} {F H : Hp} {σ : L2.St} {ρ : Rho} {C : CM} {p : Addr} {kvs : List (L2.Key × V)} (R : Rel K B F σ H ρ C) (hp : F p = some (HO.dK [])) (hB : B.H p = none) (hF : B.F p = none) :
    Rel K B (upd F p (.dK kvs)) σ (upd H p (.dK kvs)) ρ C := by
  have hs : Same (M61.wo F p) (upd F p (.dK kvs)) := fun b o q => by
    obtain ⟨n, q⟩ := wo_some q
    rw [upd_ne n]; exact q
  have ne : ∀ {b : Addr}, F b = none → b ≠ p := fun q e => by rw [e, hp] at q; cases q
  refine ⟨R.len, ⟨fun b o q => ?_, fun b c q => ?_⟩, ⟨fun b o q => ?_, fun b o q => ?_, fun b o q q2 => ?_, fun b c q => R.fr.cnew b c q, fun b o q => ?_⟩, fun i d q => ?_, fun i xs q => ?_, R.dis⟩
  · by_cases e : b = p
    · subst e; rw [upd_same] at q ⊢; exact q
    · rw [upd_ne e] at q ⊢; exact R.ce.fh b o q
  · obtain ⟨r, n⟩ := R.ce.cel b c q
    have e := ne n
    refine ⟨?_, by rw [upd_ne e]; exact n⟩
    cases c with
    | lst xs => obtain ⟨vs, h1, h2⟩ := r; exact ⟨vs, by rw [upd_ne e]; exact h1, (h2.wo hp).mono hs⟩
    | dct xs => obtain ⟨vs, h1, h2⟩ := r; exact ⟨vs, by rw [upd_ne e]; exact h1, (h2.wo hp).mono hs⟩
  · rw [upd_ne]
    · exact R.fr.ff b o q
    · intro e; rw [e, hF] at q; cases q
  · by_cases e : b = p
    · subst e; exact .inr hB
    · rw [upd_ne e] at q; exact R.fr.fnew b o q
  · rw [upd_ne]
    · exact R.fr.frame b o q q2
    · intro e; rw [e, hB] at q; cases q
  · by_cases e : b = p
    · subst e; exact ⟨_, upd_same⟩
    · rw [upd_ne e]; exact R.fr.stay b o q
  · obtain ⟨v, h1, h2⟩ := R.dat i d q
    exact ⟨v, h1, (h2.wo hp).mono hs⟩
  · obtain ⟨a, vs, h1, h2, h3, n1, n2, n3⟩ := R.own i xs q
    have e := ne n1
    exact ⟨a, vs, h1, by rw [upd_ne e]; exact h2, (h3.wo hp).mono hs, by rw [upd_ne e]; exact n1, n2, n3⟩
/-- {k: x}, k written -/
theorem e_ndic {k : L2.Key} {ma : ME} {e : Expr} (h : PE X e (tDisp [(tC (kV k), rd X.K ma)])) : PE X e (rd X.K fun ρ C P => ma ρ C fun _ ρ1 C1 => P .dic ρ1 C1) := pe_weak h fun σ H Q ⟨B, F, ρ, C, P, R, m, kk⟩ => by
  intro p hp
  have g := Grow.new (o := HO.dK []) R.ce.fh hp
  have hB := R.base_none hp
  have hF : B.F p = none := by
    cases e : B.F p with
    | none => rfl
    | some o => have := R.ce.fh _ _ (R.fr.ff _ _ e); rw [hp] at this; cases this
  refine ⟨B, _, ρ, C, _, R.grow g, m, fun d ρ1 C1 F1 v H1 s1 R1 r1 q1 => ?_⟩
  have hp1 := s1 _ _ (upd_same (H := F) (a := p) (o := HO.dK []))
  refine ⟨R1.ce.fh _ _ hp1, [(k, v)], rfl, by show 1 ≤ 15; decide, ?_⟩
  have e1 : mergeK [] [(k, v)] = [(k, v)] := rfl
  rw [e1]
  have R2 := R1.dicF (kvs := [(k, v)]) hp1 hB hF
  refine kk .dic ρ1 C1 _ (.ref p) _ (fun b o q => ?_) R2 (.dic upd_same (by intro z; cases z)) q1
  rw [upd_ne]
  · exact s1 _ _ (g.ff _ _ q)
  · intro e
    rw [e] at q
    have := R.ce.fh _ _ q
    rw [hp] at this; cases this
end
end M61

set_option Elab.async false
set_option linter.all false
set_option autoImplicit false
set_option maxRecDepth 100000
/-! M4i: a list from behind, its last one left out. -/
namespace M61
open PySem PySem.Spec PyProof.Rows L2
theorem bounds_2 (n : Nat) (h : 1 ≤ n) : sliceBounds (some (-2)) none (some (-1)) n = (((n - 1 : Nat) : Int) - 1, -1, -1) := by
  have e : sliceBounds (some (-2)) none (some (-1)) n = (max (-1) (min ((-2 : Int) + n) ((n : Int) - 1)), -1, -1) := by
    simp [sliceBounds]
  rw [e]
  congr 1
  omega
theorem filter_none {α : Type} (xs : Array α) (f : Nat → Option α) (l : List Nat) (h : ∀ k ∈ l, f k = xs[k]?) : l.filterMap f = l.filterMap (xs[·]?) := by
  induction l with
  | nil => rfl
  | cons k l ih =>
    rw [List.filterMap_cons, List.filterMap_cons, h k List.mem_cons_self, ih fun j hj => h j (List.mem_cons_of_mem _ hj)]
theorem pick_2 (items : Array Value) : slicePick items (some (-2)) none (some (-1)) = ((items.toList.take (items.size - 1)).reverse).toArray := by
  by_cases h : 1 ≤ items.size
  · unfold slicePick
    rw [bounds_2 _ h]
    show ((sliceRange (((items.size - 1 : Nat) : Int) - 1) (-1) (-1)).filterMap (items[·]?)).toArray = _
    rw [PySem.W.krv_sliceRange, PySem.W.krv_range, List.filterMap_reverse]
    congr 2
    have e := PySem.W.krv_all (items.extract 0 (items.size - 1))
    have hs : (items.extract 0 (items.size - 1)).size = items.size - 1 := by rw [Array.size_extract]; omega
    rw [hs] at e
    rw [← filter_none items ((items.extract 0 (items.size - 1))[·]?) (List.range (items.size - 1)) (fun k hk => ?_), e]
    · rw [Array.toList_extract]
      simp [List.extract]
    · have hk := List.mem_range.mp hk
      show (items.extract 0 (items.size - 1))[k]? = items[k]?
      rw [Array.getElem?_eq_getElem (by omega), Array.getElem?_eq_getElem (by omega), Array.getElem_extract]
      simp
  · have hz : items = #[] := Array.eq_empty_of_size_eq_zero (by omega)
    subst hz
    rfl
/-- a value's list from behind, the last one left out -/
def tRev2 (K : PySem.W.Frag) (te : TE) : TE := fun σ H Q => te σ H fun x H1 => ∃ a xs, x = .ref a ∧ SqL K H1 a xs ∧ ∀ p, H1 p = none → Q (.ref p) (upd H1 p (.lst (xs.take (xs.length - 1)).reverse))
section
variable {X : Cx}
theorem neg_part {i : Int} {k : Nat} {p1 p2 : Pos} : PO X (some (.UnaryOp .USub (.Constant (.int i) k p1) p2)) (tPart (tUn (rU fun i => .int (-i)) (tC (.int i)))) := po_some (pe_un un_neg pe_int)
theorem pe_rev2 {e : Expr} {te : TE} {k k' : Nat} {p1 p2 p3 q1 q2 pos : Pos} (he : PE X e te) : PE X (.Subscript e (.Slice (some (.UnaryOp .USub (.Constant (.int 2) k' q1) q2)) none (some (.UnaryOp .USub (.Constant (.int 1) k p1) p2)) p3) pos) (tRev2 X.K te) := ⟨fun pins s σ H Q I h => by
  refine Subscript_ (thn (he.run pins s σ H _ I h) fun v s1 ⟨x, H1, I1, r1, a, xs, ex, hx, q⟩ => ?_)
  subst ex
  cases r1
  refine wpAny_Slice (thn (neg_part.run pins s1 σ H1 (fun o G => o = some (-2) ∧ G = H1) I1 ⟨2, rfl, -2, rfl, rfl, rfl⟩) fun vl s2 ⟨_, _, I2, pl, el, eh⟩ => ?_)
  cases el; cases eh
  refine thn (po_none.run pins s2 σ H1 (fun o G => o = none ∧ G = H1) I2 ⟨rfl, rfl⟩) fun vu s3 ⟨_, _, I3, pu, el, eh⟩ => ?_
  cases el; cases eh
  refine thn (neg_part.run pins s3 σ H1 (fun o G => o = some (-1) ∧ G = H1) I3 ⟨1, rfl, -1, rfl, rfl, rfl⟩) fun vs s4 ⟨_, _, I4, ps, el, eh⟩ => ?_
  cases el; cases eh
  have I5 : Inv X pins σ H1 { s4 with heap := s4.heap.push { cls := .type "slice", data := .fields #[vl, vu, vs] } } := I4.kept (t' := s4.toks) fun b ob q => Heap.get?_push_of_some _ q
  obtain ⟨its, r, ht, hz⟩ := I5.list hx
  have hlen := r.length
  refine tail_any (ops := [.ref a, .ref s4.heap.objs.size]) ht.isList.typeIs (PySem.slot_list_getitem.lookup) ?_ (by with_unfolding_all rfl)
  refine wpAny_getItem_list_slice ht.isList (Heap.IsSliceOf.new _ vl vu vs) pl pu ps (by decide) ?_ (by rw [List.size_toArray]; omega)
  rw [pick_2]
  have hr : Vals (xs.take (xs.length - 1)).reverse (its.take (its.length - 1)).reverse := by rw [← hlen]; exact (r.take _).reverse
  have I6 := I5.laid (a := (s4.heap.push { cls := .type "slice", data := .fields #[vl, vu, vs] }).objs.size) (t' := s4.toks) (o := .lst (xs.take (xs.length - 1)).reverse) (h' := _) (fun b ob q => Heap.get?_push_of_some (Obj.mk (.type "list") none (.seq ((its.toArray.toList.take (its.toArray.size - 1)).reverse).toArray 0) #[]) q) (Nat.le_refl _) ⟨by rw [List.length_reverse, List.length_take]; omega, _, 0, by
    simpa using hr, Heap.get?_push_size _ rfl⟩
  exact ⟨.ref _, _, I6, rfl, q _ (I5.hok.fresh (Nat.le_refl _))⟩⟩
theorem l_ls2 {ma : ME} {e : Expr} (h : PE X e (tRev2 X.K (rd X.K ma))) : PE X e (rdL X.K fun ρ C P => ma ρ C fun x ρ1 C1 => ∃ xs, lstD C1 x = some xs ∧ P (xs.take (xs.length - 1)).reverse ρ1 C1) := pe_weak h fun σ H Q ⟨B, F, ρ, C, P, R, m, k⟩ =>
  ⟨B, F, ρ, C, _, R, m, fun x ρ1 C1 F1 v1 H1 s1 R1 r1 ⟨xs, hx, q⟩ => by
    obtain ⟨a, vs, rfl, hl, ra⟩ := lstD_rel R1.ce r1 hx
    refine ⟨a, vs, rfl, .of hl, fun p hp => ?_⟩
    obtain ⟨R2, f1, f2, f3, f4⟩ := rel_fresh (vs := (vs.take (vs.length - 1)).reverse) R1 hp
    exact k _ ρ1 C1 F1 p _ _ s1 R2 upd_same (by rw [ra.length]; exact (ra.take _).reverse) f1 f2 f3 f4 q⟩
end
end M61

set_option Elab.async false
set_option linter.all false
set_option autoImplicit false
set_option maxRecDepth 100000
/-! M4j: a tuple of anything beside the empty one. -/
namespace M61
open PySem PySem.Spec PyProof.Rows L2
def rTpe (K : PySem.W.Frag) (f : Bool → Bool) : R2 := fun x y H Q => ∃ a b xs, x = V.ref a ∧ y = V.ref b ∧ SqT K H a xs ∧ SqT K H b [] ∧ Q (.bl (f xs.isEmpty)) H
section
variable {X : Cx}
theorem tup_two {pins : List (Addr × Obj)} {s : Shared} {σ : L2.St} {H : Hp} {a : Addr} {xs : List V} (I : Inv X pins σ H s) (h : SqT X.K H a xs) : ∃ its : List Value, s.heap.IsTuple a its.toArray ∧ (its.toArray.size == 0) = xs.isEmpty := by
  obtain ⟨its, rv, ht, _⟩ := I.tuple h
  refine ⟨its, ht, ?_⟩
  have := rv.length
  cases xs <;> cases its <;> simp at this ⊢
theorem op_tpe (hu : X.A.units < cLine) : OpR X (compareOp .Eq) (rTpe X.K id) := fun pins s σ H x y v u Q I rx ry ⟨a, b, xs, ex, ey, ha, hb, q⟩ => by
  subst ex ey
  cases rx; cases ry
  obtain ⟨i1, t1, z1⟩ := tup_two I ha
  obtain ⟨i2, t2, z2⟩ := tup_two I hb
  have e2 : i2.toArray.size = 0 := by simpa using z2
  refine SeqAt.RcAt.tuples (e := fun _ => true) t1 t2 hu (fun j h1 h2 => by omega) X.prog X.w _ _ ?_
  refine ⟨.bl xs.isEmpty, H, I, ?_, q⟩
  rw [e2, Nat.min_zero, z1]; rfl
theorem op_tpn (hu : X.A.units < cLine) : OpR X (compareOp .NotEq) (rTpe X.K (!·)) := fun pins s σ H x y v u Q I rx ry ⟨a, b, xs, ex, ey, ha, hb, q⟩ => by
  subst ex ey
  cases rx; cases ry
  obtain ⟨i1, t1, z1⟩ := tup_two I ha
  obtain ⟨i2, t2, z2⟩ := tup_two I hb
  have e2 : i2.toArray.size = 0 := by simpa using z2
  refine SeqAt.RcNeAt.tuples (e := fun _ => true) t1 t2 hu (fun j h1 h2 => by omega) X.prog X.w _ _ ?_
  refine ⟨.bl (!xs.isEmpty), H, I, ?_, q⟩
  rw [e2, Nat.min_zero, z1]; rfl
theorem t_tpe {f : Bool → Bool} {ma : ME} {e : Expr} (h : PT X e (tTest (tOp (rTpe X.K f) (rd X.K ma) (tTup tNil)))) :
    PT X e (rdT X.K fun ρ C P => ma ρ C fun x ρ1 C1 => match x with | .tup xs => P (f xs.isEmpty) ρ1 C1 | _ => False) := pt_weak h fun σ H Q ⟨B, F, ρ, C, P, R, m, k⟩ =>
  ⟨B, F, ρ, C, _, R, m, fun x ρ1 C1 F1 v1 H1 s1 R1 r1 q => by
    try dsimp only at q
    split at q
    · rename_i xs
      obtain ⟨a, vs, rfl, ha, ra⟩ := r1.tup_inv
      refine ⟨Nat.zero_le _, fun p hp => ?_⟩
      have g := Grow.new (o := HO.tup []) R1.ce.fh hp
      refine ⟨_, _, _, rfl, rfl, sqT_same (same_upd hp) (sqT_same R1.ce.fh ha), SqT.of upd_same, _, rfl, ?_⟩
      have e : vs.isEmpty = xs.isEmpty := (by have := ra.length; cases vs <;> cases xs <;> simp at this ⊢)
      rw [e]
      exact k _ ρ1 C1 _ _ (s1.trans g.ff) (R1.grow g) q
    · exact q.elim⟩
end
end M61

set_option Elab.async false
set_option linter.all false
set_option autoImplicit false
set_option maxRecDepth 100000
/-! M4k: a list of anything beside the empty one. -/
namespace M61
open PySem PySem.Spec PyProof.Rows L2
def rLse (K : PySem.W.Frag) (f : Bool → Bool) : R2 := fun x y H Q => ∃ a b xs, x = V.ref a ∧ y = V.ref b ∧ SqL K H a xs ∧ SqL K H b [] ∧ Q (.bl (f xs.isEmpty)) H
section
variable {X : Cx}
theorem lst_two {pins : List (Addr × Obj)} {s : Shared} {σ : L2.St} {H : Hp} {a : Addr} {xs : List V} (I : Inv X pins σ H s) (h : SqL X.K H a xs) : ∃ its : List Value, s.heap.IsList a its.toArray ∧ its.length = xs.length := by
  obtain ⟨its, rv, ht, _⟩ := I.list h
  exact ⟨its, ht.isList, rv.length.symm⟩
theorem op_lse (hu : X.A.units < cLine) : OpR X (compareOp .Eq) (rLse X.K id) := fun pins s σ H x y v u Q I rx ry ⟨a, b, xs, ex, ey, ha, hb, q⟩ => by
  subst ex ey
  cases rx; cases ry
  obtain ⟨i1, t1, z1⟩ := lst_two I ha
  obtain ⟨i2, t2, z2⟩ := lst_two I hb
  have e2 : i2.toArray.size = 0 := by simpa using z2
  cases xs with
  | nil =>
    have e1 : i1.toArray.size = 0 := by simpa using z1
    refine SeqAt.RcAt.lists (e := fun _ => true) t1 t2 (by rw [e1, e2]) hu (fun j h1 h2 => by omega) X.prog X.w _ _ ?_
    refine ⟨.bl true, H, I, ?_, q⟩
    rw [e1]; rfl
  | cons x r =>
    have e1 : i1.toArray.size = r.length + 1 := by simpa using z1
    refine SeqAt.RcAt.lists_lengths t1 t2 (by rw [e1, e2]; simp) hu X.prog X.w _ _ ?_
    exact ⟨.bl false, H, I, rfl, q⟩
theorem op_lsn (hu : X.A.units < cLine) : OpR X (compareOp .NotEq) (rLse X.K (!·)) := fun pins s σ H x y v u Q I rx ry ⟨a, b, xs, ex, ey, ha, hb, q⟩ => by
  subst ex ey
  cases rx; cases ry
  obtain ⟨i1, t1, z1⟩ := lst_two I ha
  obtain ⟨i2, t2, z2⟩ := lst_two I hb
  have e2 : i2.toArray.size = 0 := by simpa using z2
  cases xs with
  | nil =>
    have e1 : i1.toArray.size = 0 := by simpa using z1
    refine SeqAt.RcNeAt.lists (e := fun _ => true) t1 t2 (by rw [e1, e2]) hu (fun j h1 h2 => by omega) X.prog X.w _ _ ?_
    refine ⟨.bl false, H, I, ?_, q⟩
    rw [e1]; rfl
  | cons x r =>
    have e1 : i1.toArray.size = r.length + 1 := by simpa using z1
    refine SeqAt.RcNeAt.lists_lengths t1 t2 (by rw [e1, e2]; simp) hu X.prog X.w _ _ ?_
    exact ⟨.bl true, H, I, rfl, q⟩
theorem e_lse {f : Bool → Bool} {ma : ME} {e : Expr} (h : PE X e (tOp (rLse X.K f) (rd X.K ma) (tLst tNil))) :
    PE X e (rd X.K fun ρ C P => ma ρ C fun x ρ1 C1 => ∃ xs, lstD C1 x = some xs ∧ P (.bl (f xs.isEmpty)) ρ1 C1) := pe_weak h fun σ H Q ⟨B, F, ρ, C, P, R, m, k⟩ =>
  ⟨B, F, ρ, C, _, R, m, fun x ρ1 C1 F1 v1 H1 s1 R1 r1 ⟨xs, hx, q⟩ => by
    obtain ⟨a, vs, rfl, hl, ra⟩ := lstD_rel R1.ce r1 hx
    refine ⟨Nat.zero_le _, fun p hp => ?_⟩
    have hs := same_upd (o := HO.lst []) hp
    have R2 := (rel_fresh (vs := []) R1 hp).1
    refine ⟨_, _, _, rfl, rfl, .of (hs _ _ hl), .of upd_same, ?_⟩
    have e : vs.isEmpty = xs.isEmpty := (by have := ra.length; cases vs <;> cases xs <;> simp at this ⊢)
    rw [e]
    exact k _ ρ1 C1 F1 _ _ s1 R2 (.bl _) q⟩
theorem t_lse {f : Bool → Bool} {ma : ME} {e : Expr} (h : PT X e (tTest (tOp (rLse X.K f) (rd X.K ma) (tLst tNil)))) :
    PT X e (rdT X.K fun ρ C P => ma ρ C fun x ρ1 C1 => ∃ xs, lstD C1 x = some xs ∧ P (f xs.isEmpty) ρ1 C1) := pt_weak h fun σ H Q ⟨B, F, ρ, C, P, R, m, k⟩ =>
  ⟨B, F, ρ, C, _, R, m, fun x ρ1 C1 F1 v1 H1 s1 R1 r1 ⟨xs, hx, q⟩ => by
    obtain ⟨a, vs, rfl, hl, ra⟩ := lstD_rel R1.ce r1 hx
    refine ⟨Nat.zero_le _, fun p hp => ?_⟩
    have hs := same_upd (o := HO.lst []) hp
    have R2 := (rel_fresh (vs := []) R1 hp).1
    refine ⟨_, _, _, rfl, rfl, .of (hs _ _ hl), .of upd_same, _, rfl, ?_⟩
    have e : vs.isEmpty = xs.isEmpty := (by have := ra.length; cases vs <;> cases xs <;> simp at this ⊢)
    rw [e]
    exact k _ ρ1 C1 F1 _ s1 R2 q⟩
end
end M61

set_option Elab.async false
set_option linter.all false
set_option autoImplicit false
set_option maxRecDepth 100000
/-! M4l: sorted from the greatest down. -/
namespace M61
open PySem PySem.Spec PyProof.Rows L2
section
variable {X : Cx}
theorem sort_down {a b : List Int} (p : a.Perm b) (h : a.Pairwise (· ≥ ·)) : a = (sortI b).reverse := by
  have h1 : a.reverse.Pairwise (· ≤ ·) := List.pairwise_reverse.mpr h
  have h2 : a.reverse = sortI b := sort_uniq (a.reverse_perm.trans (p.trans (sortI_perm b).symm)) h1 (sortI_sorted b)
  rw [← h2, List.reverse_reverse]
def rDown (K : PySem.W.Frag) (r : D → (List D → Prop) → Prop) : List V → List V → Hp → VK → Prop := fun vs zs H Q => zs = [.bl true] ∧ liftF K r vs H Q
theorem c_sortedR : CallRK X (.builtin "sorted") [Str.ofString "reverse"] (rDown X.K fun d P => match d with | .lst xs => ∃ ns, intsOf xs = some ns ∧ P ((sortI ns).reverse.map D.int) | _ => False) := by
  intro pins s σ H xs zs us ws Q I r rz ⟨ez, F, v, d, P, e, sF, rv, m, k⟩
  subst e ez
  dsimp only at m
  split at m
  · obtain ⟨a, vs, rfl, ha, ra⟩ := rv.lst_inv
    obtain ⟨ns, hn, p⟩ := m
    rw [reps_ints ra hn] at ha
    refine cr_sortedRev (b := true) pins s σ H _ _ us ws Q I r rz ⟨a, ns, rfl, rfl, .of (sF _ _ ha), fun ns' q hp hs hq => ?_⟩
    have e : ns' = (sortI ns).reverse := sort_down hp hs
    rw [e]
    exact k _ q _ hq (rep_ints _) p
  · exact m.elim
theorem l_callK {r : D → (List D → Prop) → Prop} {ma : ME} {e : Expr} (h : PE X e (tCKw (rDown X.K r) (tCons (rd X.K ma) tNil) (tCons (tC (.bl true)) tNil))) : PE X e (rdL X.K fun ρ C P => ma ρ C fun x ρ1 C1 => r x fun ds => P ds ρ1 C1) := pe_weak h fun σ H Q ⟨B, F, ρ, C, P, R, m, k⟩ =>
  ⟨B, F, ρ, C, _, R, m, fun x ρ1 C1 F1 v1 H1 s1 R1 r1 q1 => ⟨rfl, F1, v1, x, _, rfl, R1.ce.fh, r1, q1, fun ds p vs hp rs p3 => by
    obtain ⟨R2, f1, f2, f3, f4⟩ := rel_fresh (vs := vs) R1 hp
    exact k _ ρ1 C1 F1 p vs _ s1 R2 upd_same rs f1 f2 f3 f4 p3⟩⟩
theorem kw_rev {p : Pos} {v : Expr} {kpos : Pos} : (backToKw p (keywordEach [⟨some (Str.ofString "reverse"), v, kpos⟩] X.env)).all (·.1.isSome) = true := rfl
end
end M61

set_option Elab.async false
set_option linter.all false
set_option autoImplicit false
set_option maxRecDepth 100000
/-! M4m: the greatest of numbers or else, great letters, a written dict asked, or by any value, tests of three links, lists made of a cell's numbers, a tuple sorted. -/
namespace M61
open PySem PySem.Spec PyProof.Rows L2
section
variable {X : Cx}
/-! ### max(.., default=..), min(.., default=..) -/
def rMxo (K : PySem.W.Frag) (g : List Int → Int) : List V → List V → Hp → VK → Prop := fun vs zs H Q => ∃ (F : Hp) (v u : V) (x y : D) (C : CM) (P : D → Prop), vs = [v] ∧ zs = [u] ∧ Cells K F H C ∧ Rep K F v x ∧ Rep K F u y ∧
  (∃ xs ns, seqD C x = some xs ∧ intsOf xs = some ns ∧ P (if ns = [] then y else .int (g ns))) ∧ ∀ d v', Rep K F v' d → P d → Q v' H
theorem c_maxo (hc : X.calm = true) (hr : Room 0 X.A) : CallRK X (.builtin "max") [Str.ofString "default"] (rMxo X.K maxI) := by
  intro pins s σ H xs zs us ws Q I r rz ⟨F, v, u, x, y, C, P, e1, e2, ce, r1, r2, ⟨ys, ns, h1, h2, p⟩, k⟩
  subst e1 e2
  have hu : X.A.units + 1 < cLine := by have := hr.un; omega
  obtain ⟨a, rfl, its, hi, hl⟩ := seq_ints I ce r1 h1 h2
  rw [Vals.ref1 r]
  obtain ⟨w1, rfl, rel⟩ := vals1 rz
  have hR := hi.reads s.heap
  have hD : X.A.units + 1 + PyData.depthAll (ns.map PyData.int) < cLine := by rw [depth_ints ns]; exact hu
  have g0 : ns.map PyData.int = [] → ∀ h' tk, (∀ b o, s.heap.get? b = some o → h'.get? b = some o) → EP X pins σ Q w1 { s with heap := h', toks := tk } := fun e h' tk hk => by
    have en : ns = [] := List.map_eq_nil_iff.mp e
    rw [if_pos en] at p
    exact ⟨u, H, I.kept hk, rel, k _ _ r2 p⟩
  have g1 : ∀ (y' : PyData) (ys' : List PyData) (i : Nat) v' h' tk bs, ns.map PyData.int = y' :: ys' → its.toArray[i]? = some v' → Reads h' v' (PySem.W.maxD y' ys') bs → (∀ b o, s.heap.get? b = some o → h'.get? b = some o) → EP X pins σ Q v' { s with heap := h', toks := tk } := fun y' ys' i v' h' tk bs e hv rd hk => by
    cases ns with
    | nil => cases e
    | cons n ns =>
      rw [List.map_cons] at e
      cases e
      rw [PySem.W.maxD_ints] at rd
      obtain ⟨t, rfl, _⟩ := reads_int_inv rd
      rw [if_neg (by simp)] at p
      exact ⟨.int _, H, I.kept hk, ⟨_, rfl⟩, k _ _ (.int _) p⟩
  rcases hl with hl | hl
  · exact PySem.W.max_list_default (I.ok.hd hc) hl (by simpa using hR) (alike_ints ns) hD g0 g1
  · exact PySem.W.max_tuple_default (I.ok.hd hc) hl (by simpa using hR) (alike_ints ns) hD g0 g1
theorem c_mino (hc : X.calm = true) (hr : Room 0 X.A) : CallRK X (.builtin "min") [Str.ofString "default"] (rMxo X.K minI) := by
  intro pins s σ H xs zs us ws Q I r rz ⟨F, v, u, x, y, C, P, e1, e2, ce, r1, r2, ⟨ys, ns, h1, h2, p⟩, k⟩
  subst e1 e2
  have hu : X.A.units + 1 < cLine := by have := hr.un; omega
  obtain ⟨a, rfl, its, hi, hl⟩ := seq_ints I ce r1 h1 h2
  rw [Vals.ref1 r]
  obtain ⟨w1, rfl, rel⟩ := vals1 rz
  have hR := hi.reads s.heap
  have hD : X.A.units + 1 + PyData.depthAll (ns.map PyData.int) < cLine := by rw [depth_ints ns]; exact hu
  have g0 : ns.map PyData.int = [] → ∀ h' tk, (∀ b o, s.heap.get? b = some o → h'.get? b = some o) → EP X pins σ Q w1 { s with heap := h', toks := tk } := fun e h' tk hk => by
    have en : ns = [] := List.map_eq_nil_iff.mp e
    rw [if_pos en] at p
    exact ⟨u, H, I.kept hk, rel, k _ _ r2 p⟩
  have g1 : ∀ (y' : PyData) (ys' : List PyData) (i : Nat) v' h' tk bs, ns.map PyData.int = y' :: ys' → its.toArray[i]? = some v' → Reads h' v' (PySem.W.minD y' ys') bs → (∀ b o, s.heap.get? b = some o → h'.get? b = some o) → EP X pins σ Q v' { s with heap := h', toks := tk } := fun y' ys' i v' h' tk bs e hv rd hk => by
    cases ns with
    | nil => cases e
    | cons n ns =>
      rw [List.map_cons] at e
      cases e
      rw [PySem.W.minD_ints] at rd
      obtain ⟨t, rfl, _⟩ := reads_int_inv rd
      rw [if_neg (by simp)] at p
      exact ⟨.int _, H, I.kept hk, ⟨_, rfl⟩, k _ _ (.int _) p⟩
  rcases hl with hl | hl
  · exact PySem.W.min_list_default (I.ok.hd hc) hl (by simpa using hR) (alike_ints ns) hD g0 g1
  · exact PySem.W.min_tuple_default (I.ok.hd hc) hl (by simpa using hR) (alike_ints ns) hD g0 g1
theorem e_mxo {g : List Int → Int} {ma mb : ME} {e : Expr} (h : PE X e (tCKw (rMxo X.K g) (tCons (rd X.K ma) tNil) (tCons (rd X.K mb) tNil))) :
    PE X e (rd X.K fun ρ C P => ma ρ C fun x ρ1 C1 => mb ρ1 C1 fun y ρ2 C2 => ∃ xs ns, seqD C2 x = some xs ∧ intsOf xs = some ns ∧ P (if ns = [] then y else .int (g ns)) ρ2 C2) := pe_weak h fun σ H Q ⟨B, F, ρ, C, P, R, m, k⟩ =>
  ⟨B, F, ρ, C, _, R, m, fun x ρ1 C1 F1 v1 H1 s1 R1 r1 q1 => ⟨B, F1, ρ1, C1, _, R1, q1, fun y ρ2 C2 F2 v2 H2 s2 R2 r2 q2 =>
    ⟨F2, v1, v2, x, y, C2, fun d => P d ρ2 C2, rfl, rfl, R2.ce, r1.mono s2, r2, q2, fun d v' r' p => k d ρ2 C2 F2 v' H2 (s1.trans s2) R2 r' p⟩⟩⟩
theorem kw_dfl {p : Pos} {v : Expr} {kpos : Pos} : (backToKw p (keywordEach [⟨some (Str.ofString "default"), v, kpos⟩] X.env)).all (·.1.isSome) = true := rfl
/-! ### great letters -/
theorem e_upr {ma : ME} {e : Expr} (h : PE X e (tBM0 X.K "str" (fun x xs H Q => ∃ a, x = .str a ∧ xs = [] ∧ a.length ≤ 5592405 ∧ Q (.str (Txt.upper a)) H) (rd X.K ma))) :
    PE X e (rd X.K fun ρ C P => ma ρ C fun x ρ1 C1 => match x with | .str s => s.length ≤ 5592405 ∧ P (.str (Txt.upper s)) ρ1 C1 | _ => False) := pe_weak h fun σ H Q ⟨B, F, ρ, C, P, R, m, k⟩ =>
  ⟨B, F, ρ, C, _, R, m, fun x ρ1 C1 F1 v1 H1 s1 R1 r1 q1 => by
    try dsimp only at q1
    split at q1
    · rename_i z
      cases r1
      exact ⟨rfl, z, rfl, rfl, q1.1, k _ ρ1 C1 F1 _ H1 s1 R1 (.str _) q1.2⟩
    · exact q1.elim⟩
/-! ### or, by any value -/
theorem e_orv {ma mb : ME} {e : Expr} (h : PE X e (tOrT X.K (rd X.K ma) (rd X.K mb))) :
    PE X e (rd X.K fun ρ C P => ma ρ C fun x ρ1 C1 => truD x fun k => if k = true then P x ρ1 C1 else mb ρ1 C1 P) := pe_weak h fun σ H Q ⟨B, F, ρ, C, P, R, m, k⟩ =>
  ⟨B, F, ρ, C, _, R, m, fun x ρ1 C1 F1 v1 H1 s1 R1 r1 q1 => by
    obtain ⟨b, hb, p⟩ := tru_of R1.ce.fh r1 q1
    refine ⟨b, hb, ?_⟩
    cases b with
    | true => exact k x ρ1 C1 F1 v1 H1 s1 R1 r1 p
    | false => exact ⟨B, F1, ρ1, C1, _, R1, p, fun d ρ2 C2 F2 v2 H2 s2 R2 r2 q2 => k d ρ2 C2 F2 v2 H2 (s1.trans s2) R2 r2 q2⟩⟩
/-! ### tests of three links -/
section
variable {a b d f : Expr} {pos : Pos}
theorem pt_chain3 {op op' op'' : CmpOp} {r r' r'' : R2} {ta tb tc td : TE} (ho : OpR X (compareOp op) r) (ho' : OpR X (compareOp op') r') (ho'' : OpR X (compareOp op'') r'') (ha : PE X a ta) (hb : PE X b tb) (hc : PE X d tc) (hd : PE X f td)
    (hm : lastMarks [op, op', op''] [b, d, f] = false) : PT X (.Compare a [op, op', op''] [b, d, f] pos) (tTest (tChain3 r r' r'' ta tb tc td)) := by
  refine ⟨fun pins s σ H Q I h => ?_⟩
  refine isTrue_chain (thn (ha.run pins s σ H _ I h) fun v1 s1 ⟨x1, H1, I1, r1, q1⟩ => test_link (thn (hb.run pins s1 σ H1 _ I1 q1) fun v2 s2 ⟨x2, H2, I2, r2, q2⟩ =>
    thn (ho pins s2 σ H2 x1 x2 v1 v2 _ I2 r1 r2 q2) fun t1 s3 ⟨y1, H3, I3, r3, k1, e1, q3⟩ => ?_)) hm
  subst e1
  cases r3
  refine wpAny_truthy_bool ?_
  cases k1 with
  | false =>
    obtain ⟨k', e', q'⟩ := q3
    cases e'
    exact ite_ff ⟨H3, I3, q'⟩
  | true =>
    refine ite_tt (test_link (thn (hc.run pins s3 σ H3 _ I3 q3) fun v3 s4 ⟨x3, H4, I4, r4, q4⟩ => thn (ho' pins s4 σ H4 x2 x3 v2 v3 _ I4 r2 r4 q4) fun t2 s5 ⟨y2, H5, I5, r5, k2, e2, q5⟩ => ?_))
    subst e2
    cases r5
    refine wpAny_truthy_bool ?_
    cases k2 with
    | false =>
      obtain ⟨k', e', q'⟩ := q5
      cases e'
      exact ite_ff ⟨H5, I5, q'⟩
    | true =>
      refine ite_tt (test_last (thn (hd.run pins s5 σ H5 _ I5 q5) fun v4 s6 ⟨x4, H6, I6, r6, q6⟩ => thn (ho'' pins s6 σ H6 x3 x4 v3 v4 _ I6 r4 r6 q6) fun t3 s7 ⟨y3, H7, I7, r7, k3, e3, q7⟩ => ?_))
      subst e3
      cases r7
      exact wpAny_truthy_bool ⟨H7, I7, q7⟩
end
theorem t_chn3 {r r' r'' : D → D → (Bool → Prop) → Prop} {ma mb mc md : ME} {e : Expr} (h : PT X e (tTest (tChain3 (lift2 X.K fun d e P => r d e fun b => P (.bl b)) (lift2 X.K fun d e P => r' d e fun b => P (.bl b)) (lift2 X.K fun d e P => r'' d e fun b => P (.bl b)) (rd X.K ma) (rd X.K mb) (rd X.K mc) (rd X.K md)))) :
    PT X e (rdT X.K fun ρ C P => ma ρ C fun x ρ1 C1 => mb ρ1 C1 fun y ρ2 C2 => r x y fun k => if k = true then mc ρ2 C2 fun z ρ3 C3 => r' y z fun k' => if k' = true then md ρ3 C3 fun u ρ4 C4 => r'' z u fun k'' => P k'' ρ4 C4 else P false ρ3 C3 else P false ρ2 C2) :=
  pt_weak h fun σ H Q ⟨B, F, ρ, C, P, R, m, k⟩ =>
  ⟨B, F, ρ, C, _, R, m, fun x ρ1 C1 F1 v1 H1 s1 R1 r1 q1 => ⟨B, F1, ρ1, C1, _, R1, q1, fun y ρ2 C2 F2 v2 H2 s2 R2 r2 q2 =>
    ⟨F2, x, y, blP fun k => if k = true then mc ρ2 C2 fun z ρ3 C3 => r' y z fun k' => if k' = true then md ρ3 C3 fun u ρ4 C4 => r'' z u fun k'' => P k'' ρ4 C4 else P false ρ3 C3 else P false ρ2 C2, R2.ce.fh, r1.mono s2, r2, q2, fun d F3 v3 H3 g r3 p3 => by
      obtain ⟨b, rfl, rfl, p3⟩ := blP_inv r3 p3
      refine ⟨b, rfl, ?_⟩
      cases b with
      | false => exact ⟨false, rfl, k _ ρ2 C2 F3 H3 (s1.trans (s2.trans g.ff)) (R2.grow g) p3⟩
      | true => exact ⟨B, F3, ρ2, C2, _, R2.grow g, p3, fun z ρ3 C3 F4 v4 H4 s4 R4 r4 q4 => ⟨F4, y, z, blP fun k' => if k' = true then md ρ3 C3 fun u ρ4 C4 => r'' z u fun k'' => P k'' ρ4 C4 else P false ρ3 C3, R4.ce.fh, (r2.mono g.ff).mono s4, r4, q4, fun d F5 v5 H5 g5 r5 p5 => by
          obtain ⟨b, rfl, rfl, p5⟩ := blP_inv r5 p5
          refine ⟨b, rfl, ?_⟩
          cases b with
          | false => exact ⟨false, rfl, k _ ρ3 C3 F5 H5 (s1.trans (s2.trans (g.ff.trans (s4.trans g5.ff)))) (R4.grow g5) p5⟩
          | true => exact ⟨B, F5, ρ3, C3, _, R4.grow g5, p5, fun u ρ6 C6 F6 v6 H6 s6 R6 r6 q6 => ⟨F6, z, u, blP fun k'' => P k'' ρ6 C6, R6.ce.fh, (r4.mono g5.ff).mono s6, r6, q6, fun d F7 v7 H7 g7 r7 p7 => by
              obtain ⟨b, rfl, rfl, p7⟩ := blP_inv r7 p7
              exact ⟨b, rfl, k _ ρ6 C6 F7 H7 (s1.trans (s2.trans (g.ff.trans (s4.trans (g5.ff.trans (s6.trans g7.ff)))))) (R6.grow g7) p7⟩⟩⟩⟩⟩⟩⟩⟩
/-! ### a written dict of numbers asked -/
/-- its entries -/
def EntsAre : List (String × Int) → List DictEntry → Prop
  | [], [] => True
  | (k, i) :: r, e :: es => (∃ t, e.key = .str (Str.ofString k) t) ∧ (∃ u, e.val = .int i u) ∧ EntsAre r es
  | _, _ => False
def WDct (K : PySem.W.Frag) (w : World) (a : Addr) (kvs : List (String × Int)) : Prop :=
  ∃ es n, K.lookup a = some ⟨.type "dict", none, .dict es n, #[]⟩ ∧ PySem.W.KeysLit w.params es.toList ∧ (a == sysModules) = false ∧ EntsAre kvs es.toList
/-- what it gives, as a value -/
def ggetV (kvs : List (String × Int)) (s : Str) : V := match (kvs.find? fun kv => decide (Str.ofString kv.1 = s)) with
  | some kv => .int kv.2
  | none => .non
theorem ents_find (s : Str) : ∀ {kvs : List (String × Int)} {es : List DictEntry}, EntsAre kvs es → RelV (ggetV kvs s) (((es.find? fun e => Value.isStrOf s e.key).map (·.val)).getD .none)
  | [], [], _ => rfl
  | (k, i) :: r, e :: es, ⟨⟨t, e1⟩, ⟨u, e2⟩, h⟩ => by
    by_cases q : Str.ofString k = s
    · have h1 : Value.isStrOf s e.key = true := by rw [e1, q]; exact beq_self_eq_true _
      rw [List.find?_cons, h1]
      show RelV (ggetV ((k, i) :: r) s) e.val
      rw [e2, show ggetV ((k, i) :: r) s = V.int i from by unfold ggetV; rw [List.find?_cons, show decide (Str.ofString k = s) = true from decide_eq_true q]]
      exact ⟨u, rfl⟩
    · have h1 : Value.isStrOf s e.key = false := by
        rw [e1]
        show (Str.ofString k == s) = false
        simpa using q
      rw [List.find?_cons, h1]
      rw [show ggetV ((k, i) :: r) s = ggetV r s from by unfold ggetV; rw [List.find?_cons, show decide (Str.ofString k = s) = false from decide_eq_false q]]
      exact ents_find s h
  | [], _ :: _, h => h.elim
  | _ :: _, [], h => h.elim
theorem rep_gget (K : PySem.W.Frag) (F : Hp) (kvs : List (String × Int)) (s : Str) : Rep K F (ggetV kvs s) (ggetD kvs s) := by
  unfold ggetV ggetD
  cases (kvs.find? fun kv => decide (Str.ofString kv.1 = s)) with
  | some kv => exact .int _
  | none => exact .non
def tGGet (kvs : List (String × Int)) (te : TE) : TE := fun σ H Q => te σ H fun y H1 => ∃ z, y = .str z ∧ Q (ggetV kvs z) H1
theorem pe_gget {o e : Expr} {apos cpos : Pos} {kvs : List (String × Int)} {te : TE} {a : Addr} (ho : PE X o (tC (.ref a))) (d : WDct X.K X.w a kvs) (he : PE X e te) (m : M1 X o "get" apos e cpos) : PE X (.Call (.Attribute o "get" apos) [e] [] cpos) (tGGet kvs te) := by
  obtain ⟨es, n, hl, hk, hs, ea⟩ := d
  refine ⟨fun pins s σ H Q I h => ?_⟩
  refine wpAny_Call_method m.base m.few m.line PySem.F.plainAttrs_dict PySem.F.slot_dict_get PySem.F.type_dict_get (thn (ho.run pins s σ H (fun x H1 => x = .ref a ∧ H1 = H) I ⟨rfl, rfl⟩) fun u s1 ⟨x, H1, I1, rx, ex, e1⟩ => ?_)
  subst ex e1
  obtain rfl : u = Value.ref a := rx
  have hm := PySem.W.mapOf_K (prog := X.prog) (w := X.w) I1.kIn hl hk
  refine ⟨hm.typeIs, fun b q => ?_, ?_⟩
  · cases q
    exact ⟨_, I1.kIn _ _ hl, rfl⟩
  rw [m.trees]
  refine Calls.callWith_builtin rfl (Calls.evalArgs_plain (Calls.spliced_cons (thn (he.run pins s1 σ H1 _ I1 h) fun iv s2 ⟨y, H2, I2, ry, z, ez, q2⟩ => Calls.spliced_nil ?_)))
  subst ez
  obtain ⟨t, rfl⟩ := (show ∃ t, iv = Value.str z t from ry)
  have hm2 := PySem.W.mapOf_K (prog := X.prog) (w := X.w) I2.kIn hl hk
  refine call_meetsIn PySem.F.slot_dict_get hm2.typeIs PySem.F.entry_dict_get (PySem.F.args_dict_get_2 _ _) (meets_dict_get (strKind X.prog X.w) a (strKind_is X.prog X.w z t) hs) ⟨_, hm2, ggetV kvs z, H2, I2.tok _, ?_, q2⟩
  have q := ents_find z ea
  unfold findBy
  rw [← Array.find?_toList]
  exact q
theorem e_gget {kvs : List (String × Int)} {ma : ME} {e : Expr} (h : PE X e (tGGet kvs (rd X.K ma))) :
    PE X e (rd X.K fun ρ C P => ma ρ C fun x ρ1 C1 => match x with | .str s => P (ggetD kvs s) ρ1 C1 | _ => False) := pe_weak h fun σ H Q ⟨B, F, ρ, C, P, R, m, k⟩ =>
  ⟨B, F, ρ, C, _, R, m, fun x ρ1 C1 F1 v1 H1 s1 R1 r1 q1 => by
    try dsimp only at q1
    split at q1
    · rename_i z
      cases r1
      exact ⟨z, rfl, k _ ρ1 C1 F1 _ H1 s1 R1 (rep_gget _ _ _ _) q1⟩
    · exact q1.elim⟩
/-! ### a comprehension over a cell's numbers -/
theorem compC_at {a : Addr} {ns : List Int} {turn : D → CM → (Option D → CM → Prop) → Prop} {ds : List Int} {acc : List D} {C : CM} {P : List D → CM → Prop} (h : compGoC a ns turn ds acc C P) : C a = some (.lst (ns.map .int)) := by
  cases ds with
  | nil => exact h.1
  | cons d ds => exact h.1
theorem te_compc {me0 : ME} {tg : Tg} {mc : MT} {me : ME} {vs : List Nat} (hsub : ∀ i ∈ tgSlots tg, i ∈ vs) : ∀ (σ : L2.St) (H : Hp) (Q : VK), rdL X.K (fun ρ C P => me0 ρ C fun x ρ1 C1 => match x with
      | .ref a => ∃ ns : List Int, compGoC a ns (compTurn tg mc me vs ρ1) ns [] C1 fun acc C4 => P acc ρ1 C4
      | _ => False) σ H Q →
    tLc (iSeq X.K (rd X.K me0)) (rg X.K tg) (rdT X.K mc) (rd X.K me) vs σ H Q := fun σ H Q ⟨B, F, ρ, C, P, R, m, k⟩ =>
  ⟨B, F, ρ, C, _, R, m, fun x ρ1 C1 F1 v1 H1 s1 R1 r1 q1 => by
    try dsimp only at q1
    split at q1
    · rename_i a
      obtain ⟨ns, q1⟩ := q1
      cases r1
      have atC : ∀ {F2 : Hp} {H2 : Hp} {C2 : CM}, Cells X.K F2 H2 C2 → C2 a = some (.lst (ns.map .int)) → H2 a = some (HO.lst (ns.map V.int)) ∧ Reps X.K F2 (ns.map V.int) (ns.map .int) := fun ce hc => by
        obtain ⟨us, hl, ra⟩ := (ce.cel _ _ hc).1
        have e := reps_nums ra
        subst e
        exact ⟨hl, ra⟩
      obtain ⟨hl1, ra1⟩ := atC R1.ce (compC_at q1)
      refine ⟨a, ns.map V.int, rfl, .inl ⟨.of hl1, fun D hD => ?_⟩⟩
      have bn := R1.base_none hD
      have no := R1.notOwn_of hD
      have nda : a ≠ D := fun z => by subst z; rw [hl1] at hD; cases hD
      refine lc_it walk_list (fun i H => ∃ F2 C2 acc vacc, Same F1 F2 ∧ Rel X.K B F2 σ H ρ1 C2 ∧ H D = some (HO.lst vacc) ∧ Reps X.K F2 vacc acc ∧ F2 D = none ∧ C2 D = none ∧
        compGoC a ns (compTurn tg mc me vs ρ1) (ns.drop i) acc C2 fun acc C4 => P acc ρ1 C4) ?_ (fun i H _ ⟨F2, C2, acc, vacc, s2, R2, _, _, _, _, q2⟩ => .of (atC R2.ce (compC_at q2)).1) (fun i x H H' hi pv y => ?_) (fun H pv => ?_)
      · obtain ⟨R2, f1, f2, f3, f4⟩ := rel_fresh (vs := []) R1 hD
        exact ⟨F1, C1, [], [], Same.refl _, R2, upd_same, .nil, f1, f2, q1⟩
      · obtain ⟨F2, C2, acc, vacc, s2, R2, hl, ra, n1, n2, q2⟩ := pv
        obtain ⟨F3, d, g, hd, rd⟩ := it_at ra1 s2 R2.ce.fh y
        rw [List.getElem?_map] at hd
        obtain ⟨nd, hnd, rfl⟩ := Option.map_eq_some_iff.mp hd
        have ed : ns.drop i = nd :: ns.drop (i + 1) := by
          obtain ⟨h1, h2⟩ := List.getElem?_eq_some_iff.mp hnd
          rw [← h2]; exact List.drop_eq_getElem_cons h1
        rw [ed] at q2
        have R3 := R2.grow g
        have hl3 : H' D = some (HO.lst vacc) := g.hh _ _ hl
        have n3 : F3 D = none := by
          cases z : F3 D with
          | none => rfl
          | some u =>
            rcases g.fnew D u z with z | z
            · rw [n1] at z; cases z
            · rw [hl] at z; cases z
        have nown : ¬ OwnAt (wipeR ρ1 vs) (wipe σ vs) D := fun ⟨j, ys, q1, q2⟩ => by
          obtain ⟨q3, nj⟩ := wipeR_some q1
          rw [wipe_outS nj] at q2
          exact no j ys q3 q2
        refine ⟨_, F3, wipeR ρ1 vs, C2, .int nd, _, (R3.wiped vs).rebase, rd, q2.2, fun ρ2 σ2 R4 o4 q4 => ?_⟩
        have o5 : σ2.length = σ.length ∧ ∀ i, i ∉ vs → ρ2[i]? = ρ1[i]? ∧ σ2[i]? = σ[i]? := by
          obtain ⟨o1, o2⟩ := o4.mono hsub
          exact ⟨o1.trans (wipe_length _ _), fun i hi => ⟨(o2 i hi).1.trans (wipeR_out hi), (o2 i hi).2.trans (wipe_outS hi)⟩⟩
        refine ⟨wipe_eq o5.1 fun i hi => (o5.2 i hi).2, _, F3, ρ2, C2, _, R4, q4, fun b ρ3 C3 F5 H5 s5 R5 ⟨e3, q5⟩ => ?_⟩
        subst e3
        cases b with
        | false =>
          obtain ⟨k1, k2, k3⟩ := R5.keep hl3 n3 n2 nown
          exact ⟨F5, C3, acc, vacc, s2.trans (g.ff.trans s5), R3.back R5 o5.2, k1, ra.mono (g.ff.trans s5), k2, k3, q5⟩
        | true =>
          refine ⟨_, F5, ρ3, C3, _, R5, q5, fun y ρ4 C4 F6 v6 H6 s6 R6 r6 ⟨e4, q6, q7⟩ => ?_⟩
          subst e4
          obtain ⟨k1, k2, k3⟩ := R6.keep hl3 n3 n2 nown
          have s7 : Same F2 F6 := g.ff.trans (s5.trans s6)
          refine ⟨vacc, k1, by rw [ra.length]; exact q6, F6, C4, acc ++ [y], vacc ++ [v6], s2.trans s7, (R3.back R6 o5.2).updFree k2 k3 bn no, upd_same, (ra.mono s7).append (.cons r6 .nil), k2, k3, q7⟩
      · obtain ⟨F2, C2, acc, vacc, s2, R2, hl, ra, n1, n2, q2⟩ := pv
        rw [show ns.drop (ns.map V.int).length = [] by rw [List.length_map, List.drop_length]] at q2
        exact k acc ρ1 C2 F2 D vacc H (s1.trans s2) R2 hl ra n1 n2 bn no q2.2
    · exact q1.elim⟩
end
end M61

set_option Elab.async false
set_option linter.all false
set_option autoImplicit false
set_option maxRecDepth 100000
/-! M5a: whether the text says what the inner form says. -/
namespace M61
open PySem PySem.Spec PyProof.Rows L2

structure Cfg where
  N : List Str
  sc : Scope
  /-- the block that runs, where it isn't the def's own -/
  blk : Option Scope
  sigs : List (String × Nat)
  cons : List (String × Int)
  txts : List (String × String)
  dcts : List (String × List (String × Int))
def visB (sc : Scope) (x : Str) : Bool := match sc.names.lookup x with
  | some .local => true | some .cell => true | some .free => true | _ => false
def locB (c : Cfg) (x : Str) : Bool := match c.sc.names.lookup x with
  | some .local => true
  | some .cell => (match c.blk with | none => true | some s => s.names.lookup x == some .cell)
  | _ => false
def glB (sc : Scope) (x : Str) : Bool := decide (sc.names.lookup x = some .globalImplicit)
def plainNm (x : Str) : Bool := !(x == ("__debug__" : Str)) && !(x == ("__classdict__" : Str)) && !(x == ("__name__" : Str))
def isNm (s : String) (x : Str) : Bool := decide (x = Str.ofString s)
def notStar : Expr → Bool
  | .Starred .. => false
  | _ => true
def notSlice : Expr → Bool
  | .Slice .. => false
  | _ => true
def attrOk : Expr → Bool
  | .Call (.Name ..) [] [] _ => false
  | _ => true
def plainTest : Expr → Bool
  | .UnaryOp .Not _ _ => false
  | .BoolOp .. => false
  | .IfExp .. => false
  | .Compare .. => false
  | _ => true
def chkVar (c : Cfg) (i : Nat) : Expr → Bool
  | .Name x _ => decide (c.N[i]? = some x) && visB c.sc x && plainNm x
  | _ => false
/-- a built-in's name -/
def chkG (c : Cfg) (s : String) : Expr → Bool
  | .Name x _ => isNm s x && glB c.sc x && plainNm x
  | _ => false
def bltName : Blt → String
  | .len => "len" | .tuple => "tuple" | .sum => "sum" | .min => "min" | .max => "max" | .min2 => "min" | .max2 => "max" | .abs => "abs" | .int => "int" | .all => "all" | .any => "any" | .repr => "repr" | .min3 => "min" | .str => "str" | .mind => "min" | .maxd => "max" | .min2d => "min"
/-- the built-ins that are spoken of -/
def usedB : List String := ["len", "tuple", "sum", "min", "max", "abs", "int", "all", "any", "isinstance", "bool", "list", "str", "dict", "range", "enumerate", "zip", "reversed", "sorted", "repr"]
mutual
def chkTg (c : Cfg) : Tg → Expr → Bool
  | .nm i, .Name x _ => decide (c.N[i]? = some x) && locB c x
  | .tp ts, .Tuple es _ _ => chkTgs c ts es
  | _, _ => false
def chkTgs (c : Cfg) : Tgs → List Expr → Bool
  | .nil, [] => true
  | .cons t ts, e :: es => chkTg c t e && chkTgs c ts es
  | _, _ => false
end
def isTupE : Expr → Bool
  | .Tuple .. => true
  | _ => false
def chkKV : List (String × String) → List (Option Expr) → List Expr → Bool
  | [], [], [] => true
  | (k, v) :: r, some (.Constant (.str x) _ _) :: ks, .Constant (.str y) _ _ :: vs => isNm k x && isNm v y && chkKV r ks vs
  | _, _, _ => false
def chkKs : List String → List (Option Expr) → Bool
  | [], [] => true
  | k :: r, some (.Constant (.str x) _ _) :: ks => isNm k x && chkKs r ks
  | _, _ => false
/-- a written key -/
def keyB : Int ⊕ String → Const → Bool
  | .inl i, .int j => decide (i = j)
  | .inr s, .str x => isNm s x
  | _, _ => false
mutual
def chkE (c : Cfg) : E → Expr → Bool
  | .var i, e => chkVar c i e
  | .mv i, e => chkVar c i e
  | .non, .Constant .none _ _ => true
  | .bl b, .Constant (.bool b') _ _ => b == b'
  | .int i, .Constant (.int i') _ _ => decide (i = i')
  | .str s, .Constant (.str x) _ _ => isNm s x
  | .con x i, .Name y _ => isNm x y && glB c.sc y && plainNm y && c.cons.contains (x, i)
  | .cns x s, .Name y _ => isNm x y && glB c.sc y && plainNm y && c.txts.contains (x, s)
  | .bin o a b, .BinOp l op r _ => decide (op = popOf o) && chkE c a l && chkE c b r
  | .neg a, .UnaryOp .USub x _ => chkE c a x
  | .cmp o a b, .Compare l [op] [r] _ => decide (op = copOf o) && chkE c a l && chkE c b r && !behindInMarks op r
  | .chn o o' a b d, .Compare l [op, op'] [m, r] _ => decide (op = copOf o) && decide (op' = copOf o') && chkE c a l && chkE c b m && chkE c d r && !lastMarks [op, op'] [m, r]
  | .chn3 o o' o'' a b d f, .Compare l [op, op', op''] [m, r, q] _ => decide (op = copOf o) && decide (op' = copOf o') && decide (op'' = copOf o'') && chkE c a l && chkE c b m && chkE c d r && chkE c f q && !lastMarks [op, op', op''] [m, r, q]
  | .dlk kvs a, .Subscript (.Dict ks vs _) s _ => chkKV kvs ks vs && chkE c a s && notSlice s && decide (kvs ≠ []) && decide (kvs.length ≤ 15)
  | .celd ks es, .Dict keys vals _ => chkKs ks keys && chkEs c es vals && decide (ks ≠ []) && decide (ks.length ≤ 15) && decide (keys.length = vals.length)
  | .edic, .Dict [] [] _ => true
  | .ndic k a, .Dict [some (.Constant w _ _)] [v] _ => keyB k w && chkE c a v
  | .dix a k, .Subscript v (.Constant (.str x) _ _) _ => chkE c a v && isNm k x
  | .and a b, .BoolOp .And [x, y] _ => chkE c a x && chkE c b y
  | .and a b, .BoolOp .And (x :: y :: z :: r) p => chkE c a x && chkE c b (.BoolOp .And (y :: z :: r) p)
  | .or a b, .BoolOp .Or [x, y] _ => chkE c a x && chkE c b y
  | .or a b, .BoolOp .Or (x :: y :: z :: r) p => chkE c a x && chkE c b (.BoolOp .Or (y :: z :: r) p)
  | .not a, .UnaryOp .Not x _ => chkE c a x
  | .ife t a b, .IfExp p x y _ => chkT c t p && chkE c a x && chkE c b y
  | .tup es, .Tuple xs _ _ => chkEs c es xs
  | .frz l, e => chkL c l e
  | .cel l, e => chkL c l e
  | .ix a b, .Subscript v s _ => chkE c a v && chkE c b s && notSlice s
  | .sl a lo hi, .Subscript v (.Slice l h none _) _ => chkE c a v && chkO c lo l && chkO c hi h
  | .rev a, .Subscript v (.Slice none none (some (.UnaryOp .USub (.Constant (.int k) _ _) _)) _) _ => chkE c a v && decide (k = 1)
  | .call f es, .Call (.Name x _) xs [] _ => isNm f x && glB c.sc x && plainNm x && c.sigs.contains (f, xs.length) && chkEs c es xs
  | .blt f es, .Call n xs [] _ => chkG c (bltName f) n && chkEs c es xs && decide (xs ≠ [])
  | .isi a t, .Call n [x, y] [] _ => chkG c "isinstance" n && chkE c a x && notStar x && chkG c (tyName t) y
  | .oix i b, .Subscript v s _ => chkVar c i v && chkE c b s && notSlice s
  | .olen i, .Call n [v] [] _ => chkG c "len" n && chkVar c i v
  | .one i, .Compare v [.NotEq] [.List [] _] _ => chkVar c i v
  | .oem i, .Compare v [.Eq] [.List [] _] _ => chkVar c i v
  | .lne a, .Compare v [.NotEq] [.List [] _] _ => chkE c a v
  | .leq a, .Compare v [.Eq] [.List [] _] _ => chkE c a v
  | .cne a, .Compare v [.NotEq] [.List [] _] _ => chkE c a v
  | .ceq a, .Compare v [.Eq] [.List [] _] _ => chkE c a v
  | .opop i, .Call (.Attribute v m ap) [] [] cp => chkVar c i v && isNm "pop" m && (ap.endLine == cp.line)
  | .cpop o, .Call (.Attribute v m ap) [] [] cp => chkE c o v && attrOk v && isNm "pop" m && (ap.endLine == cp.line)
  | .cpopA o k, .Call (.Attribute v m ap) [e] [] cp => chkE c o v && attrOk v && isNm "pop" m && (ap.endLine == cp.line) && chkE c k e && notStar e
  | .indx a b, .Call (.Attribute v m ap) [e] [] cp => chkE c a v && attrOk v && isNm "index" m && (ap.endLine == cp.line) && chkE c b e && notStar e
  | .mxo k a b, .Call n [x] [⟨some nm, y, _⟩] _ => chkG c (if k = true then "max" else "min") n && chkE c a x && notStar x && isNm "default" nm && chkE c b y
  | .gget x kvs a, .Call (.Attribute (.Name y _) m ap) [e] [] cp => isNm x y && glB c.sc y && plainNm y && c.dcts.contains (x, kvs) && isNm "get" m && (ap.endLine == cp.line) && chkE c a e && notStar e
  | .upr a, .Call (.Attribute v m ap) [] [] cp => chkE c a v && attrOk v && isNm "upper" m && (ap.endLine == cp.line)
  | .orv a b, .BoolOp .Or [x, y] _ => chkE c a x && chkE c b y
  | .orv a b, .BoolOp .Or (x :: y :: z :: r) p => chkE c a x && chkE c b (.BoolOp .Or (y :: z :: r) p)
  | _, _ => false
def chkT (c : Cfg) : T → Expr → Bool
  | .and a b, .BoolOp .And [x, y] _ => chkT c a x && chkT c b y
  | .and a b, .BoolOp .And (x :: y :: z :: r) p => chkT c a x && chkT c b (.BoolOp .And (y :: z :: r) p)
  | .or a b, .BoolOp .Or [x, y] _ => chkT c a x && chkT c b y
  | .or a b, .BoolOp .Or (x :: y :: z :: r) p => chkT c a x && chkT c b (.BoolOp .Or (y :: z :: r) p)
  | .not a, .UnaryOp .Not x _ => chkT c a x
  | .cmp o a b, .Compare l [op] [r] _ => decide (op = copOf o) && chkE c a l && chkE c b r && !behindInMarks op r
  | .chn o o' a b d, .Compare l [op, op'] [m, r] _ => decide (op = copOf o) && decide (op' = copOf o') && chkE c a l && chkE c b m && chkE c d r && !lastMarks [op, op'] [m, r]
  | .chn3 o o' o'' a b d f, .Compare l [op, op', op''] [m, r, q] _ => decide (op = copOf o) && decide (op' = copOf o') && decide (op'' = copOf o'') && chkE c a l && chkE c b m && chkE c d r && chkE c f q && !lastMarks [op, op', op''] [m, r, q]
  | .one i, .Compare v [.NotEq] [.List [] _] _ => chkVar c i v
  | .oem i, .Compare v [.Eq] [.List [] _] _ => chkVar c i v
  | .tne a, .Compare v [.NotEq] [.Tuple [] _ _] _ => chkE c a v
  | .teq a, .Compare v [.Eq] [.Tuple [] _ _] _ => chkE c a v
  | .lne a, .Compare v [.NotEq] [.List [] _] _ => chkE c a v
  | .leq a, .Compare v [.Eq] [.List [] _] _ => chkE c a v
  | .cne a, .Compare v [.NotEq] [.List [] _] _ => chkE c a v
  | .ceq a, .Compare v [.Eq] [.List [] _] _ => chkE c a v
  | .val a, e => chkE c a e && plainTest e
  | _, _ => false
def chkEs (c : Cfg) : Es → List Expr → Bool
  | .nil, [] => true
  | .cons a as, e :: es => chkE c a e && notStar e && chkEs c as es
  | _, _ => false
def chkO (c : Cfg) : O → Option Expr → Bool
  | .no, none => true
  | .yes a, some e => chkE c a e
  | _, _ => false
def chkC (c : Cfg) : Oc → List Expr → Bool
  | .no, [] => true
  | .yes a, [e] => chkT c a e
  | _, _ => false
def chkL (c : Cfg) : L → Expr → Bool
  | .lit es, .List xs _ => chkEs c es xs
  | .comp own elt tg it t, .ListComp el [⟨ta, ie, ifs, 0⟩] scope _ =>
    let nm := own.filterMap fun i => c.N[i]?.map fun x => (x, i)
    let c' : Cfg := { c with sc := relS scope c.sc, blk := some scope }
    chkI c it ta ie && blkC c.N c.sc scope nm && decide (nm.map (·.2) = own) && (tgSlots tg).all (fun i => own.contains i) && chkTg c' tg ta && chkC c' t ifs && chkE c' elt el && notSet ie
  | .compc own elt tg e t, .ListComp el [⟨ta, ie, ifs, 0⟩] scope _ =>
    let nm := own.filterMap fun i => c.N[i]?.map fun x => (x, i)
    let c' : Cfg := { c with sc := relS scope c.sc, blk := some scope }
    chkE c e ie && blkC c.N c.sc scope nm && decide (nm.map (·.2) = own) && (tgSlots tg).all (fun i => own.contains i) && chkTg c' tg ta && chkC c' t ifs && chkE c' elt el && notSet ie
  | .list e, .Call n [x] [] _ => chkG c "list" n && chkE c e x && notStar x
  | .srt e, .Call n [x] [] _ => chkG c "sorted" n && chkE c e x && notStar x
  | .srr e, .Call n [x] [⟨some nm, .Constant (.bool b) _ _, _⟩] _ => chkG c "sorted" n && chkE c e x && notStar x && isNm "reverse" nm && b
  | .lrg1 a, .Call n [.Call m [x] [] _] [] _ => chkG c "list" n && chkG c "range" m && chkE c a x && notStar x
  | .lrg2 a b, .Call n [.Call m [x, y] [] _] [] _ => chkG c "list" n && chkG c "range" m && chkE c a x && notStar x && chkE c b y && notStar y
  | .lrv a, .Subscript v (.Slice none none (some (.UnaryOp .USub (.Constant (.int k) _ _) _)) _) _ => chkE c a v && decide (k = 1)
  | .ls2 a, .Subscript v (.Slice (some (.UnaryOp .USub (.Constant (.int k') _ _) _)) none (some (.UnaryOp .USub (.Constant (.int k) _ _) _)) _) _ => chkE c a v && decide (k' = 2) && decide (k = 1)
  | .rep a b, .BinOp l .Mult r _ => chkE c a l && chkE c b r
  | .cat a b, .BinOp l .Add r _ => chkE c a l && chkE c b r
  | .rvd a, .Call n [.Call m [x] [] _] [] _ => chkG c "list" n && chkG c "reversed" m && chkE c a x && notStar x
  | _, _ => false
def chkI (c : Cfg) : I → Expr → Expr → Bool
  | .seq a, _, e => chkE c a e
  | .rng1 a, _, .Call n [x] [] _ => chkG c "range" n && chkE c a x && notStar x
  | .rng2 a b, _, .Call n [x, y] [] _ => chkG c "range" n && chkE c a x && notStar x && chkE c b y && notStar y
  | .rng3 a b d, _, .Call n [x, y, z] [] _ => chkG c "range" n && chkE c a x && notStar x && chkE c b y && notStar y && chkE c d z && notStar z
  | .enum a, .Tuple .., .Call n [x] [] _ => chkG c "enumerate" n && chkE c a x && notStar x
  | .zip a b, .Tuple .., .Call n [x, y] [] _ => chkG c "zip" n && chkE c a x && notStar x && chkE c b y && notStar y
  | .zip3 a b d, .Tuple .., .Call n [x, y, z] [] _ => chkG c "zip" n && chkE c a x && notStar x && chkE c b y && notStar y && chkE c d z && notStar z
  | .rvs a, _, .Call n [x] [] _ => chkG c "reversed" n && chkE c a x && notStar x
  | .rvr a b, _, .Call n [.Call m [x, y] [] _] [] _ => chkG c "reversed" n && chkG c "range" m && chkE c a x && notStar x && chkE c b y && notStar y
  | .rvr1 a, _, .Call n [.Call m [x] [] _] [] _ => chkG c "reversed" n && chkG c "range" m && chkE c a x && notStar x
  | _, _, _ => false
def notSet : Expr → Bool
  | .Set .. => false
  | _ => true
end
/-- no comprehension that is stored at once -/
def notComp : Expr → Bool
  | .ListComp .. => false
  | .SetComp .. => false
  | .DictComp .. => false
  | _ => true
/-- a comprehension that is stored at once: its name a local, on the same line -/
def swB (c : Cfg) (x : Str) (px : Pos) : Expr → Bool
  | .ListComp _ _ scope p => decide (c.sc.names.lookup x = some .local) && (px.line == p.line) && !(scope.names.any fun (n, k) => n == x && (k == .local || k == .cell))
  | _ => false
/-- .. or it isn't -/
def noSw (c : Cfg) (x : Str) (px : Pos) : Expr → Bool
  | .ListComp _ _ scope p => decide (c.sc.names.lookup x = some .cell) || !(px.line == p.line)
  | e => notComp e
def locL (c : Cfg) (x : Str) : Bool := decide (c.sc.names.lookup x = some .local)
/-- a display whose parts are stored one by one -/
def parV (vs : List Expr) : Bool := !(vs.all (foldedForSure 8)) && !(vs.all (constantsAlone 8))
def unpOk : Expr → Expr → Bool
  | .Tuple ts _ _, .Tuple vs _ _ => !(ts.length == 2 || ts.length == 3) || (vs.all (foldedForSure 8) && vs.all notStar)
  | .Tuple .., .ListComp .. => true
  | .Tuple .., e => notComp e
  | _, _ => false
/-- a target's name that is a cell -/
def cellNm (c : Cfg) : Expr → Bool
  | .Name x _ => decide (c.sc.names.lookup x = some .cell)
  | _ => false
/-- .. made a tuple, where a target's name is a cell -/
def unpCell (c : Cfg) : Expr → Expr → Bool
  | .Tuple ts _ _, .Tuple _ _ _ => ts.any (cellNm c)
  | _, _ => false
mutual
def chkS (c : Cfg) : S → Stmt → Bool
  | .set i a, .Assign [.Name x px] e _ => decide (c.N[i]? = some x) && locB c x && chkE c a e && notComp e
  | .setF i l, .Assign [.Name x px] e _ => decide (c.N[i]? = some x) && locB c x && chkL c l e && (swB c x px e || noSw c x px e)
  | .own i l, .Assign [.Name x px] e _ => decide (c.N[i]? = some x) && locB c x && chkL c l e && (swB c x px e || noSw c x px e)
  | .unp tg a, .Assign [t] e _ => chkTg c tg t && chkE c a e && (unpOk t e || unpCell c t e)
  | .par2 i j es, .Assign [.Tuple [.Name x px, .Name y py] _ _] (.Tuple [a, b] _ _) _ => decide (c.N[i]? = some x) && decide (c.N[j]? = some y) && decide (i ≠ j) && locL c x && locL c y && (py.line == px.line) && decide (([x, y] : List Str).eraseDups.length = 2) && parV [a, b] && chkEs c es [a, b]
  | .par3 i j l es, .Assign [.Tuple [.Name x px, .Name y py, .Name z pz] _ _] (.Tuple [a, b, d] _ _) _ => decide (c.N[i]? = some x) && decide (c.N[j]? = some y) && decide (c.N[l]? = some z) && decide (i ≠ j) && decide (i ≠ l) && decide (j ≠ l) && locL c x && locL c y && locL c z && (py.line == px.line) && (pz.line == px.line) && decide (([x, y, z] : List Str).eraseDups.length = 3) && parV [a, b, d] && chkEs c es [a, b, d]
  | .aug i o a, .AugAssign (.Name x px) op e _ => decide (c.N[i]? = some x) && locB c x && visB c.sc x && chkE c a e && ((decide (o = .add) && decide (op = .Add)) || (decide (o = .sub) && decide (op = .Sub)))
  | .app i a, .Expr (.Call (.Attribute v m ap) [e] [] cp) _ => chkVar c i v && isNm "append" m && (ap.endLine == cp.line) && chkE c a e && notStar e
  | .ext i a, .Expr (.Call (.Attribute v m ap) [e] [] cp) _ => chkVar c i v && isNm "extend" m && (ap.endLine == cp.line) && chkE c a e && notStar e
  | .oset i k a, .Assign [.Subscript v s _] e _ => chkVar c i v && chkE c k s && notSlice s && chkE c a e && notComp e
  | .dset o k a, .Assign [.Subscript v (.Constant (.str x) _ _) _] e _ => chkE c o v && isNm k x && chkE c a e && notComp e
  | .csub o k a, .Assign [.Subscript v s _] e _ => chkE c o v && chkE c k s && notSlice s && chkE c a e && notComp e
  | .capp o a, .Expr (.Call (.Attribute v m ap) [e] [] cp) _ => chkE c o v && attrOk v && isNm "append" m && (ap.endLine == cp.line) && chkE c a e && notStar e
  | .cins o k a, .Expr (.Call (.Attribute v m ap) [s, e] [] cp) _ => chkE c o v && attrOk v && isNm "insert" m && (ap.endLine == cp.line) && chkE c k s && notStar s && chkE c a e && notStar e
  | .exp a, .Expr e _ => chkE c a e && notComp e
  | .ife t a b, .If p x y _ => chkT c t p && chkSs c a x && chkSs c b y
  | .for tg it b, .For t e bd [] _ => chkTg c tg t && chkI c it t e && chkSs c b bd && notSet e
  | .forc tg a b, .For t e bd [] _ => chkTg c tg t && chkE c a e && chkSs c b bd && notSet e
  | .whl t b, .While p bd [] _ => chkT c t p && chkSs c b bd
  | .ret a, .Return (some e) _ => chkE c a e
  | .ret0, .Return none _ => true
  | .pass, .Pass _ => true
  | .brk, .Break _ => true
  | .cnt, .Continue _ => true
  | .nev, _ => true
  | _, _ => false
def chkSs (c : Cfg) : Ss → List Stmt → Bool
  | .nil, [] => true
  | .cons s ss, st :: sts => chkS c s st && chkSs c ss sts
  | _, _ => false
end
end M61

set_option Elab.async false
set_option linter.all false
set_option autoImplicit false
set_option maxRecDepth 100000
/-! M5b: what the check gives. -/
namespace M61
open PySem PySem.Spec PyProof.Rows L2
structure Good (c : Cfg) (G : Ctx) (n : Nat) (X : Cx) : Prop where
  hN : X.N = c.N
  nd : c.N.Nodup
  sc : X.env.scope = c.sc
  kind : c.sc.kind = .function
  calm : X.calm = true
  fn : ∀ x, locB c x = true → X.fn x = true ∨ c.sc.names.lookup x = some .local
  xe : X.xe = fun _ _ => False
  room : Room n X.A
  gd : X.A.guards = some []
  blt : ∀ b ∈ usedB, X.mg (Str.ofString b) = none
  fns : ∀ f k, c.sigs.contains (f, k) = true → ∃ fa fd ps, X.mg (Str.ofString f) = some (.ref fa) ∧ PySem.W.keepIn X.K (.ref fa) = true ∧ Binds X.K fd ps [] ∧
    FnG X.prog X.w X.K X.mg X.base CX0 n fa fd ps (spOf X.K fun ds C P => G.Γ f ds C P G.ex)
  con : ∀ x i, c.cons.contains (x, i) = true → ∃ u, X.mg (Str.ofString x) = some u ∧ L2.RelV (.int i) u
  txt : ∀ x s, c.txts.contains (x, s) = true → ∃ u, X.mg (Str.ofString x) = some u ∧ L2.RelV (.str (Str.ofString s)) u
  dct : ∀ x kvs, c.dcts.contains (x, kvs) = true → ∃ a, X.mg (Str.ofString x) = some (.ref a) ∧ WDct X.K X.w a kvs
section
variable {c : Cfg} {G : Ctx} {n : Nat} {X : Cx}
theorem Good.r0 (g : Good c G n X) : Room 0 X.A := g.room.mono (Nat.zero_le _)
theorem ff {p : Prop} (h : false = true) : p := absurd h Bool.false_ne_true
theorem an {a b : Bool} (h : (a && b) = true) : a = true ∧ b = true := Bool.and_eq_true_iff.mp h
theorem plainNm_inv {x : Str} (h : plainNm x = true) : (x == ("__debug__" : Str)) = false ∧ (x == ("__classdict__" : Str)) = false ∧ x ≠ "__name__" := by
  unfold plainNm at h
  simp only [Bool.and_eq_true, Bool.not_eq_true'] at h
  exact ⟨h.1.1, h.1.2, fun e => by have := h.2; rw [e] at this; simp at this⟩
theorem visB_inv {sc : Scope} {x : Str} (h : visB sc x = true) : Vis sc x := by
  unfold visB at h
  split at h
  · exact .inl (by assumption)
  · exact .inr (.inl (by assumption))
  · exact .inr (.inr (by assumption))
  · cases h
theorem locB_inv {x : Str} (h : locB c x = true) : Loc c.sc x := by
  unfold locB at h
  split at h
  · exact .inl (by assumption)
  · exact .inr (by assumption)
  · cases h
theorem var_pe (g : Good c G n X) {i : Nat} {e : Expr} (h : chkVar c i e = true) : PE X e (tVar i) := by
  cases e with
  | Name x p =>
    obtain ⟨h1, h2⟩ := an (show (decide (c.N[i]? = some x) && visB c.sc x && plainNm x) = true from h)
    obtain ⟨h0, h1⟩ := an h1
    obtain ⟨p1, p2, _⟩ := plainNm_inv h2
    exact pe_var (by rw [g.hN]; exact of_decide_eq_true h0) (by rw [g.sc]; exact visB_inv h1) p1 p2
  | _ => exact ff h
/-- a built-in's name -/
theorem chkG_inv (g : Good c G n X) {s : String} {e : Expr} (h : chkG c s e = true) : ∃ p, e = .Name (Str.ofString s) p ∧ Gl X (Str.ofString s) ∧ plainNm (Str.ofString s) = true := by
  cases e with
  | Name x p =>
    obtain ⟨h1, h2⟩ := an (show (isNm s x && glB c.sc x && plainNm x) = true from h)
    obtain ⟨h0, h1⟩ := an h1
    have e : x = Str.ofString s := of_decide_eq_true h0
    subst e
    exact ⟨p, rfl, by show X.env.scope.names.lookup _ = _; rw [g.sc]; exact of_decide_eq_true h1, h2⟩
  | _ => exact ff h
theorem star_cons {e : Expr} {es : List Expr} {env : Env} (h : notStar e = true) : starEach (e :: es) env = (false, eval e env) :: starEach es env := by
  cases e <;> first | rfl | cases h
theorem chkEs_star : ∀ {as : Es} {es : List Expr} {pos : Pos} {env : Env}, chkEs c as es = true → (backTo pos (starEach es env)).any (·.1) = false
  | .nil, [], _, _, _ => rfl
  | .nil, _ :: _, _, _, h => ff h
  | .cons _ _, [], _, _, h => ff h
  | .cons a as, e :: es, pos, env, h => by
    obtain ⟨h1, h2⟩ := an (show (chkE c a e && notStar e && chkEs c as es) = true from h)
    obtain ⟨h0, h1⟩ := an h1
    rw [star_cons h1]
    show (false || (backTo pos (starEach es env)).any (·.1)) = false
    rw [chkEs_star h2]; rfl
theorem any1 {e : Expr} {pos : Pos} {env : Env} (h : notStar e = true) : (backTo pos (starEach [e] env)).any (·.1) = false := by
  rw [star_cons h]; rfl
theorem few1 {e : Expr} {pos : Pos} {env : Env} (h : notStar e = true) : ((backTo pos (starEach [e] env)).all (fun x => !x.1) && (backToKw pos (keywordEach [] env)).all (fun x => x.1.isSome)
      && decide (([e] : List Expr).length + ([] : List Keyword).length + (if ([] : List Keyword).isEmpty then 0 else 1) < 30)) = true := by
  rw [star_cons h]; rfl
theorem few2 {e d : Expr} {pos : Pos} {env : Env} (h : notStar e = true) (h2 : notStar d = true) : ((backTo pos (starEach [e, d] env)).all (fun x => !x.1) && (backToKw pos (keywordEach [] env)).all (fun x => x.1.isSome)
      && decide (([e, d] : List Expr).length + ([] : List Keyword).length + (if ([] : List Keyword).isEmpty then 0 else 1) < 30)) = true := by
  rw [star_cons h, star_cons h2]; rfl
theorem attr_plain {o : Expr} {m : Str} {env : Env} {w : Sem Value} (h : attrOk o = true) : attributeBase o m env w = w := by
  cases o with
  | Call f as ks p =>
    cases f with
    | Name x q => cases as <;> cases ks <;> first | rfl | cases h
    | _ => rfl
  | _ => rfl
theorem var_attr {i : Nat} {e : Expr} (h : chkVar c i e = true) : attrOk e = true := by cases e <;> first | rfl | cases h
theorem plainIx_of {b : Expr} (h : notSlice b = true) : PlainIx b := by
  cases b <;> first | (intro o i; rfl) | cases h
theorem test_plain {e : Expr} {env : Env} (h : plainTest e = true) : ∀ whole, isTrue e env whole = (do let v ← whole; standAt e.pos; holding [v] (truthy v)) := by
  intro whole
  cases e with
  | UnaryOp o x p => cases o <;> first | rfl | cases h
  | _ => first | rfl | cases h
theorem notSet_inv {e : Expr} {env : Env} (h : notSet e = true) : ∀ x, foldedSetIterable e env x = pure x := by
  intro x
  cases e <;> first | rfl | cases h
theorem noComp_sw {e : Expr} {t : Option Expr} {l : Nat} {env : Env} (h : notComp e = true) : swapsWith e t l env = pure false := by
  cases e <;> first | rfl | cases h
theorem bindTs_tgs {c : Cfg} : ∀ {ts : Tgs} {es : List Expr}, chkTgs c ts es = true → ∀ {ds : List D} {ρ : Rho} {P : Rho → Prop}, bindTs ts ds ρ P → True := fun _ _ _ _ _ => trivial
def tgsLen : Tgs → Nat
  | .nil => 0
  | .cons _ ts => tgsLen ts + 1
theorem chkTgs_len : ∀ {ts : Tgs} {es : List Expr}, chkTgs c ts es = true → es.length = tgsLen ts
  | .nil, [], _ => rfl
  | .nil, _ :: _, h => ff h
  | .cons _ _, [], h => ff h
  | .cons t ts, e :: es, h => by
    obtain ⟨_, h2⟩ := an (show (chkTg c t e && chkTgs c ts es) = true from h)
    show es.length + 1 = tgsLen ts + 1
    rw [chkTgs_len h2]
theorem bindT_some : ∀ {t : Tg} {d : D} {ρ : Rho} {P : Rho → Prop}, bindT t d ρ P → True := fun _ => trivial
theorem bindTs_len2 : ∀ {ts : Tgs} {ds : List D}, (∃ (ρ : Rho) (P : Rho → Prop), bindTs ts ds ρ P) → True := fun _ => trivial
end
end M61

set_option Elab.async false
set_option linter.all false
set_option autoImplicit false
set_option maxRecDepth 100000
/-! M5c: the check is sound. -/
namespace M61
open PySem PySem.Spec PyProof.Rows L2
mutual
theorem bindT_ex : ∀ {t : Tg} {d : D} {ρ : Rho} {P : Rho → Prop}, bindT t d ρ P → ∃ ρ', P ρ'
  | .nm i, d, ρ, P, h => ⟨_, h⟩
  | .tp ts, .tup ds, ρ, P, h => (bindTs_ex (show bindTs ts ds ρ P from h)).1
  | .tp ts, .non, ρ, P, h => False.elim h
  | .tp ts, .bl _, ρ, P, h => False.elim h
  | .tp ts, .int _, ρ, P, h => False.elim h
  | .tp ts, .str _, ρ, P, h => False.elim h
  | .tp ts, .lst ds, ρ, P, h => (bindTs_ex (show bindTs ts ds ρ P from h)).1
  | .tp ts, .ref _, ρ, P, h => False.elim h
  | .tp ts, .scr _, ρ, P, h => False.elim h
  | .tp ts, .dic, ρ, P, h => False.elim h
theorem bindTs_ex : ∀ {ts : Tgs} {ds : List D} {ρ : Rho} {P : Rho → Prop}, bindTs ts ds ρ P → (∃ ρ', P ρ') ∧ ds.length = tgsLen ts
  | .nil, [], ρ, P, h => ⟨⟨ρ, h⟩, rfl⟩
  | .nil, _ :: _, ρ, P, h => False.elim h
  | .cons t ts, [], ρ, P, h => False.elim h
  | .cons t ts, d :: ds, ρ, P, h => by
    obtain ⟨ρ', h'⟩ := bindT_ex (show bindT t d ρ (fun ρ' => bindTs ts ds ρ' P) from h)
    obtain ⟨h1, h2⟩ := bindTs_ex h'
    exact ⟨h1, by rw [List.length_cons, h2]; rfl⟩
end
section
variable {c : Cfg} {G : Ctx} {n : Nat} {X : Cx}
theorem tg_assign {t : Tg} {e : Expr} {es : List Expr} {env : Env} (h : chkTg c t e = true) : assignEach (e :: es) env = (false, assign e env) :: assignEach es env := by
  cases t <;> cases e <;> first | rfl | exact ff h
theorem tgs_assign : ∀ {ts : Tgs} {es : List Expr} {env : Env}, chkTgs c ts es = true → List.findIdx? (fun x => x.1) (assignEach es env) = none ∧ (assignEach es env).length = es.length
  | .nil, [], _, _ => ⟨rfl, rfl⟩
  | .nil, _ :: _, _, h => ff h
  | .cons _ _, [], _, h => ff h
  | .cons t ts, e :: es, env, h => by
    obtain ⟨h1, h2⟩ := an (show (chkTg c t e && chkTgs c ts es) = true from h)
    obtain ⟨i1, i2⟩ := tgs_assign (env := env) h2
    rw [tg_assign h1]
    refine ⟨?_, by rw [List.length_cons, List.length_cons, i2]⟩
    rw [List.findIdx?_cons, i1]; rfl
mutual
theorem okTg (g : Good c G n X) : ∀ (t : Tg) (e : Expr), chkTg c t e = true → PG X e (rg X.K t)
  | .nm i, e, h => by
    cases e with
    | Name x p =>
      obtain ⟨h1, h2⟩ := an (show (decide (c.N[i]? = some x) && locB c x) = true from h)
      exact g_nm (pg_name (by rw [g.hN]; exact g.nd) (by rw [g.hN]; exact of_decide_eq_true h1) (by rw [g.sc]; exact locB_inv h2) (by rw [g.sc]; exact g.fn x h2))
    | _ => exact ff h
  | .tp ts, e, h => by
    cases e with
    | Tuple es k p =>
      have h : chkTgs c ts es = true := h
      exact g_tp (n := tgsLen ts) (fun q => (bindTs_ex q).2) (by rw [← chkTgs_len h]; exact pg_tup g.calm (okTgs g ts es h) (tgs_assign h).2 (tgs_assign h).1) (by rw [← chkTgs_len h]; exact pg_lst g.calm (okTgs g ts es h) (tgs_assign h).2 (tgs_assign h).1)
    | _ => exact ff h
theorem okTgs (g : Good c G n X) : ∀ (ts : Tgs) (es : List Expr), chkTgs c ts es = true → PGs X es (rgs X.K ts)
  | .nil, [], _ => gs_nil
  | .nil, _ :: _, h => ff h
  | .cons _ _, [], h => ff h
  | .cons t ts, e :: es, h => by
    obtain ⟨h1, h2⟩ := an (show (chkTg c t e && chkTgs c ts es) = true from h)
    exact gs_cons (pgs_cons (okTg g t e h1) (okTgs g ts es h2) (by rw [tg_assign h1]; rfl))
end
/-- a built-in function's call -/
theorem blt_call (g : Good c G n X) (f : Blt) {es : Es} {xs : List Expr} {nm : Expr} {pos : Pos} (h1 : chkG c (bltName f) nm = true) (h2 : chkEs c es xs = true) (h3 : xs ≠ []) (ha : PA X xs (rdA X.K (denEs G es))) :
    PE X (.Call nm xs [] pos) (rd X.K fun ρ C P => denEs G es ρ C fun ds ρ1 C1 => bltR C1 f ds fun d => P d ρ1 C1) := by
  obtain ⟨p, rfl, hg, hp⟩ := chkG_inv g h1
  obtain ⟨p1, _, p3⟩ := plainNm_inv hp
  cases xs with
  | nil => exact absurd rfl h3
  | cons e r =>
    have hs : notStar e = true := by
      cases es with
      | nil => exact ff h2
      | cons a as =>
        obtain ⟨q1, _⟩ := an (show (chkE c a e && notStar e && chkEs c as r) = true from h2)
        exact (an q1).2
    have st : ∀ env : Env, starEach (e :: r) env = (false, eval e env) :: starEach r env := fun env => star_cons hs
    have pl : (backTo pos (starEach r X.env)).any (·.1) = false := by
      cases es with
      | nil => exact ff h2
      | cons a as => exact chkEs_star (an (show (chkE c a e && notStar e && chkEs c as r) = true from h2)).2
    have r0 := g.r0
    cases f with
    | len => exact e_blt (pe_callB c_len hg (g.blt _ (by decide)) (by decide +kernel) ha p3 p1 (st _) pl)
    | tuple => exact e_blt (pe_callTy c_tuple hg (g.blt _ (by decide)) (by decide +kernel) ha p3 p1 (st _) pl)
    | sum => exact e_blt (pe_callB (c_sum g.calm) hg (g.blt _ (by decide)) (by decide +kernel) ha p3 p1 (st _) pl)
    | min => exact e_blt (pe_callB (c_min g.calm r0) hg (g.blt _ (by decide)) (by decide +kernel) ha p3 p1 (st _) pl)
    | max => exact e_blt (pe_callB (c_max g.calm r0) hg (g.blt _ (by decide)) (by decide +kernel) ha p3 p1 (st _) pl)
    | min2 => exact e_blt (pe_callB (c_min2 g.calm) hg (g.blt _ (by decide)) (by decide +kernel) ha p3 p1 (st _) pl)
    | max2 => exact e_blt (pe_callB (c_max2 g.calm) hg (g.blt _ (by decide)) (by decide +kernel) ha p3 p1 (st _) pl)
    | abs => exact e_blt (pe_callB c_abs hg (g.blt _ (by decide)) (by decide +kernel) ha p3 p1 (st _) pl)
    | int => exact e_blt (pe_callTy c_int hg (g.blt _ (by decide)) (by decide +kernel) ha p3 p1 (st _) pl)
    | all => exact e_blt (pe_callB (c_all g.calm) hg (g.blt _ (by decide)) (by decide +kernel) ha p3 p1 (st _) pl)
    | repr => exact e_blt (pe_callB (c_repr g.gd r0) hg (g.blt _ (by decide)) (by decide +kernel) ha p3 p1 (st _) pl)
    | str => exact e_blt (pe_callTy c_str hg (g.blt _ (by decide)) (by decide +kernel) ha p3 p1 (st _) pl)
    | mind => exact e_blt (pe_callB (c_mind g.calm r0) hg (g.blt _ (by decide)) (by decide +kernel) ha p3 p1 (st _) pl)
    | maxd => exact e_blt (pe_callB (c_maxd g.calm r0) hg (g.blt _ (by decide)) (by decide +kernel) ha p3 p1 (st _) pl)
    | min2d => exact e_blt (pe_callB (c_min2d g.calm r0) hg (g.blt _ (by decide)) (by decide +kernel) ha p3 p1 (st _) pl)
    | min3 => exact e_blt (pe_callB (c_min3 g.calm) hg (g.blt _ (by decide)) (by decide +kernel) ha p3 p1 (st _) pl)
    | any => exact e_blt (pe_callB (c_any g.calm) hg (g.blt _ (by decide)) (by decide +kernel) ha p3 p1 (st _) pl)
theorem ty_pe (g : Good c G n X) {t : Ty} {e : Expr} (h : chkG c (tyName t) e = true) : PE X e (tC (.ty (tyName t))) ∧ notStar e = true := by
  obtain ⟨p, rfl, hg, hp⟩ := chkG_inv g h
  obtain ⟨p1, _, p3⟩ := plainNm_inv hp
  refine ⟨?_, rfl⟩
  cases t <;> exact pe_bltn hg (g.blt _ (by decide)) (by decide +kernel) rfl p3 p1
end
end M61

set_option Elab.async false
set_option linter.all false
set_option autoImplicit false
set_option maxRecDepth 100000
set_option maxHeartbeats 4000000
/-! M5d: the check is sound: expressions. -/
namespace M61
open PySem PySem.Spec PyProof.Rows L2
section
variable {c : Cfg} {G : Ctx} {n : Nat} {X : Cx}
theorem own_of_map {N : List Str} : ∀ {own : List Nat}, True := fun {_} => trivial
/-- in a comprehension's block -/
theorem Good.blk (g : Good c G n X) {scope : Scope} (hk : scope.kind = .function) (s : Shared) (H : Hp) (C : Addr) (cl : List (Str × Addr)) (fp : List Addr) :
    Good { c with sc := relS scope c.sc, blk := some scope } G n (X.blk s H scope (compEnvC scope cl C X.env) fp) where
  hN := g.hN
  nd := g.nd
  sc := by
    show relS scope X.env.scope = _
    rw [g.sc]
  kind := hk
  calm := g.calm
  fn := fun x h => by
    unfold locB at h
    split at h
    · exact .inr (by assumption)
    · exact .inl h
    · cases h
  xe := rfl
  room := g.room
  gd := g.gd
  blt := g.blt
  fns := g.fns
  con := g.con
  txt := g.txt
  dct := g.dct
/-- swapped: stored at once -/
def SwOk (X : Cx) (c : Cfg) (e : Expr) (t : TE) : Prop := ∀ (i : Nat) (x : Str) (px spos : Pos), c.N[i]? = some x → swB c x px e = true → PS X (.Assign [.Name x px] e spos) (tAsg t (gName i))
theorem swok_weak {e : Expr} {t t' : TE} (h : SwOk X c e t) (k : ∀ σ H Q, t' σ H Q → t σ H Q) : SwOk X c e t' := fun i x px sp h1 h2 => ps_weak (h i x px sp h1 h2) fun D σ H q => k σ H _ q
theorem swok_no {e : Expr} {t : TE} (h : notComp e = true) : SwOk X c e t := fun i x px sp h1 h2 => by
  cases e <;> first | exact ff h2 | exact ff h
theorem sw_any {px sp : Pos} {elt : Expr} {gs : List Comprehension} {scope : Scope} {p : Pos} {y : Str} {env : Env} (hk : env.scope.kind = .function) (hy : env.scope.names.lookup y = some .local) (hl : (px.line == p.line) = true)
    (ha : (scope.names.any fun (n, k) => n == y && (k == .local || k == .cell)) = false) : swapsWith (.ListComp elt gs scope p) (some (.Name y px)) sp.line env = pure true := sw_true hk hy hl ha
theorem pw_of_pt {t : TT} {op : BoolOp} {xs : List Expr} {p : Pos} (h : PT X (.BoolOp op xs p) t) : PW X (.BoolOp op xs p) t := ⟨fun whole pins s σ H Q I q => h.run pins s σ H Q I q⟩
theorem noSl_of {b : Expr} (h : notSlice b = true) : NoSl b := by
  cases b <;> first | (intro o i; rfl) | cases h
theorem chkKV_inv {X : Cx} {p : Pos} : ∀ {kvs : List (String × String)} {ks : List (Option Expr)} {vs : List Expr}, chkKV kvs ks vs = true → PPs X p ks vs (dlkT kvs) ∧ ks.all (·.isSome) = true ∧ ks.length = kvs.length ∧ ks.length = vs.length := by
  intro kvs
  induction kvs with
  | nil =>
    intro ks vs h
    rcases ks with _ | ⟨k, ks⟩ <;> rcases vs with _ | ⟨v, vs⟩ <;> first | exact ff h | exact ⟨pps_nil, rfl, rfl, rfl⟩
  | cons q kvs ih =>
    intro ks vs h
    rcases ks with _ | ⟨k, ks⟩
    · exact ff h
    rcases vs with _ | ⟨v, vs⟩
    · rcases k with _ | k
      · exact ff h
      · cases k with
        | Constant w j p' => cases w <;> exact ff h
        | _ => exact ff h
    rcases k with _ | k
    · exact ff h
    cases k with
    | Constant w j p' =>
      cases w with
      | str x =>
        cases v with
        | Constant w' j' p'' =>
          cases w' with
          | str y =>
            obtain ⟨h, h3⟩ := an (show (isNm q.1 x && isNm q.2 y && chkKV kvs ks vs) = true from h)
            obtain ⟨h1, h2⟩ := an h
            obtain ⟨i1, i2, i3, i4⟩ := ih h3
            have e1 : x = Str.ofString q.1 := of_decide_eq_true h1
            have e2 : y = Str.ofString q.2 := of_decide_eq_true h2
            subst e1 e2
            exact ⟨pps_cons pe_str pe_str i1, by rw [List.all_cons, i2]; rfl, by rw [List.length_cons, List.length_cons, i3], by rw [List.length_cons, List.length_cons, i4]⟩
          | _ => exact ff h
        | _ => exact ff h
      | _ => exact ff h
    | _ => exact ff h
def msOf (G : Ctx) : Es → List ME
  | .nil => []
  | .cons e es => denE G e :: msOf G es
theorem chain_ms (G : Ctx) : ∀ es : Es, chainM (msOf G es) = denEs G es
  | .nil => rfl
  | .cons e es => by
    funext ρ C P
    show denE G e ρ C (fun x ρ1 C1 => chainM (msOf G es) ρ1 C1 fun xs ρ2 C2 => P (x :: xs) ρ2 C2) = denE G e ρ C (fun x ρ1 C1 => denEs G es ρ1 C1 fun xs ρ2 C2 => P (x :: xs) ρ2 C2)
    rw [chain_ms G es]
theorem chkKs_len : ∀ {ks : List String} {keys : List (Option Expr)}, chkKs ks keys = true → keys.length = ks.length ∧ keys.all (·.isSome) = true
  | [], [], _ => ⟨rfl, rfl⟩
  | [], _ :: _, h => ff h
  | _ :: _, [], h => ff h
  | k :: ks, none :: keys, h => ff h
  | k :: ks, some e :: keys, h => by
    cases e with
    | Constant w j p =>
      cases w with
      | str x =>
        obtain ⟨_, h2⟩ := an (show (isNm k x && chkKs ks keys) = true from h)
        obtain ⟨i1, i2⟩ := chkKs_len h2
        exact ⟨by rw [List.length_cons, List.length_cons, i1], by rw [List.all_cons, i2]; rfl⟩
      | _ => exact ff h
    | _ => exact ff h
theorem chkEs_len {c : Cfg} : ∀ {es : Es} {xs : List Expr}, chkEs c es xs = true → (msOf G es).length = xs.length
  | .nil, [], _ => rfl
  | .nil, _ :: _, h => ff h
  | .cons _ _, [], h => ff h
  | .cons a as, e :: es, h => by
    obtain ⟨_, h3⟩ := an (show (chkE c a e && notStar e && chkEs c as es) = true from h)
    show (msOf G as).length + 1 = es.length + 1
    rw [chkEs_len h3]
mutual
theorem okE : ∀ (a : E) (c : Cfg) (X : Cx) (_ : Good c G n X) (e : Expr), chkE c a e = true → PE X e (rd X.K (denE G a))
  | .var i, c, X, g, e, h => e_var (var_pe g h)
  | .mv i, c, X, g, e, h => e_mv (var_pe g h)
  | .non, c, X, g, e, h => by
    cases e with
    | Constant k j p => cases k <;> first | exact ff h | exact e_const pe_non fun F => .non
    | _ => exact ff h
  | .bl b, c, X, g, e, h => by
    cases e with
    | Constant k j p =>
      cases k with
      | bool b' =>
        have eb : b = b' := eq_of_beq h
        subst eb
        exact e_const pe_bl fun F => .bl b
      | _ => exact ff h
    | _ => exact ff h
  | .int i, c, X, g, e, h => by
    cases e with
    | Constant k j p =>
      cases k with
      | int b' =>
        have eb : i = b' := of_decide_eq_true h
        subst eb
        exact e_const pe_int fun F => .int i
      | _ => exact ff h
    | _ => exact ff h
  | .str s, c, X, g, e, h => by
    cases e with
    | Constant k j p =>
      cases k with
      | str b' =>
        have eb : b' = Str.ofString s := of_decide_eq_true h
        subst eb
        exact e_const pe_str fun F => .str _
      | _ => exact ff h
    | _ => exact ff h
  | .con x i, c, X, g, e, h => by
    cases e with
    | Name y p =>
      obtain ⟨h, h4⟩ := an (show (isNm x y && glB c.sc y && plainNm y && c.cons.contains (x, i)) = true from h)
      obtain ⟨h, h3⟩ := an h
      obtain ⟨h1, h2⟩ := an h
      have e : y = Str.ofString x := of_decide_eq_true h1
      subst e
      obtain ⟨u, hm, r⟩ := g.con x i h4
      exact e_const (pe_glob (by show X.env.scope.names.lookup _ = _; rw [g.sc]; exact of_decide_eq_true h2) hm r (plainNm_inv h3).1) fun F => .int i
    | _ => exact ff h
  | .cns x i, c, X, g, e, h => by
    cases e with
    | Name y p =>
      obtain ⟨h, h4⟩ := an (show (isNm x y && glB c.sc y && plainNm y && c.txts.contains (x, i)) = true from h)
      obtain ⟨h, h3⟩ := an h
      obtain ⟨h1, h2⟩ := an h
      have e : y = Str.ofString x := of_decide_eq_true h1
      subst e
      obtain ⟨u, hm, r⟩ := g.txt x i h4
      exact e_const (pe_glob (by show X.env.scope.names.lookup _ = _; rw [g.sc]; exact of_decide_eq_true h2) hm r (plainNm_inv h3).1) fun F => .str _
    | _ => exact ff h
  | .bin o a b, c, X, g, e, h => by
    cases e with
    | BinOp l op r p =>
      obtain ⟨h, h3⟩ := an (show (decide (op = popOf o) && chkE c a l && chkE c b r) = true from h)
      obtain ⟨h1, h2⟩ := an h
      have e : op = popOf o := of_decide_eq_true h1
      subst e
      exact e_op2 (pe_op (s_bin o) (okE a _ _ g l h2) (okE b _ _ g r h3))
    | _ => exact ff h
  | .neg a, c, X, g, e, h => by
    cases e with
    | UnaryOp op x p =>
      cases op with
      | USub => exact e_neg (pe_un un_neg (okE a _ _ g x h))
      | _ => exact ff h
    | _ => exact ff h
  | .cmp o a b, c, X, g, e, h => by
    cases e with
    | Compare l ops rs p =>
      cases ops with
      | nil => exact ff h
      | cons op ops =>
        cases ops with
        | cons _ _ => exact ff h
        | nil =>
          cases rs with
          | nil => exact ff h
          | cons r rs =>
            cases rs with
            | cons _ _ => exact ff h
            | nil =>
              obtain ⟨h, h4⟩ := an (show (decide (op = copOf o) && chkE c a l && chkE c b r && !behindInMarks op r) = true from h)
              obtain ⟨h, h3⟩ := an h
              obtain ⟨h1, h2⟩ := an h
              have e : op = copOf o := of_decide_eq_true h1
              subst e
              exact e_op2 (r := fun d e P => cmpR o d e fun b => P (.bl b)) (pe_cmpR (s_cmp g.r0 o) (okE a _ _ g l h2) (okE b _ _ g r h3) (by simpa using h4))
    | _ => exact ff h
  | .chn o o' a b d, c, X, g, e, h => by
    cases e with
    | Compare l ops rs p =>
      cases ops with
      | nil => exact ff h
      | cons op ops =>
        cases ops with
        | nil => cases rs with
          | nil => exact ff h
          | cons _ rs => cases rs <;> exact ff h
        | cons op' ops =>
          cases ops with
          | cons _ _ => exact ff h
          | nil =>
            cases rs with
            | nil => exact ff h
            | cons m rs =>
              cases rs with
              | nil => exact ff h
              | cons r rs =>
                cases rs with
                | cons _ _ => exact ff h
                | nil =>
                  obtain ⟨h, h6⟩ := an (show (decide (op = copOf o) && decide (op' = copOf o') && chkE c a l && chkE c b m && chkE c d r && !lastMarks [op, op'] [m, r]) = true from h)
                  obtain ⟨h, h5⟩ := an h
                  obtain ⟨h, h4⟩ := an h
                  obtain ⟨h, h3⟩ := an h
                  obtain ⟨h1, h2⟩ := an h
                  have e : op = copOf o := of_decide_eq_true h1
                  have e' : op' = copOf o' := of_decide_eq_true h2
                  subst e e'
                  exact e_chn (pe_chain (s_cmp g.r0 o) (s_cmp g.r0 o') (okE a _ _ g l h3) (okE b _ _ g m h4) (okE d _ _ g r h5) (by simpa using h6))
    | _ => exact ff h
  | .chn3 o o' o'' a b d f, c, X, g, e, h => by
    cases e with
    | Compare l ops rs p =>
      rcases ops with _ | ⟨op, _ | ⟨op', _ | ⟨op'', _ | ⟨_, _⟩⟩⟩⟩ <;> rcases rs with _ | ⟨m, _ | ⟨r, _ | ⟨q, _ | ⟨_, _⟩⟩⟩⟩ <;> first | exact ff h | skip
      obtain ⟨h, h8⟩ := an (show (decide (op = copOf o) && decide (op' = copOf o') && decide (op'' = copOf o'') && chkE c a l && chkE c b m && chkE c d r && chkE c f q && !lastMarks [op, op', op''] [m, r, q]) = true from h)
      obtain ⟨h, h7⟩ := an h
      obtain ⟨h, h6⟩ := an h
      obtain ⟨h, h5⟩ := an h
      obtain ⟨h, h4⟩ := an h
      obtain ⟨h, h3⟩ := an h
      obtain ⟨h1, h2⟩ := an h
      have e : op = copOf o := of_decide_eq_true h1
      have e' : op' = copOf o' := of_decide_eq_true h2
      have e'' : op'' = copOf o'' := of_decide_eq_true h3
      subst e e' e''
      exact e_chn3 (pe_chain3 (s_cmp g.r0 o) (s_cmp g.r0 o') (s_cmp g.r0 o'') (okE a _ _ g l h4) (okE b _ _ g m h5) (okE d _ _ g r h6) (okE f _ _ g q h7) (by simpa using h8))
    | _ => exact ff h
  | .dlk kvs a, c, X, g, e, h => by
    cases e with
    | Subscript v s p =>
      cases v with
      | Dict ks vs p2 =>
        obtain ⟨h, h5⟩ := an (show (chkKV kvs ks vs && chkE c a s && notSlice s && decide (kvs ≠ []) && decide (kvs.length ≤ 15)) = true from h)
        obtain ⟨h, h4⟩ := an h
        obtain ⟨h, h3⟩ := an h
        obtain ⟨h1, h2⟩ := an h
        obtain ⟨k1, k2, k3, k4⟩ := chkKV_inv (X := X) (p := p2) h1
        have hu : X.A.units + 1 < cLine := by have := g.room.units; omega
        have hne : ks ≠ [] := fun e => by
          rw [e] at k3
          exact (of_decide_eq_true h4 : kvs ≠ []) (List.length_eq_zero_iff.mp k3.symm)
        exact e_dlk (of_decide_eq_true h5) (pe_dget hu (pe_disp k1 k2 k4 hne (by rw [k3]; exact of_decide_eq_true h5)) (okE a _ _ g s h2) (noSl_of h3))
      | _ => exact ff h
    | _ => exact ff h
  | .celd ks es, c, X, g, e, h => by
    cases e with
    | Dict keys vals p =>
      obtain ⟨h, h5⟩ := an (show (chkKs ks keys && chkEs c es vals && decide (ks ≠ []) && decide (ks.length ≤ 15) && decide (keys.length = vals.length)) = true from h)
      obtain ⟨h, h4⟩ := an h
      obtain ⟨h, h3⟩ := an h
      obtain ⟨h1, h2⟩ := an h
      obtain ⟨l1, l2⟩ := chkKs_len h1
      have hne : keys ≠ [] := fun e => by
        rw [e] at l1
        exact (of_decide_eq_true h3 : ks ≠ []) (List.length_eq_zero_iff.mp l1.symm)
      have hl : keys.length = vals.length := of_decide_eq_true h5
      have e1 := okPs es c X g ks keys vals p h1 h2 hl
      have := e_celd (ms := msOf G es) (of_decide_eq_true h4) (by rw [chkEs_len h2, ← hl, l1]) (pe_disp e1 l2 hl hne (by rw [l1]; exact of_decide_eq_true h4))
      rw [chain_ms] at this
      exact this
    | _ => exact ff h
  | .edic, c, X, g, e, h => by
    cases e with
    | Dict keys vals p =>
      cases keys with
      | nil =>
        cases vals with
        | nil => exact e_edic pe_dnewT
        | cons _ _ => exact ff h
      | cons _ _ => exact ff h
    | _ => exact ff h
  | .ndic k a, c, X, g, e, h => by
    cases e with
    | Dict keys vals p =>
      cases keys with
      | nil => cases vals <;> exact ff h
      | cons kk keys =>
        cases kk with
        | none => exact ff h
        | some kk =>
          cases keys with
          | cons _ _ => cases kk <;> exact ff h
          | nil =>
            cases kk with
            | Constant w j p2 =>
              cases vals with
              | nil => exact ff h
              | cons v vals =>
                cases vals with
                | cons _ _ => exact ff h
                | nil =>
                  obtain ⟨h1, h2⟩ := an (show (keyB k w && chkE c a v) = true from h)
                  cases k with
                  | inl i =>
                    cases w with
                    | int i' =>
                      have e1 : i = i' := of_decide_eq_true h1
                      subst e1
                      exact e_ndic (k := Sum.inl i) (pe_disp (pps_cons pe_int (okE a _ _ g v h2) pps_nil) rfl rfl (by simp) (by show 1 ≤ 15; decide))
                    | _ => exact ff h1
                  | inr s =>
                    cases w with
                    | str x =>
                      have e1 : x = Str.ofString s := of_decide_eq_true h1
                      subst e1
                      exact e_ndic (k := Sum.inr (Str.ofString s)) (pe_disp (pps_cons pe_str (okE a _ _ g v h2) pps_nil) rfl rfl (by simp) (by show 1 ≤ 15; decide))
                    | _ => exact ff h1
            | _ => exact ff h
    | _ => exact ff h
  | .dix a k, c, X, g, e, h => by
    cases e with
    | Subscript v s p =>
      cases s with
      | Constant w j p2 =>
        cases w with
        | str x =>
          obtain ⟨h1, h2⟩ := an (show (chkE c a v && isNm k x) = true from h)
          have e1 : x = Str.ofString k := of_decide_eq_true h2
          subst e1
          have hu : X.A.units + 1 < cLine := by have := g.room.units; omega
          exact e_dix (pe_dget hu (okE a _ _ g v h1) pe_str (noSl_of rfl))
        | _ => exact ff h
      | _ => exact ff h
    | _ => exact ff h
  | .and a b, c, X, g, e, h => by
    cases e with
    | BoolOp op xs p =>
      cases op with
      | Or => cases xs with
        | nil => exact ff h
        | cons _ xs => cases xs with
          | nil => exact ff h
          | cons _ xs => cases xs <;> exact ff h
      | And =>
        cases xs with
        | nil => exact ff h
        | cons x xs =>
          cases xs with
          | nil => exact ff h
          | cons y xs =>
            cases xs with
            | nil =>
              obtain ⟨h1, h2⟩ := an (show (chkE c a x && chkE c b y) = true from h)
              exact e_and (pe_and (okE a _ _ g x h1) (pe_one (okE b _ _ g y h2)))
            | cons z r =>
              obtain ⟨h1, h2⟩ := an (show (chkE c a x && chkE c b (.BoolOp .And (y :: z :: r) p)) = true from h)
              exact e_and (pe_and (okE a _ _ g x h1) (okE b _ _ g _ h2))
    | _ => exact ff h
  | .or a b, c, X, g, e, h => by
    cases e with
    | BoolOp op xs p =>
      cases op with
      | And => cases xs with
        | nil => exact ff h
        | cons _ xs => cases xs with
          | nil => exact ff h
          | cons _ xs => cases xs <;> exact ff h
      | Or =>
        cases xs with
        | nil => exact ff h
        | cons x xs =>
          cases xs with
          | nil => exact ff h
          | cons y xs =>
            cases xs with
            | nil =>
              obtain ⟨h1, h2⟩ := an (show (chkE c a x && chkE c b y) = true from h)
              exact e_or (pe_or (okE a _ _ g x h1) (pe_one (okE b _ _ g y h2)))
            | cons z r =>
              obtain ⟨h1, h2⟩ := an (show (chkE c a x && chkE c b (.BoolOp .Or (y :: z :: r) p)) = true from h)
              exact e_or (pe_or (okE a _ _ g x h1) (okE b _ _ g _ h2))
    | _ => exact ff h
  | .not a, c, X, g, e, h => by
    cases e with
    | UnaryOp op x p =>
      cases op with
      | Not => exact e_not (pe_not (okE a _ _ g x h))
      | _ => exact ff h
    | _ => exact ff h
  | .ife t a b, c, X, g, e, h => by
    cases e with
    | IfExp q x y p =>
      obtain ⟨h, h3⟩ := an (show (chkT c t q && chkE c a x && chkE c b y) = true from h)
      obtain ⟨h1, h2⟩ := an h
      exact e_ife (pe_ifExp (okT t _ _ g q h1) (okE a _ _ g x h2) (okE b _ _ g y h3))
    | _ => exact ff h
  | .tup es, c, X, g, e, h => by
    cases e with
    | Tuple xs k p => exact e_tup (pe_tup (okEs es _ _ g xs h))
    | _ => exact ff h
  | .frz l, c, X, g, e, h => e_frz (okL l _ _ g e h).1
  | .cel l, c, X, g, e, h => e_cel (okL l _ _ g e h).1
  | .ix a b, c, X, g, e, h => by
    cases e with
    | Subscript v s p =>
      obtain ⟨h, h3⟩ := an (show (chkE c a v && chkE c b s && notSlice s) = true from h)
      obtain ⟨h1, h2⟩ := an h
      exact e_ix (pe_ix ix_or (okE a _ _ g v h1) (okE b _ _ g s h2) (plainIx_of h3))
    | _ => exact ff h
  | .sl a lo hi, c, X, g, e, h => by
    cases e with
    | Subscript v s p =>
      cases s with
      | Slice l u st p2 =>
        cases st with
        | none =>
          obtain ⟨h, h3⟩ := an (show (chkE c a v && chkO c lo l && chkO c hi u) = true from h)
          obtain ⟨h1, h2⟩ := an h
          exact e_sl (pe_slice s_sl (okE a _ _ g v h1) (okO lo _ _ g l h2) (okO hi _ _ g u h3))
        | some _ => exact ff h
      | _ => exact ff h
    | _ => exact ff h
  | .rev a, c, X, g, e, h => by
    cases e with
    | Subscript v s p =>
      cases s with
      | Slice l u st p2 =>
        cases l with
        | some _ => exact ff h
        | none =>
          cases u with
          | some _ => exact ff h
          | none =>
            cases st with
            | none => exact ff h
            | some q =>
              cases q with
              | UnaryOp op x p3 =>
                cases op with
                | USub =>
                  cases x with
                  | Constant k j p4 =>
                    cases k with
                    | int i =>
                      obtain ⟨h1, h2⟩ := an (show (chkE c a v && decide (i = 1)) = true from h)
                      have e : i = 1 := of_decide_eq_true h2
                      subst e
                      exact e_rev (pe_revA (okE a _ _ g v h1))
                    | _ => exact ff h
                  | _ => exact ff h
                | _ => exact ff h
              | _ => exact ff h
      | _ => exact ff h
    | _ => exact ff h
  | .call f es, c, X, g, e, h => by
    cases e with
    | Call fn xs ks p =>
      cases fn with
      | Name x q =>
        cases ks with
        | cons _ _ => exact ff h
        | nil =>
          obtain ⟨h, h5⟩ := an (show (isNm f x && glB c.sc x && plainNm x && c.sigs.contains (f, xs.length) && chkEs c es xs) = true from h)
          obtain ⟨h, h4⟩ := an h
          obtain ⟨h, h3⟩ := an h
          obtain ⟨h1, h2⟩ := an h
          have e : x = Str.ofString f := of_decide_eq_true h1
          subst e
          obtain ⟨fa, fd, ps, hm, kp, hb, F⟩ := g.fns f _ h4
          have hg : Gl X (Str.ofString f) := by show X.env.scope.names.lookup _ = _; rw [g.sc]; exact of_decide_eq_true h2
          have ha := okEs es _ _ g xs h5
          cases xs with
          | nil =>
            cases es with
            | nil => exact e_call (E := E0) (ma := fun ρ C P => P [] ρ C) (pe_weak (pe_callG0 (E := E0) F g.gd g.room hg hm kp hb .nil pass0 (plainNm_inv h3).1) fun σ H Q q => by
                obtain ⟨B, F, ρ, C, P, R, m, k⟩ := q
                exact k [] ρ C F [] H (Same.refl _) R .nil m)
            | cons _ _ => exact ff h5
          | cons e r =>
            have hs : notStar e = true := by
              cases es with
              | nil => exact ff h5
              | cons a as => exact (an (an (show (chkE c a e && notStar e && chkEs c as r) = true from h5)).1).2
            have pl : (backTo p (starEach r X.env)).any (·.1) = false := by
              cases es with
              | nil => exact ff h5
              | cons a as => exact chkEs_star (an (show (chkE c a e && notStar e && chkEs c as r) = true from h5)).2
            exact e_call (E := E0) (pe_callG F g.gd g.room hg hm kp hb .nil pass0 ha (plainNm_inv h3).1 (star_cons hs) pl)
      | _ => exact ff h
    | _ => exact ff h
  | .blt f es, c, X, g, e, h => by
    cases e with
    | Call fn xs ks p =>
      cases ks with
      | cons _ _ => exact ff h
      | nil =>
        obtain ⟨h, h3⟩ := an (show (chkG c (bltName f) fn && chkEs c es xs && decide (xs ≠ [])) = true from h)
        obtain ⟨h1, h2⟩ := an h
        exact blt_call g f h1 h2 (of_decide_eq_true h3) (okEs es _ _ g xs h2)
    | _ => exact ff h
  | .isi a t, c, X, g, e, h => by
    cases e with
    | Call fn xs ks p =>
      cases xs with
      | nil => exact ff h
      | cons x xs =>
        cases xs with
        | nil => exact ff h
        | cons y xs =>
          cases xs with
          | cons _ _ => exact ff h
          | nil =>
            cases ks with
            | cons _ _ => exact ff h
            | nil =>
              obtain ⟨h, h4⟩ := an (show (chkG c "isinstance" fn && chkE c a x && notStar x && chkG c (tyName t) y) = true from h)
              obtain ⟨h, h3⟩ := an h
              obtain ⟨h1, h2⟩ := an h
              obtain ⟨q, rfl, hg, hp⟩ := chkG_inv g h1
              obtain ⟨p1, _, p3⟩ := plainNm_inv hp
              obtain ⟨hy, sy⟩ := ty_pe g h4
              exact e_isi (pe_callB (c_isi t) hg (g.blt _ (by decide)) (by decide +kernel) (pa_cons (okE a _ _ g x h2) (pa_cons hy pa_nil (star_cons sy)) (star_cons h3)) p3 p1 (star_cons h3) (any1 sy))
    | _ => exact ff h
  | .oix i b, c, X, g, e, h => by
    cases e with
    | Subscript v s p =>
      obtain ⟨h, h3⟩ := an (show (chkVar c i v && chkE c b s && notSlice s) = true from h)
      obtain ⟨h1, h2⟩ := an h
      exact e_oix (pe_ix ix_list (var_pe g h1) (okE b _ _ g s h2) (plainIx_of h3))
    | _ => exact ff h
  | .olen i, c, X, g, e, h => by
    cases e with
    | Call fn xs ks p =>
      cases xs with
      | nil => exact ff h
      | cons x xs =>
        cases xs with
        | cons _ _ => exact ff h
        | nil =>
          cases ks with
          | cons _ _ => exact ff h
          | nil =>
            obtain ⟨h1, h2⟩ := an (show (chkG c "len" fn && chkVar c i x) = true from h)
            obtain ⟨q, rfl, hg, hp⟩ := chkG_inv g h1
            obtain ⟨p1, _, p3⟩ := plainNm_inv hp
            have hs : notStar x = true := by cases x <;> first | rfl | exact ff h2
            exact e_olen (pe_callB call_len_seq hg (g.blt _ (by decide)) (by decide +kernel) (pa_cons (var_pe g h2) pa_nil (star_cons hs)) p3 p1 (star_cons hs) rfl)
    | _ => exact ff h
  | .one i, c, X, g, e, h => by
    cases e with
    | Compare l ops rs p =>
      cases ops with
      | nil => exact ff h
      | cons op ops =>
        cases rs with
        | nil => cases ops <;> cases op <;> exact ff h
        | cons r rs =>
          cases ops with
          | cons _ _ => cases op <;> exact ff h
          | nil =>
            cases op <;> first | (cases rs <;> cases r <;> exact ff h) | skip
            cases rs with
            | cons _ _ => cases r <;> first | exact ff h | (rename_i es _; cases es <;> exact ff h)
            | nil =>
              cases r with
              | List es q =>
                cases es with
                | nil => exact e_one (pe_cmpR (op_neD g.r0.units) (var_pe g h) (pe_lst pa_nil) rfl)
                | cons _ _ => exact ff h
              | _ => exact ff h
    | _ => exact ff h
  | .oem i, c, X, g, e, h => by
    cases e with
    | Compare l ops rs p =>
      cases ops with
      | nil => exact ff h
      | cons op ops =>
        cases rs with
        | nil => cases ops <;> cases op <;> exact ff h
        | cons r rs =>
          cases ops with
          | cons _ _ => cases op <;> exact ff h
          | nil =>
            cases op <;> first | (cases rs <;> cases r <;> exact ff h) | skip
            cases rs with
            | cons _ _ => cases r <;> first | exact ff h | (rename_i es _; cases es <;> exact ff h)
            | nil =>
              cases r with
              | List es q =>
                cases es with
                | nil => exact e_oem (pe_cmpR (op_eqD g.r0.units) (var_pe g h) (pe_lst pa_nil) rfl)
                | cons _ _ => exact ff h
              | _ => exact ff h
    | _ => exact ff h
  | .lne a, c, X, g, e, h => by
    cases e with
    | Compare l ops rs p =>
      cases ops with
      | nil => exact ff h
      | cons op ops =>
        cases rs with
        | nil => cases ops <;> cases op <;> exact ff h
        | cons r rs =>
          cases ops with
          | cons _ _ => cases op <;> exact ff h
          | nil =>
            cases op <;> first | (cases rs <;> cases r <;> exact ff h) | skip
            cases rs with
            | cons _ _ => cases r <;> first | exact ff h | (rename_i es _; cases es <;> exact ff h)
            | nil =>
              cases r with
              | List es q =>
                cases es with
                | nil => exact e_lse (f := (!·)) (pe_cmpR (op_lsn (by have := g.r0.units; omega)) (okE a c X g l h) (pe_lst pa_nil) rfl)
                | cons _ _ => exact ff h
              | _ => exact ff h
    | _ => exact ff h
  | .leq a, c, X, g, e, h => by
    cases e with
    | Compare l ops rs p =>
      cases ops with
      | nil => exact ff h
      | cons op ops =>
        cases rs with
        | nil => cases ops <;> cases op <;> exact ff h
        | cons r rs =>
          cases ops with
          | cons _ _ => cases op <;> exact ff h
          | nil =>
            cases op <;> first | (cases rs <;> cases r <;> exact ff h) | skip
            cases rs with
            | cons _ _ => cases r <;> first | exact ff h | (rename_i es _; cases es <;> exact ff h)
            | nil =>
              cases r with
              | List es q =>
                cases es with
                | nil => exact e_lse (f := id) (pe_cmpR (op_lse (by have := g.r0.units; omega)) (okE a c X g l h) (pe_lst pa_nil) rfl)
                | cons _ _ => exact ff h
              | _ => exact ff h
    | _ => exact ff h
  | .cne a, c, X, g, e, h => by
    cases e with
    | Compare l ops rs p =>
      cases ops with
      | nil => exact ff h
      | cons op ops =>
        cases rs with
        | nil => cases ops <;> cases op <;> exact ff h
        | cons r rs =>
          cases ops with
          | cons _ _ => cases op <;> exact ff h
          | nil =>
            cases op <;> first | (cases rs <;> cases r <;> exact ff h) | skip
            cases rs with
            | cons _ _ => cases r <;> first | exact ff h | (rename_i es _; cases es <;> exact ff h)
            | nil =>
              cases r with
              | List es q =>
                cases es with
                | nil => exact e_cne (pe_cmpR (op_neD g.r0.units) (okE a c X g l h) (pe_lst pa_nil) rfl)
                | cons _ _ => exact ff h
              | _ => exact ff h
    | _ => exact ff h
  | .ceq a, c, X, g, e, h => by
    cases e with
    | Compare l ops rs p =>
      cases ops with
      | nil => exact ff h
      | cons op ops =>
        cases rs with
        | nil => cases ops <;> cases op <;> exact ff h
        | cons r rs =>
          cases ops with
          | cons _ _ => cases op <;> exact ff h
          | nil =>
            cases op <;> first | (cases rs <;> cases r <;> exact ff h) | skip
            cases rs with
            | cons _ _ => cases r <;> first | exact ff h | (rename_i es _; cases es <;> exact ff h)
            | nil =>
              cases r with
              | List es q =>
                cases es with
                | nil => exact e_ceq (pe_cmpR (op_eqD g.r0.units) (okE a c X g l h) (pe_lst pa_nil) rfl)
                | cons _ _ => exact ff h
              | _ => exact ff h
    | _ => exact ff h
  | .opop i, c, X, g, e, h => by
    cases e with
    | Call fn xs ks p =>
      cases fn with
      | Attribute v m ap =>
        cases xs with
        | cons _ _ => cases ks <;> exact ff h
        | nil =>
          cases ks with
          | cons _ _ => exact ff h
          | nil =>
            obtain ⟨h, h3⟩ := an (show (chkVar c i v && isNm "pop" m && (ap.endLine == p.line)) = true from h)
            obtain ⟨h1, h2⟩ := an h
            have e : m = Str.ofString "pop" := of_decide_eq_true h2
            subst e
            exact e_opop (pe_bm0 PySem.F.plainAttrs_list PySem.F.slot_list_pop PySem.F.type_list_pop mt_pop (var_pe g h1) (attr_plain (var_attr h1)) h3)
      | _ => cases xs <;> cases ks <;> exact ff h
    | _ => exact ff h
  | .cpop o, c, X, g, e, h => by
    cases e with
    | Call fn xs ks p =>
      cases fn with
      | Attribute v m ap =>
        cases xs with
        | cons _ _ => cases ks <;> exact ff h
        | nil =>
          cases ks with
          | cons _ _ => exact ff h
          | nil =>
            obtain ⟨h, h4⟩ := an (show (chkE c o v && attrOk v && isNm "pop" m && (ap.endLine == p.line)) = true from h)
            obtain ⟨h, h3⟩ := an h
            obtain ⟨h1, h2⟩ := an h
            have e : m = Str.ofString "pop" := of_decide_eq_true h3
            subst e
            exact e_cpop (pe_bm0 PySem.F.plainAttrs_list PySem.F.slot_list_pop PySem.F.type_list_pop mt_pop (okE o _ _ g v h1) (attr_plain h2) h4)
      | _ => cases xs <;> cases ks <;> exact ff h
    | _ => exact ff h
  | .cpopA o k, c, X, g, e, h => by
    cases e with
    | Call fn xs ks p =>
      cases fn with
      | Attribute v m ap =>
        cases xs with
        | nil => cases ks <;> exact ff h
        | cons x xs =>
          cases xs with
          | cons _ _ => cases ks <;> exact ff h
          | nil =>
            cases ks with
            | cons _ _ => exact ff h
            | nil =>
              obtain ⟨h, h6⟩ := an (show (chkE c o v && attrOk v && isNm "pop" m && (ap.endLine == p.line) && chkE c k x && notStar x) = true from h)
              obtain ⟨h, h5⟩ := an h
              obtain ⟨h, h4⟩ := an h
              obtain ⟨h, h3⟩ := an h
              obtain ⟨h1, h2⟩ := an h
              have e : m = Str.ofString "pop" := of_decide_eq_true h3
              subst e
              exact e_cpopA (pe_bm PySem.F.plainAttrs_list PySem.F.slot_list_pop PySem.F.type_list_pop mt_popAt (okE o _ _ g v h1) (pa_cons (okE k _ _ g x h5) pa_nil (star_cons h6)) (attr_plain h2) (few1 h6) h4 (star_cons h6) rfl)
      | _ => cases xs <;> cases ks <;> first | exact ff h | (rename_i q _; cases q <;> exact ff h)
    | _ => exact ff h
  | .indx o k, c, X, g, e, h => by
    cases e with
    | Call fn xs ks p =>
      cases fn with
      | Attribute v m ap =>
        cases xs with
        | nil => cases ks <;> exact ff h
        | cons x xs =>
          cases xs with
          | cons _ _ => cases ks <;> exact ff h
          | nil =>
            cases ks with
            | cons _ _ => exact ff h
            | nil =>
              obtain ⟨h, h6⟩ := an (show (chkE c o v && attrOk v && isNm "index" m && (ap.endLine == p.line) && chkE c k x && notStar x) = true from h)
              obtain ⟨h, h5⟩ := an h
              obtain ⟨h, h4⟩ := an h
              obtain ⟨h, h3⟩ := an h
              obtain ⟨h1, h2⟩ := an h
              have e : m = Str.ofString "index" := of_decide_eq_true h3
              subst e
              exact e_indx g.r0 (pe_bm PySem.F.plainAttrs_list PySem.F.slot_list_index PySem.F.type_list_index (mt_indexD (by have := g.r0.un; omega)) (okE o _ _ g v h1) (pa_cons (okE k _ _ g x h5) pa_nil (star_cons h6)) (attr_plain h2) (few1 h6) h4 (star_cons h6) rfl)
      | _ => cases xs <;> cases ks <;> first | exact ff h | (rename_i q _; cases q <;> exact ff h)
    | _ => exact ff h
  | .mxo kk a b, c, X, g, e, h => by
    cases e with
    | Call fn xs ks p =>
      cases xs with
      | nil => exact ff h
      | cons x xs =>
        cases xs with
        | cons _ _ => exact ff h
        | nil =>
          cases ks with
          | nil => exact ff h
          | cons kw ks =>
            obtain ⟨nm, v, kp⟩ := kw
            cases ks with
            | cons _ _ => cases nm <;> exact ff h
            | nil =>
              cases nm with
              | none => exact ff h
              | some nm =>
                obtain ⟨h, h5⟩ := an (show (chkG c (if kk = true then "max" else "min") fn && chkE c a x && notStar x && isNm "default" nm && chkE c b v) = true from h)
                obtain ⟨h, h4⟩ := an h
                obtain ⟨h, h3⟩ := an h
                obtain ⟨h1, h2⟩ := an h
                have e : nm = Str.ofString "default" := of_decide_eq_true h4
                subst e
                obtain ⟨q, rfl, hg, hp⟩ := chkG_inv g h1
                obtain ⟨p1, _, p3⟩ := plainNm_inv hp
                cases kk with
                | true =>
                  refine pe_weak (e_mxo (pe_callBK (c_maxo g.calm g.r0) hg (g.blt _ (by decide)) (by decide +kernel) (pa_cons (okE a _ _ g x h2) pa_nil (star_cons h3)) (pk_cons (okE b _ _ g v h5) pk_nil) p3 p1 (by rw [star_cons h3]; rfl) (any1 h3))) fun σ H Q q => ?_
                  obtain ⟨B, F, ρ, C, P, R, m, k⟩ := q
                  exact ⟨B, F, ρ, C, P, R, m, k⟩
                | false =>
                  refine pe_weak (e_mxo (pe_callBK (c_mino g.calm g.r0) hg (g.blt _ (by decide)) (by decide +kernel) (pa_cons (okE a _ _ g x h2) pa_nil (star_cons h3)) (pk_cons (okE b _ _ g v h5) pk_nil) p3 p1 (by rw [star_cons h3]; rfl) (any1 h3))) fun σ H Q q => ?_
                  obtain ⟨B, F, ρ, C, P, R, m, k⟩ := q
                  exact ⟨B, F, ρ, C, P, R, m, k⟩
    | _ => exact ff h
  | .gget x kvs a, c, X, g, e, h => by
    cases e with
    | Call fn xs ks p =>
      cases fn with
      | Attribute v m ap =>
        cases v with
        | Name y yp =>
          cases xs with
          | nil => cases ks <;> exact ff h
          | cons e xs =>
            cases xs with
            | cons _ _ => cases ks <;> exact ff h
            | nil =>
              cases ks with
              | cons _ _ => exact ff h
              | nil =>
                obtain ⟨h, h8⟩ := an (show (isNm x y && glB c.sc y && plainNm y && c.dcts.contains (x, kvs) && isNm "get" m && (ap.endLine == p.line) && chkE c a e && notStar e) = true from h)
                obtain ⟨h, h7⟩ := an h
                obtain ⟨h, h6⟩ := an h
                obtain ⟨h, h5⟩ := an h
                obtain ⟨h, h4⟩ := an h
                obtain ⟨h, h3⟩ := an h
                obtain ⟨h1, h2⟩ := an h
                have e1 : y = Str.ofString x := of_decide_eq_true h1
                have e2 : m = Str.ofString "get" := of_decide_eq_true h5
                subst e1 e2
                obtain ⟨u, hm, d⟩ := g.dct x kvs h4
                exact e_gget (pe_gget (pe_glob (by show X.env.scope.names.lookup _ = _; rw [g.sc]; exact of_decide_eq_true h2) hm rfl (plainNm_inv h3).1) d (okE a _ _ g e h7) ⟨rfl, few1 h8, h6, by rw [star_cons h8]; rfl⟩)
        | _ => cases xs <;> cases ks <;> first | exact ff h | (rename_i q _; cases q <;> exact ff h)
      | _ => cases xs <;> cases ks <;> first | exact ff h | (rename_i q _; cases q <;> exact ff h)
    | _ => exact ff h
  | .upr a, c, X, g, e, h => by
    cases e with
    | Call fn xs ks p =>
      cases fn with
      | Attribute v m ap =>
        cases xs with
        | cons _ _ => cases ks <;> exact ff h
        | nil =>
          cases ks with
          | cons _ _ => exact ff h
          | nil =>
            obtain ⟨h, h4⟩ := an (show (chkE c a v && attrOk v && isNm "upper" m && (ap.endLine == p.line)) = true from h)
            obtain ⟨h, h3⟩ := an h
            obtain ⟨h1, h2⟩ := an h
            have e : m = Str.ofString "upper" := of_decide_eq_true h3
            subst e
            exact e_upr (pe_bm0 PySem.F.plainAttrs_str PySem.F.slot_str_upper PySem.F.type_str_upper mt_upper (okE a _ _ g v h1) (attr_plain h2) h4)
      | _ => cases xs <;> cases ks <;> exact ff h
    | _ => exact ff h
  | .orv a b, c, X, g, e, h => by
    cases e with
    | BoolOp op xs p =>
      cases op with
      | And => cases xs with
        | nil => exact ff h
        | cons _ xs => cases xs with
          | nil => exact ff h
          | cons _ xs => cases xs <;> exact ff h
      | Or =>
        cases xs with
        | nil => exact ff h
        | cons x xs =>
          cases xs with
          | nil => exact ff h
          | cons y xs =>
            cases xs with
            | nil =>
              obtain ⟨h1, h2⟩ := an (show (chkE c a x && chkE c b y) = true from h)
              exact e_orv (pe_orT (okE a _ _ g x h1) (pe_one (okE b _ _ g y h2)))
            | cons z r =>
              obtain ⟨h1, h2⟩ := an (show (chkE c a x && chkE c b (.BoolOp .Or (y :: z :: r) p)) = true from h)
              exact e_orv (pe_orT (okE a _ _ g x h1) (okE b _ _ g (.BoolOp _ (y :: z :: r) p) h2))
    | _ => exact ff h
theorem okT : ∀ (t : T) (c : Cfg) (X : Cx) (_ : Good c G n X) (e : Expr), chkT c t e = true → PT X e (rdT X.K (denT G t))
  | .and a b, c, X, g, e, h => by
    cases e with
    | BoolOp op xs p =>
      cases op with
      | Or => cases xs with
        | nil => exact ff h
        | cons _ xs => cases xs with
          | nil => exact ff h
          | cons _ xs => cases xs <;> exact ff h
      | And =>
        cases xs with
        | nil => exact ff h
        | cons x xs =>
          cases xs with
          | nil => exact ff h
          | cons y xs =>
            cases xs with
            | nil =>
              obtain ⟨h1, h2⟩ := an (show (chkT c a x && chkT c b y) = true from h)
              exact t_and (PW.pt (pw_and (okT a _ _ g x h1) (pw_and1 (okT b _ _ g y h2))))
            | cons z r =>
              obtain ⟨h1, h2⟩ := an (show (chkT c a x && chkT c b (.BoolOp .And (y :: z :: r) p)) = true from h)
              exact t_and (PW.pt (pw_and (okT a _ _ g x h1) (pw_of_pt (okT b _ _ g (.BoolOp _ (y :: z :: r) p) h2))))
    | _ => exact ff h
  | .or a b, c, X, g, e, h => by
    cases e with
    | BoolOp op xs p =>
      cases op with
      | And => cases xs with
        | nil => exact ff h
        | cons _ xs => cases xs with
          | nil => exact ff h
          | cons _ xs => cases xs <;> exact ff h
      | Or =>
        cases xs with
        | nil => exact ff h
        | cons x xs =>
          cases xs with
          | nil => exact ff h
          | cons y xs =>
            cases xs with
            | nil =>
              obtain ⟨h1, h2⟩ := an (show (chkT c a x && chkT c b y) = true from h)
              exact t_or (PW.pt (pw_or (okT a _ _ g x h1) (pw_or1 (okT b _ _ g y h2))))
            | cons z r =>
              obtain ⟨h1, h2⟩ := an (show (chkT c a x && chkT c b (.BoolOp .Or (y :: z :: r) p)) = true from h)
              exact t_or (PW.pt (pw_or (okT a _ _ g x h1) (pw_of_pt (okT b _ _ g (.BoolOp _ (y :: z :: r) p) h2))))
    | _ => exact ff h
  | .not a, c, X, g, e, h => by
    cases e with
    | UnaryOp op x p =>
      cases op with
      | Not => exact t_not (pt_not (okT a _ _ g x h))
      | _ => exact ff h
    | _ => exact ff h
  | .cmp o a b, c, X, g, e, h => by
    cases e with
    | Compare l ops rs p =>
      cases ops with
      | nil => exact ff h
      | cons op ops =>
        cases ops with
        | cons _ _ => exact ff h
        | nil =>
          cases rs with
          | nil => exact ff h
          | cons r rs =>
            cases rs with
            | cons _ _ => exact ff h
            | nil =>
              obtain ⟨h, h4⟩ := an (show (decide (op = copOf o) && chkE c a l && chkE c b r && !behindInMarks op r) = true from h)
              obtain ⟨h, h3⟩ := an h
              obtain ⟨h1, h2⟩ := an h
              have e : op = copOf o := of_decide_eq_true h1
              subst e
              exact t_cmp (pt_cmpR (s_cmp g.r0 o) (okE a _ _ g l h2) (okE b _ _ g r h3) (by simpa using h4))
    | _ => exact ff h
  | .chn o o' a b d, c, X, g, e, h => by
    cases e with
    | Compare l ops rs p =>
      cases ops with
      | nil => exact ff h
      | cons op ops =>
        cases ops with
        | nil => cases rs with
          | nil => exact ff h
          | cons _ rs => cases rs <;> exact ff h
        | cons op' ops =>
          cases ops with
          | cons _ _ => exact ff h
          | nil =>
            cases rs with
            | nil => exact ff h
            | cons m rs =>
              cases rs with
              | nil => exact ff h
              | cons r rs =>
                cases rs with
                | cons _ _ => exact ff h
                | nil =>
                  obtain ⟨h, h6⟩ := an (show (decide (op = copOf o) && decide (op' = copOf o') && chkE c a l && chkE c b m && chkE c d r && !lastMarks [op, op'] [m, r]) = true from h)
                  obtain ⟨h, h5⟩ := an h
                  obtain ⟨h, h4⟩ := an h
                  obtain ⟨h, h3⟩ := an h
                  obtain ⟨h1, h2⟩ := an h
                  have e : op = copOf o := of_decide_eq_true h1
                  have e' : op' = copOf o' := of_decide_eq_true h2
                  subst e e'
                  exact t_chn (pt_chain (s_cmp g.r0 o) (s_cmp g.r0 o') (okE a _ _ g l h3) (okE b _ _ g m h4) (okE d _ _ g r h5) (by simpa using h6))
    | _ => exact ff h
  | .chn3 o o' o'' a b d f, c, X, g, e, h => by
    cases e with
    | Compare l ops rs p =>
      rcases ops with _ | ⟨op, _ | ⟨op', _ | ⟨op'', _ | ⟨_, _⟩⟩⟩⟩ <;> rcases rs with _ | ⟨m, _ | ⟨r, _ | ⟨q, _ | ⟨_, _⟩⟩⟩⟩ <;> first | exact ff h | skip
      obtain ⟨h, h8⟩ := an (show (decide (op = copOf o) && decide (op' = copOf o') && decide (op'' = copOf o'') && chkE c a l && chkE c b m && chkE c d r && chkE c f q && !lastMarks [op, op', op''] [m, r, q]) = true from h)
      obtain ⟨h, h7⟩ := an h
      obtain ⟨h, h6⟩ := an h
      obtain ⟨h, h5⟩ := an h
      obtain ⟨h, h4⟩ := an h
      obtain ⟨h, h3⟩ := an h
      obtain ⟨h1, h2⟩ := an h
      have e : op = copOf o := of_decide_eq_true h1
      have e' : op' = copOf o' := of_decide_eq_true h2
      have e'' : op'' = copOf o'' := of_decide_eq_true h3
      subst e e' e''
      exact t_chn3 (pt_chain3 (s_cmp g.r0 o) (s_cmp g.r0 o') (s_cmp g.r0 o'') (okE a _ _ g l h4) (okE b _ _ g m h5) (okE d _ _ g r h6) (okE f _ _ g q h7) (by simpa using h8))
    | _ => exact ff h
  | .one i, c, X, g, e, h => by
    cases e with
    | Compare l ops rs p =>
      cases ops with
      | nil => exact ff h
      | cons op ops =>
        cases rs with
        | nil => cases ops <;> cases op <;> exact ff h
        | cons r rs =>
          cases ops with
          | cons _ _ => cases op <;> exact ff h
          | nil =>
            cases op <;> first | (cases rs <;> cases r <;> exact ff h) | skip
            cases rs with
            | cons _ _ => cases r <;> first | exact ff h | (rename_i es _; cases es <;> exact ff h)
            | nil =>
              cases r with
              | List es q =>
                cases es with
                | nil => exact t_one (pt_cmpR (op_neD g.r0.units) (var_pe g h) (pe_lst pa_nil) rfl)
                | cons _ _ => exact ff h
              | _ => exact ff h
    | _ => exact ff h
  | .oem i, c, X, g, e, h => by
    cases e with
    | Compare l ops rs p =>
      cases ops with
      | nil => exact ff h
      | cons op ops =>
        cases rs with
        | nil => cases ops <;> cases op <;> exact ff h
        | cons r rs =>
          cases ops with
          | cons _ _ => cases op <;> exact ff h
          | nil =>
            cases op <;> first | (cases rs <;> cases r <;> exact ff h) | skip
            cases rs with
            | cons _ _ => cases r <;> first | exact ff h | (rename_i es _; cases es <;> exact ff h)
            | nil =>
              cases r with
              | List es q =>
                cases es with
                | nil => exact t_oem (pt_cmpR (op_eqD g.r0.units) (var_pe g h) (pe_lst pa_nil) rfl)
                | cons _ _ => exact ff h
              | _ => exact ff h
    | _ => exact ff h
  | .tne a, c, X, g, e, h => by
    cases e with
    | Compare l ops rs p =>
      cases ops with
      | nil => exact ff h
      | cons op ops =>
        cases rs with
        | nil => cases ops <;> cases op <;> exact ff h
        | cons r rs =>
          cases ops with
          | cons _ _ => cases op <;> exact ff h
          | nil =>
            cases op <;> first | (cases rs <;> cases r <;> exact ff h) | skip
            cases rs with
            | cons _ _ => cases r <;> first | exact ff h | (rename_i es _ _; cases es <;> exact ff h)
            | nil =>
              cases r with
              | Tuple es k q =>
                cases es with
                | nil => exact t_tpe (pt_cmpR (op_tpn (by have := g.r0.units; omega)) (okE a c X g l h) (pe_tup pa_nil) rfl)
                | cons _ _ => exact ff h
              | _ => exact ff h
    | _ => exact ff h
  | .teq a, c, X, g, e, h => by
    cases e with
    | Compare l ops rs p =>
      cases ops with
      | nil => exact ff h
      | cons op ops =>
        cases rs with
        | nil => cases ops <;> cases op <;> exact ff h
        | cons r rs =>
          cases ops with
          | cons _ _ => cases op <;> exact ff h
          | nil =>
            cases op <;> first | (cases rs <;> cases r <;> exact ff h) | skip
            cases rs with
            | cons _ _ => cases r <;> first | exact ff h | (rename_i es _ _; cases es <;> exact ff h)
            | nil =>
              cases r with
              | Tuple es k q =>
                cases es with
                | nil => exact t_tpe (pt_cmpR (op_tpe (by have := g.r0.units; omega)) (okE a c X g l h) (pe_tup pa_nil) rfl)
                | cons _ _ => exact ff h
              | _ => exact ff h
    | _ => exact ff h
  | .lne a, c, X, g, e, h => by
    cases e with
    | Compare l ops rs p =>
      cases ops with
      | nil => exact ff h
      | cons op ops =>
        cases rs with
        | nil => cases ops <;> cases op <;> exact ff h
        | cons r rs =>
          cases ops with
          | cons _ _ => cases op <;> exact ff h
          | nil =>
            cases op <;> first | (cases rs <;> cases r <;> exact ff h) | skip
            cases rs with
            | cons _ _ => cases r <;> first | exact ff h | (rename_i es _; cases es <;> exact ff h)
            | nil =>
              cases r with
              | List es q =>
                cases es with
                | nil => exact t_lse (f := (!·)) (pt_cmpR (op_lsn (by have := g.r0.units; omega)) (okE a c X g l h) (pe_lst pa_nil) rfl)
                | cons _ _ => exact ff h
              | _ => exact ff h
    | _ => exact ff h
  | .leq a, c, X, g, e, h => by
    cases e with
    | Compare l ops rs p =>
      cases ops with
      | nil => exact ff h
      | cons op ops =>
        cases rs with
        | nil => cases ops <;> cases op <;> exact ff h
        | cons r rs =>
          cases ops with
          | cons _ _ => cases op <;> exact ff h
          | nil =>
            cases op <;> first | (cases rs <;> cases r <;> exact ff h) | skip
            cases rs with
            | cons _ _ => cases r <;> first | exact ff h | (rename_i es _; cases es <;> exact ff h)
            | nil =>
              cases r with
              | List es q =>
                cases es with
                | nil => exact t_lse (f := id) (pt_cmpR (op_lse (by have := g.r0.units; omega)) (okE a c X g l h) (pe_lst pa_nil) rfl)
                | cons _ _ => exact ff h
              | _ => exact ff h
    | _ => exact ff h
  | .cne a, c, X, g, e, h => by
    cases e with
    | Compare l ops rs p =>
      cases ops with
      | nil => exact ff h
      | cons op ops =>
        cases rs with
        | nil => cases ops <;> cases op <;> exact ff h
        | cons r rs =>
          cases ops with
          | cons _ _ => cases op <;> exact ff h
          | nil =>
            cases op <;> first | (cases rs <;> cases r <;> exact ff h) | skip
            cases rs with
            | cons _ _ => cases r <;> first | exact ff h | (rename_i es _; cases es <;> exact ff h)
            | nil =>
              cases r with
              | List es q =>
                cases es with
                | nil => exact t_cne (pt_cmpR (op_neD g.r0.units) (okE a c X g l h) (pe_lst pa_nil) rfl)
                | cons _ _ => exact ff h
              | _ => exact ff h
    | _ => exact ff h
  | .ceq a, c, X, g, e, h => by
    cases e with
    | Compare l ops rs p =>
      cases ops with
      | nil => exact ff h
      | cons op ops =>
        cases rs with
        | nil => cases ops <;> cases op <;> exact ff h
        | cons r rs =>
          cases ops with
          | cons _ _ => cases op <;> exact ff h
          | nil =>
            cases op <;> first | (cases rs <;> cases r <;> exact ff h) | skip
            cases rs with
            | cons _ _ => cases r <;> first | exact ff h | (rename_i es _; cases es <;> exact ff h)
            | nil =>
              cases r with
              | List es q =>
                cases es with
                | nil => exact t_ceq (pt_cmpR (op_eqD g.r0.units) (okE a c X g l h) (pe_lst pa_nil) rfl)
                | cons _ _ => exact ff h
              | _ => exact ff h
    | _ => exact ff h
  | .val a, c, X, g, e, h => by
    obtain ⟨h1, h2⟩ := an (show (chkE c a e && plainTest e) = true from h)
    exact t_val (okE a _ _ g e h1) (test_plain h2)
theorem okEs : ∀ (as : Es) (c : Cfg) (X : Cx) (_ : Good c G n X) (es : List Expr), chkEs c as es = true → PA X es (rdA X.K (denEs G as))
  | .nil, c, X, g, [], _ => a_nil
  | .nil, c, X, g, _ :: _, h => ff h
  | .cons _ _, c, X, g, [], h => ff h
  | .cons a as, c, X, g, e :: es, h => by
    obtain ⟨h, h3⟩ := an (show (chkE c a e && notStar e && chkEs c as es) = true from h)
    obtain ⟨h1, h2⟩ := an h
    exact a_cons (pa_cons (okE a _ _ g e h1) (okEs as _ _ g es h3) (star_cons h2))
theorem okPs : ∀ (as : Es) (c : Cfg) (X : Cx) (_ : Good c G n X) (ks : List String) (keys : List (Option Expr)) (vals : List Expr) (p : Pos), chkKs ks keys = true → chkEs c as vals = true → keys.length = vals.length → PPs X p keys vals (pairsT X.K ks (msOf G as))
  | .nil, c, X, g, ks, keys, [], p, h1, h2, hl => by
    have := List.length_eq_zero_iff.mp hl
    subst this
    cases ks with
    | nil => exact pps_nil
    | cons _ _ => exact ff h1
  | .nil, c, X, g, ks, keys, _ :: _, p, h1, h2, hl => ff h2
  | .cons a as, c, X, g, ks, keys, [], p, h1, h2, hl => ff h2
  | .cons a as, c, X, g, ks, [], e :: es, p, h1, h2, hl => by cases hl
  | .cons a as, c, X, g, [], k :: keys, e :: es, p, h1, h2, hl => ff h1
  | .cons a as, c, X, g, k0 :: ks, none :: keys, e :: es, p, h1, h2, hl => ff h1
  | .cons a as, c, X, g, k0 :: ks, some k :: keys, e :: es, p, h1, h2, hl => by
    obtain ⟨h, h4⟩ := an (show (chkE c a e && notStar e && chkEs c as es) = true from h2)
    obtain ⟨h3, _⟩ := an h
    cases k with
    | Constant w j p2 =>
      cases w with
      | str x =>
        obtain ⟨q1, q2⟩ := an (show (isNm k0 x && chkKs ks keys) = true from h1)
        have e1 : x = Str.ofString k0 := of_decide_eq_true q1
        subst e1
        exact pps_cons pe_str (okE a _ _ g e h3) (okPs as c X g ks keys es p q2 h4 (Nat.succ.inj hl))
      | _ => exact ff h1
    | _ => exact ff h1
theorem okO : ∀ (a : O) (c : Cfg) (X : Cx) (_ : Good c G n X) (e : Option Expr), chkO c a e = true → PO X e (rdO X.K (denO G a))
  | .no, c, X, g, none, _ => o_no
  | .no, c, X, g, some _, h => ff h
  | .yes _, c, X, g, none, h => ff h
  | .yes a, c, X, g, some e, h => o_yes (okE a _ _ g e h)
theorem okC : ∀ (a : Oc) (c : Cfg) (X : Cx) (_ : Good c G n X) (e : List Expr), chkC c a e = true → PTs X e (rdT X.K (denC G a))
  | .no, c, X, g, [], _ => c_no
  | .no, c, X, g, _ :: _, h => ff h
  | .yes _, c, X, g, [], h => ff h
  | .yes _, c, X, g, _ :: _ :: _, h => ff h
  | .yes a, c, X, g, [e], h => c_yes (okT a _ _ g e h)
theorem okL : ∀ (l : L) (c : Cfg) (X : Cx) (_ : Good c G n X) (e : Expr), chkL c l e = true → PE X e (rdL X.K (denL G l)) ∧ SwOk X c e (rdL X.K (denL G l))
  | .lit es, c, X, g, e, h => by
    cases e with
    | List xs p => exact ⟨l_lit (pe_lst (okEs es _ _ g xs h)), swok_no rfl⟩
    | _ => exact ff h
  | .comp own elt tg it t, c, X, g, e, h => by
    cases e with
    | ListComp el gs scope p =>
      cases gs with
      | nil => exact ff h
      | cons ge gs =>
        obtain ⟨ta, ie, ifs, as⟩ := ge
        cases gs with
        | cons _ _ => cases as with
          | ofNat k => cases k <;> exact ff h
          | negSucc _ => exact ff h
        | nil =>
          cases as with
          | negSucc _ => exact ff h
          | ofNat k =>
           cases k with
           | succ _ => exact ff h
           | zero =>
            have h : (chkI c it ta ie && blkC c.N c.sc scope (own.filterMap fun i => c.N[i]?.map fun x => (x, i)) && decide ((own.filterMap fun i => c.N[i]?.map fun x => (x, i)).map (·.2) = own) && (tgSlots tg).all (fun i => own.contains i) &&
              chkTg { c with sc := relS scope c.sc, blk := some scope } tg ta && chkC { c with sc := relS scope c.sc, blk := some scope } t ifs && chkE { c with sc := relS scope c.sc, blk := some scope } elt el && notSet ie) = true := h
            generalize hnm : (own.filterMap fun i => c.N[i]?.map fun x => (x, i)) = nm at h
            obtain ⟨h, h8⟩ := an h
            obtain ⟨h, h7⟩ := an h
            obtain ⟨h, h6⟩ := an h
            obtain ⟨h, h5⟩ := an h
            obtain ⟨h, h4⟩ := an h
            obtain ⟨h, h3⟩ := an h
            obtain ⟨h1, h2⟩ := an h
            have e3 : nm.map (·.2) = own := of_decide_eq_true h3
            have bk : BlkOk X.N X.env.scope scope nm := by rw [g.hN, g.sc]; exact blkOk_by h2
            have hsub : ∀ i ∈ tgSlots tg, i ∈ nm.map (·.2) := fun i hi => by
              rw [e3]
              have := List.all_eq_true.mp h4 i hi
              simpa using this
            have hI := okI it _ _ g ta ie h1
            have hT := fun (s : Shared) (H : Hp) (C : Addr) (cl : List (Str × Addr)) (fp : List Addr) => okTg (g.blk bk.kind s H C cl fp) tg ta h5
            have hC := fun (s : Shared) (H : Hp) (C : Addr) (cl : List (Str × Addr)) (fp : List Addr) => okC t _ _ (g.blk bk.kind s H C cl fp) ifs h6
            have hE := fun (s : Shared) (H : Hp) (C : Addr) (cl : List (Str × Addr)) (fp : List Addr) => okE elt _ _ (g.blk bk.kind s H C cl fp) el h7
            have nd : X.N.Nodup := by rw [g.hN]; exact g.nd
            have key : ∀ (σ : L2.St) (H : Hp) (Q : VK), rdL X.K (denL G (.comp own elt tg it t)) σ H Q → tLc (rdI X.K (denI G it)) (rg X.K tg) (rdT X.K (denC G t)) (rd X.K (denE G elt)) (nm.map (·.2)) σ H Q := fun σ H Q q => by
              refine te_comp hsub σ H Q ?_
              rw [e3]
              exact q
            refine ⟨pe_weak (pe_lc g.calm nd hI bk hT hC hE (notSet_inv h8)) key, fun i x px sp hi hs => ?_⟩
            obtain ⟨hs, s3⟩ := an (show (decide (c.sc.names.lookup x = some .local) && (px.line == p.line) && !(scope.names.any fun (n, k) => n == x && (k == .local || k == .cell))) = true from hs)
            obtain ⟨s1, s2⟩ := an hs
            have lx : X.env.scope.names.lookup x = some .local := by rw [g.sc]; exact of_decide_eq_true s1
            exact ps_weak (ps_setLc g.calm nd (by rw [g.hN]; exact hi) lx (sw_any (by rw [g.sc]; exact g.kind) lx s2 (by simpa using s3)) hI bk hT hC hE (notSet_inv h8)) fun D σ H q => key σ H _ q
    | _ => exact ff h
  | .compc own elt tg it t, c, X, g, e, h => by
    cases e with
    | ListComp el gs scope p =>
      cases gs with
      | nil => exact ff h
      | cons ge gs =>
        obtain ⟨ta, ie, ifs, as⟩ := ge
        cases gs with
        | cons _ _ => cases as with
          | ofNat k => cases k <;> exact ff h
          | negSucc _ => exact ff h
        | nil =>
          cases as with
          | negSucc _ => exact ff h
          | ofNat k =>
           cases k with
           | succ _ => exact ff h
           | zero =>
            have h : (chkE c it ie && blkC c.N c.sc scope (own.filterMap fun i => c.N[i]?.map fun x => (x, i)) && decide ((own.filterMap fun i => c.N[i]?.map fun x => (x, i)).map (·.2) = own) && (tgSlots tg).all (fun i => own.contains i) &&
              chkTg { c with sc := relS scope c.sc, blk := some scope } tg ta && chkC { c with sc := relS scope c.sc, blk := some scope } t ifs && chkE { c with sc := relS scope c.sc, blk := some scope } elt el && notSet ie) = true := h
            generalize hnm : (own.filterMap fun i => c.N[i]?.map fun x => (x, i)) = nm at h
            obtain ⟨h, h8⟩ := an h
            obtain ⟨h, h7⟩ := an h
            obtain ⟨h, h6⟩ := an h
            obtain ⟨h, h5⟩ := an h
            obtain ⟨h, h4⟩ := an h
            obtain ⟨h, h3⟩ := an h
            obtain ⟨h1, h2⟩ := an h
            have e3 : nm.map (·.2) = own := of_decide_eq_true h3
            have bk : BlkOk X.N X.env.scope scope nm := by rw [g.hN, g.sc]; exact blkOk_by h2
            have hsub : ∀ i ∈ tgSlots tg, i ∈ nm.map (·.2) := fun i hi => by
              rw [e3]
              have := List.all_eq_true.mp h4 i hi
              simpa using this
            have hI : PI X ta ie (iSeq X.K (rd X.K (denE G it))) := pi_seq (okE it _ _ g ie h1)
            have hT := fun (s : Shared) (H : Hp) (C : Addr) (cl : List (Str × Addr)) (fp : List Addr) => okTg (g.blk bk.kind s H C cl fp) tg ta h5
            have hC := fun (s : Shared) (H : Hp) (C : Addr) (cl : List (Str × Addr)) (fp : List Addr) => okC t _ _ (g.blk bk.kind s H C cl fp) ifs h6
            have hE := fun (s : Shared) (H : Hp) (C : Addr) (cl : List (Str × Addr)) (fp : List Addr) => okE elt _ _ (g.blk bk.kind s H C cl fp) el h7
            have nd : X.N.Nodup := by rw [g.hN]; exact g.nd
            have key : ∀ (σ : L2.St) (H : Hp) (Q : VK), rdL X.K (denL G (.compc own elt tg it t)) σ H Q → tLc (iSeq X.K (rd X.K (denE G it))) (rg X.K tg) (rdT X.K (denC G t)) (rd X.K (denE G elt)) (nm.map (·.2)) σ H Q := fun σ H Q q => by
              refine te_compc hsub σ H Q ?_
              rw [e3]
              exact q
            refine ⟨pe_weak (pe_lc g.calm nd hI bk hT hC hE (notSet_inv h8)) key, fun i x px sp hi hs => ?_⟩
            obtain ⟨hs, s3⟩ := an (show (decide (c.sc.names.lookup x = some .local) && (px.line == p.line) && !(scope.names.any fun (n, k) => n == x && (k == .local || k == .cell))) = true from hs)
            obtain ⟨s1, s2⟩ := an hs
            have lx : X.env.scope.names.lookup x = some .local := by rw [g.sc]; exact of_decide_eq_true s1
            exact ps_weak (ps_setLc g.calm nd (by rw [g.hN]; exact hi) lx (sw_any (by rw [g.sc]; exact g.kind) lx s2 (by simpa using s3)) hI bk hT hC hE (notSet_inv h8)) fun D σ H q => key σ H _ q
    | _ => exact ff h
  | .list a, c, X, g, e, h => by
    cases e with
    | Call fn xs ks p =>
      cases xs with
      | nil => exact ff h
      | cons x xs =>
        cases xs with
        | cons _ _ => exact ff h
        | nil =>
          cases ks with
          | cons _ _ => exact ff h
          | nil =>
            obtain ⟨h, h3⟩ := an (show (chkG c "list" fn && chkE c a x && notStar x) = true from h)
            obtain ⟨h1, h2⟩ := an h
            obtain ⟨q, rfl, hg, hp⟩ := chkG_inv g h1
            obtain ⟨p1, _, p3⟩ := plainNm_inv hp
            refine ⟨pe_weak (l_call1 (pe_callTy c_list hg (g.blt _ (by decide)) (by decide +kernel) (pa_cons (okE a _ _ g x h2) pa_nil (star_cons h3)) p3 p1 (star_cons h3) rfl)) fun σ H Q q => ?_, swok_no rfl⟩
            obtain ⟨B, F, ρ, C, P, R, m, k⟩ := q
            refine ⟨B, F, ρ, C, P, R, ?_, k⟩
            exact m
    | _ => exact ff h
  | .srt a, c, X, g, e, h => by
    cases e with
    | Call fn xs ks p =>
      cases xs with
      | nil => exact ff h
      | cons x xs =>
        cases xs with
        | cons _ _ => exact ff h
        | nil =>
          cases ks with
          | cons _ _ => exact ff h
          | nil =>
            obtain ⟨h, h3⟩ := an (show (chkG c "sorted" fn && chkE c a x && notStar x) = true from h)
            obtain ⟨h1, h2⟩ := an h
            obtain ⟨q, rfl, hg, hp⟩ := chkG_inv g h1
            obtain ⟨p1, _, p3⟩ := plainNm_inv hp
            refine ⟨pe_weak (l_call1 (pe_callB c_sorted hg (g.blt _ (by decide)) (by decide +kernel) (pa_cons (okE a _ _ g x h2) pa_nil (star_cons h3)) p3 p1 (star_cons h3) rfl)) fun σ H Q q => ?_, swok_no rfl⟩
            obtain ⟨B, F, ρ, C, P, R, m, k⟩ := q
            exact ⟨B, F, ρ, C, P, R, m, k⟩
    | _ => exact ff h
  | .srr a, c, X, g, e, h => by
    cases e with
    | Call fn xs ks p =>
      cases xs with
      | nil => exact ff h
      | cons x xs =>
        cases xs with
        | cons _ _ => exact ff h
        | nil =>
          cases ks with
          | nil => exact ff h
          | cons kw ks =>
            obtain ⟨nm, v, kp⟩ := kw
            cases ks with
            | cons _ _ => cases nm <;> cases v <;> first | exact ff h | (rename_i k _ _; cases k <;> exact ff h)
            | nil =>
              cases nm with
              | none => exact ff h
              | some nm =>
                cases v with
                | Constant k j kp2 =>
                  cases k with
                  | bool bb =>
                    obtain ⟨h, h5⟩ := an (show (chkG c "sorted" fn && chkE c a x && notStar x && isNm "reverse" nm && bb) = true from h)
                    obtain ⟨h, h4⟩ := an h
                    obtain ⟨h, h3⟩ := an h
                    obtain ⟨h1, h2⟩ := an h
                    have e1 : nm = Str.ofString "reverse" := of_decide_eq_true h4
                    subst e1 h5
                    obtain ⟨q, rfl, hg, hp⟩ := chkG_inv g h1
                    obtain ⟨p1, _, p3⟩ := plainNm_inv hp
                    refine ⟨pe_weak (l_callK (pe_callBK c_sortedR hg (g.blt _ (by decide)) (by decide +kernel) (pa_cons (okE a _ _ g x h2) pa_nil (star_cons h3)) (pk_cons pe_bl pk_nil) p3 p1 (by rw [star_cons h3]; rfl) (by rw [star_cons h3]; rfl) rfl rfl rfl)) fun σ H Q q => ?_, swok_no rfl⟩
                    obtain ⟨B, F, ρ, C, P, R, m, k⟩ := q
                    exact ⟨B, F, ρ, C, P, R, m, k⟩
                  | _ => exact ff h
                | _ => exact ff h
    | _ => exact ff h
  | .ls2 a, c, X, g, e, h => by
    cases e with
    | Subscript v s p =>
      cases s with
      | Slice l u st p2 =>
        cases l with
        | none => exact ff h
        | some l =>
          cases l with
          | UnaryOp op x p3 =>
            cases op with
            | USub =>
              cases x with
              | Constant k j p4 =>
                cases k with
                | int i' =>
                  cases u with
                  | some _ => exact ff h
                  | none =>
                    cases st with
                    | none => exact ff h
                    | some q =>
                      cases q with
                      | UnaryOp op x p3 =>
                        cases op with
                        | USub =>
                          cases x with
                          | Constant k j p4 =>
                            cases k with
                            | int i =>
                              obtain ⟨h, h3⟩ := an (show (chkE c a v && decide (i' = 2) && decide (i = 1)) = true from h)
                              obtain ⟨h1, h2⟩ := an h
                              have e : i = 1 := of_decide_eq_true h3
                              have e' : i' = 2 := of_decide_eq_true h2
                              subst e e'
                              exact ⟨l_ls2 (pe_rev2 (okE a _ _ g v h1)), swok_no rfl⟩
                            | _ => exact ff h
                          | _ => exact ff h
                        | _ => exact ff h
                      | _ => exact ff h
                | _ => exact ff h
              | _ => exact ff h
            | _ => exact ff h
          | _ => exact ff h
      | _ => exact ff h
    | _ => exact ff h
  | .lrv a, c, X, g, e, h => by
    cases e with
    | Subscript v s p =>
      cases s with
      | Slice l u st p2 =>
        cases l with
        | some _ => exact ff h
        | none =>
          cases u with
          | some _ => exact ff h
          | none =>
            cases st with
            | none => exact ff h
            | some q =>
              cases q with
              | UnaryOp op x p3 =>
                cases op with
                | USub =>
                  cases x with
                  | Constant k j p4 =>
                    cases k with
                    | int i =>
                      obtain ⟨h1, h2⟩ := an (show (chkE c a v && decide (i = 1)) = true from h)
                      have e : i = 1 := of_decide_eq_true h2
                      subst e
                      exact ⟨l_lrv (pe_revL (okE a _ _ g v h1)), swok_no rfl⟩
                    | _ => exact ff h
                  | _ => exact ff h
                | _ => exact ff h
              | _ => exact ff h
      | _ => exact ff h
    | _ => exact ff h
  | .lrg1 a, c, X, g, e, h => by
    cases e with
    | Call fn xs ks p =>
      cases xs with
      | nil => exact ff h
      | cons u xs =>
        cases xs with
        | cons _ _ => cases u with
          | Call fm ys ls p2 => cases ys with
            | nil => exact ff h
            | cons _ ys => cases ys with
              | nil => cases ls <;> exact ff h
              | cons _ ys => exact ff h
          | _ => exact ff h
        | nil =>
          cases u with
          | Call fm ys ls p2 =>
            cases ys with
            | nil => exact ff h
            | cons x ys =>
              cases ys with
              | cons _ _ => exact ff h
              | nil =>
                cases ls with
                | cons _ _ => exact ff h
                | nil =>
                  cases ks with
                  | cons _ _ => exact ff h
                  | nil =>
                    obtain ⟨h, h4⟩ := an (show (chkG c "list" fn && chkG c "range" fm && chkE c a x && notStar x) = true from h)
                    obtain ⟨h, h3⟩ := an h
                    obtain ⟨h1, h2⟩ := an h
                    obtain ⟨q, rfl, hg, hp⟩ := chkG_inv g h1
                    obtain ⟨q2, rfl, hg2, hp2⟩ := chkG_inv g h2
                    exact ⟨l_lrg1 (pe_listRg g.calm hg (g.blt _ (by decide)) (prg_1 hg2 (g.blt _ (by decide)) (okE a _ _ g x h3) (star_cons h4)) rfl), swok_no rfl⟩
          | _ => exact ff h
    | _ => exact ff h
  | .lrg2 a b, c, X, g, e, h => by
    cases e with
    | Call fn xs ks p =>
      cases xs with
      | nil => exact ff h
      | cons u xs =>
        cases xs with
        | cons _ _ => cases u with
          | Call fm ys ls p2 => cases ys with
            | nil => exact ff h
            | cons _ ys => cases ys with
              | nil => exact ff h
              | cons _ ys => cases ys with
                | nil => cases ls <;> exact ff h
                | cons _ _ => exact ff h
          | _ => exact ff h
        | nil =>
          cases u with
          | Call fm ys ls p2 =>
            cases ys with
            | nil => exact ff h
            | cons x ys =>
              cases ys with
              | nil => exact ff h
              | cons y ys =>
                cases ys with
                | cons _ _ => exact ff h
                | nil =>
                  cases ls with
                  | cons _ _ => exact ff h
                  | nil =>
                    cases ks with
                    | cons _ _ => exact ff h
                    | nil =>
                      obtain ⟨h, h6⟩ := an (show (chkG c "list" fn && chkG c "range" fm && chkE c a x && notStar x && chkE c b y && notStar y) = true from h)
                      obtain ⟨h, h5⟩ := an h
                      obtain ⟨h, h4⟩ := an h
                      obtain ⟨h, h3⟩ := an h
                      obtain ⟨h1, h2⟩ := an h
                      obtain ⟨q, rfl, hg, hp⟩ := chkG_inv g h1
                      obtain ⟨q2, rfl, hg2, hp2⟩ := chkG_inv g h2
                      exact ⟨l_lrg2 (pe_listRg g.calm hg (g.blt _ (by decide)) (prg_2 hg2 (g.blt _ (by decide)) (okE a _ _ g x h3) (okE b _ _ g y h5) (star_cons h4) (star_cons h6) (any1 h6)) rfl), swok_no rfl⟩
          | _ => exact ff h
    | _ => exact ff h
  | .rep a b, c, X, g, e, h => by
    cases e with
    | BinOp l op r p =>
      cases op with
      | Mult =>
        obtain ⟨h1, h2⟩ := an (show (chkE c a l && chkE c b r) = true from h)
        exact ⟨l_rep (pe_op op_rep (okE a _ _ g l h1) (okE b _ _ g r h2)), swok_no rfl⟩
      | _ => exact ff h
    | _ => exact ff h
  | .cat a b, c, X, g, e, h => by
    cases e with
    | BinOp l op r p =>
      cases op with
      | Add =>
        obtain ⟨h1, h2⟩ := an (show (chkE c a l && chkE c b r) = true from h)
        exact ⟨l_cat (pe_op op_cat (okE a _ _ g l h1) (okE b _ _ g r h2)), swok_no rfl⟩
      | _ => exact ff h
    | _ => exact ff h
  | .rvd a, c, X, g, e, h => by
    cases e with
    | Call fn xs ks p =>
      cases xs with
      | nil => exact ff h
      | cons u xs =>
        cases xs with
        | cons _ _ =>
          cases u with
          | Call fm ys ls p2 =>
            cases ys with
            | nil => exact ff h
            | cons y ys =>
              cases ys with
              | nil => cases ls <;> exact ff h
              | cons _ _ => exact ff h
          | _ => exact ff h
        | nil =>
          cases u with
          | Call fm ys ls p2 =>
            cases ys with
            | nil => exact ff h
            | cons x ys =>
              cases ys with
              | cons _ _ => exact ff h
              | nil =>
                cases ls with
                | cons _ _ => exact ff h
                | nil =>
                  cases ks with
                  | cons _ _ => exact ff h
                  | nil =>
                    obtain ⟨h, h4⟩ := an (show (chkG c "list" fn && chkG c "reversed" fm && chkE c a x && notStar x) = true from h)
                    obtain ⟨h, h3⟩ := an h
                    obtain ⟨h1, h2⟩ := an h
                    obtain ⟨q, rfl, hg, hp⟩ := chkG_inv g h1
                    obtain ⟨q2, rfl, hg2, hp2⟩ := chkG_inv g h2
                    exact ⟨l_rvd (N1.pe_lstRev g.calm hg (g.blt _ (by decide)) hg2 (g.blt _ (by decide)) (okE a _ _ g x h3) (star_cons h4) rfl), swok_no rfl⟩
          | _ => exact ff h
    | _ => exact ff h
theorem okI : ∀ (i : I) (c : Cfg) (X : Cx) (_ : Good c G n X) (t e : Expr), chkI c i t e = true → PI X t e (rdI X.K (denI G i))
  | .seq a, c, X, g, t, e, h => i_seq (pi_seq (okE a _ _ g e h))
  | .rng1 a, c, X, g, t, e, h => by
    cases e with
    | Call fn xs ks p =>
      cases xs with
      | nil => exact ff h
      | cons x xs =>
        cases xs with
        | cons _ _ => exact ff h
        | nil =>
          cases ks with
          | cons _ _ => exact ff h
          | nil =>
            obtain ⟨h, h3⟩ := an (show (chkG c "range" fn && chkE c a x && notStar x) = true from h)
            obtain ⟨h1, h2⟩ := an h
            obtain ⟨q, rfl, hg, hp⟩ := chkG_inv g h1
            exact i_rng1 (pi_range1 hg (g.blt _ (by decide)) (pa_cons (okE a _ _ g x h2) pa_nil (star_cons h3)) (by rw [star_cons h3]; rfl))
    | _ => exact ff h
  | .rng2 a b, c, X, g, t, e, h => by
    cases e with
    | Call fn xs ks p =>
      cases xs with
      | nil => exact ff h
      | cons x xs =>
        cases xs with
        | nil => exact ff h
        | cons y xs =>
          cases xs with
          | cons _ _ => exact ff h
          | nil =>
            cases ks with
            | cons _ _ => exact ff h
            | nil =>
              obtain ⟨h, h5⟩ := an (show (chkG c "range" fn && chkE c a x && notStar x && chkE c b y && notStar y) = true from h)
              obtain ⟨h, h4⟩ := an h
              obtain ⟨h, h3⟩ := an h
              obtain ⟨h1, h2⟩ := an h
              obtain ⟨q, rfl, hg, hp⟩ := chkG_inv g h1
              exact i_rng2 (pi_range2 hg (g.blt _ (by decide)) (pa_cons (okE a _ _ g x h2) (pa_cons (okE b _ _ g y h4) pa_nil (star_cons h5)) (star_cons h3)) (by rw [star_cons h3, star_cons h5]; rfl) (by rw [star_cons h5]; rfl))
    | _ => exact ff h
  | .rng3 a b d, c, X, g, t, e, h => by
    cases e with
    | Call fn xs ks p =>
      cases xs with
      | nil => exact ff h
      | cons x xs =>
        cases xs with
        | nil => exact ff h
        | cons y xs =>
          cases xs with
          | nil => exact ff h
          | cons z xs =>
            cases xs with
            | cons _ _ => exact ff h
            | nil =>
              cases ks with
              | cons _ _ => exact ff h
              | nil =>
                obtain ⟨h, h7⟩ := an (show (chkG c "range" fn && chkE c a x && notStar x && chkE c b y && notStar y && chkE c d z && notStar z) = true from h)
                obtain ⟨h, h6⟩ := an h
                obtain ⟨h, h5⟩ := an h
                obtain ⟨h, h4⟩ := an h
                obtain ⟨h, h3⟩ := an h
                obtain ⟨h1, h2⟩ := an h
                obtain ⟨q, rfl, hg, hp⟩ := chkG_inv g h1
                exact i_rng3 (pi_range3 hg (g.blt _ (by decide)) (pa_cons (okE a _ _ g x h2) (pa_cons (okE b _ _ g y h4) (pa_cons (okE d _ _ g z h6) pa_nil (star_cons h7)) (star_cons h5)) (star_cons h3)) (star_cons h3) (by rw [star_cons h5, star_cons h7]; rfl))
    | _ => exact ff h
  | .enum a, c, X, g, t, e, h => by
    cases t with
    | Tuple tes tk tp =>
      cases e with
      | Call fn xs ks p =>
        cases xs with
        | nil => exact ff h
        | cons x xs =>
          cases xs with
          | cons _ _ => exact ff h
          | nil =>
            cases ks with
            | cons _ _ => exact ff h
            | nil =>
              obtain ⟨h, h3⟩ := an (show (chkG c "enumerate" fn && chkE c a x && notStar x) = true from h)
              obtain ⟨h1, h2⟩ := an h
              obtain ⟨q, rfl, hg, hp⟩ := chkG_inv g h1
              exact i_enum (pi_enumA hg (g.blt _ (by decide)) (pa_cons (okE a _ _ g x h2) pa_nil (star_cons h3)) (by rw [star_cons h3]; rfl))
      | _ => exact ff h
    | _ => cases e <;> exact ff h
  | .zip a b, c, X, g, t, e, h => by
    cases t with
    | Tuple tes tk tp =>
      cases e with
      | Call fn xs ks p =>
        cases xs with
        | nil => exact ff h
        | cons x xs =>
          cases xs with
          | nil => exact ff h
          | cons y xs =>
            cases xs with
            | cons _ _ => exact ff h
            | nil =>
              cases ks with
              | cons _ _ => exact ff h
              | nil =>
                obtain ⟨h, h5⟩ := an (show (chkG c "zip" fn && chkE c a x && notStar x && chkE c b y && notStar y) = true from h)
                obtain ⟨h, h4⟩ := an h
                obtain ⟨h, h3⟩ := an h
                obtain ⟨h1, h2⟩ := an h
                obtain ⟨q, rfl, hg, hp⟩ := chkG_inv g h1
                exact i_zip (pi_zipK hg (g.blt _ (by decide)) (pa_cons (okE a _ _ g x h2) (pa_cons (okE b _ _ g y h4) pa_nil (star_cons h5)) (star_cons h3)) (star_cons h3) (by rw [star_cons h5]; rfl))
      | _ => exact ff h
    | _ => cases e <;> exact ff h
  | .zip3 a b d, c, X, g, t, e, h => by
    cases t with
    | Tuple tes tk tp =>
      cases e with
      | Call fn xs ks p =>
        rcases xs with _ | ⟨x, _ | ⟨y, _ | ⟨z, _ | ⟨_, _⟩⟩⟩⟩ <;> rcases ks with _ | ⟨_, _⟩ <;> first | exact ff h | skip
        obtain ⟨h, h7⟩ := an (show (chkG c "zip" fn && chkE c a x && notStar x && chkE c b y && notStar y && chkE c d z && notStar z) = true from h)
        obtain ⟨h, h6⟩ := an h
        obtain ⟨h, h5⟩ := an h
        obtain ⟨h, h4⟩ := an h
        obtain ⟨h, h3⟩ := an h
        obtain ⟨h1, h2⟩ := an h
        obtain ⟨q, rfl, hg, hp⟩ := chkG_inv g h1
        exact i_zip3 (pi_zipK3 hg (g.blt _ (by decide)) (pa_cons (okE a _ _ g x h2) (pa_cons (okE b _ _ g y h4) (pa_cons (okE d _ _ g z h6) pa_nil (star_cons h7)) (star_cons h5)) (star_cons h3)) (star_cons h3) (by rw [star_cons h5, star_cons h7]; rfl))
      | _ => exact ff h
    | _ => cases e <;> exact ff h
  | .rvs a, c, X, g, t, e, h => by
    cases e with
    | Call fn xs ks p =>
      cases xs with
      | nil => exact ff h
      | cons x xs =>
        cases xs with
        | cons _ _ => exact ff h
        | nil =>
          cases ks with
          | cons _ _ => exact ff h
          | nil =>
            obtain ⟨h, h3⟩ := an (show (chkG c "reversed" fn && chkE c a x && notStar x) = true from h)
            obtain ⟨h1, h2⟩ := an h
            obtain ⟨q, rfl, hg, hp⟩ := chkG_inv g h1
            exact i_rvs (RT.pi_revA hg (g.blt _ (by decide)) (okE a _ _ g x h2) (star_cons h3))
    | _ => exact ff h
  | .rvr a b, c, X, g, t, e, h => by
    cases e with
    | Call fn xs ks p =>
      cases xs with
      | nil => exact ff h
      | cons u xs =>
        cases xs with
        | cons _ _ => cases u with
          | Call fm ys ls p2 => cases ys with
            | nil => exact ff h
            | cons _ ys => cases ys with
              | nil => exact ff h
              | cons _ ys => cases ys with
                | nil => cases ls <;> exact ff h
                | cons _ _ => exact ff h
          | _ => exact ff h
        | nil =>
          cases u with
          | Call fm ys ls p2 =>
            cases ys with
            | nil => exact ff h
            | cons x ys =>
              cases ys with
              | nil => exact ff h
              | cons y ys =>
                cases ys with
                | cons _ _ => exact ff h
                | nil =>
                  cases ls with
                  | cons _ _ => exact ff h
                  | nil =>
                    cases ks with
                    | cons _ _ => exact ff h
                    | nil =>
                      obtain ⟨h, h6⟩ := an (show (chkG c "reversed" fn && chkG c "range" fm && chkE c a x && notStar x && chkE c b y && notStar y) = true from h)
                      obtain ⟨h, h5⟩ := an h
                      obtain ⟨h, h4⟩ := an h
                      obtain ⟨h, h3⟩ := an h
                      obtain ⟨h1, h2⟩ := an h
                      obtain ⟨q, rfl, hg, hp⟩ := chkG_inv g h1
                      obtain ⟨q2, rfl, hg2, hp2⟩ := chkG_inv g h2
                      exact i_rvr (pi_revR hg (g.blt _ (by decide)) (prg_2 hg2 (g.blt _ (by decide)) (okE a _ _ g x h3) (okE b _ _ g y h5) (star_cons h4) (star_cons h6) (any1 h6)) rfl)
          | _ => exact ff h
    | _ => exact ff h
  | .rvr1 a, c, X, g, t, e, h => by
    cases e with
    | Call fn xs ks p =>
      cases xs with
      | nil => exact ff h
      | cons u xs =>
        cases xs with
        | cons _ _ => cases u with
          | Call fm ys ls p2 => cases ys with
            | nil => exact ff h
            | cons _ ys => cases ys with
              | nil => cases ls <;> exact ff h
              | cons _ ys => exact ff h
          | _ => exact ff h
        | nil =>
          cases u with
          | Call fm ys ls p2 =>
            cases ys with
            | nil => exact ff h
            | cons x ys =>
              cases ys with
              | cons _ _ => exact ff h
              | nil =>
                cases ls with
                | cons _ _ => exact ff h
                | nil =>
                  cases ks with
                  | cons _ _ => exact ff h
                  | nil =>
                    obtain ⟨h, h4⟩ := an (show (chkG c "reversed" fn && chkG c "range" fm && chkE c a x && notStar x) = true from h)
                    obtain ⟨h, h3⟩ := an h
                    obtain ⟨h1, h2⟩ := an h
                    obtain ⟨q, rfl, hg, hp⟩ := chkG_inv g h1
                    obtain ⟨q2, rfl, hg2, hp2⟩ := chkG_inv g h2
                    exact i_rvr1 (pi_revR hg (g.blt _ (by decide)) (prg_1 hg2 (g.blt _ (by decide)) (okE a _ _ g x h3) (star_cons h4)) rfl)
          | _ => exact ff h
    | _ => exact ff h
end
end
end M61

set_option Elab.async false
set_option linter.all false
set_option autoImplicit false
set_option maxRecDepth 100000
set_option maxHeartbeats 4000000
/-! M5e: the check is sound: statements, defs. -/
namespace M61
open PySem PySem.Spec PyProof.Rows L2
section
variable {c : Cfg} {G : Ctx} {n : Nat} {X : Cx}
theorem s_setF {i : Nat} {ml : ML} {st : Stmt} (h : PS X st (tAsg (rdL X.K ml) (gName i))) : PS X st (rdS X.K fun A ρ C => ml ρ C fun ds ρ1 C1 => A.nx (ρ1.set i (some (.dat (.lst ds)))) C1) :=
  ps_weak h fun D σ H ⟨B, F, ρ, C, A, R, m, k1, _⟩ => ⟨B, F, ρ, C, _, R, m, fun ds ρ1 C1 F1 a vs H1 s1 R1 hl rs n1 n2 n3 no q1 => by
    have s2 : Same F1 (upd F1 a (HO.lst vs)) := same_upd n1
    exact k1 _ C1 _ _ H1 (s1.trans s2) ((R1.frzNew hl n1 n2 n3 no).setDat i (.lst upd_same (rs.mono s2))) q1⟩
theorem nm_ok (g : Good c G n X) {i : Nat} {x : Str} (h1 : decide (c.N[i]? = some x) = true) (h2 : locB c x = true) : X.N.Nodup ∧ X.N[i]? = some x ∧ Loc X.env.scope x ∧ (X.fn x = true ∨ X.env.scope.names.lookup x = some .local) :=
  ⟨by rw [g.hN]; exact g.nd, by rw [g.hN]; exact of_decide_eq_true h1, by rw [g.sc]; exact locB_inv h2, by rw [g.sc]; exact g.fn x h2⟩
theorem sw_no (g : Good c G n X) {x : Str} {px : Pos} {l : Nat} {e : Expr} (h : noSw c x px e = true) : swapsWith e (some (.Name x px)) l X.env = pure false := by
  cases e with
  | ListComp el gs scope p =>
    have h : (decide (c.sc.names.lookup x = some .cell) || !(px.line == p.line)) = true := h
    unfold swapsWith
    show (pure (X.env.blockKind == .function && X.env.kindOf x == some .local && px.line == p.line && !(scope.names.any fun (n, k) => n == x && (k == .local || k == .cell))) : Sem Bool) = pure false
    congr 1
    rw [Bool.or_eq_true] at h
    rcases h with h | h
    · have q : X.env.kindOf x = some .cell := by show X.env.scope.names.lookup x = _; rw [g.sc]; exact of_decide_eq_true h
      rw [q]
      have e : ((some NameKind.cell : Option NameKind) == some .local) = false := by decide
      rw [e, Bool.and_false, Bool.false_and, Bool.false_and]
    · have q : (px.line == p.line) = false := by simpa using h
      rw [q, Bool.and_false, Bool.false_and]
  | _ => first | exact noComp_sw h | exact ff h
theorem unp_sw {t e : Expr} {env : Env} (h : unpOk t e = true) : swappedStores [t] e env = pure none ∧ ∀ l, swapsWith e (some t) l env = pure false := by
  cases t with
  | Tuple ts k p =>
    cases e with
    | Tuple vs k2 p2 =>
      have h : (!(ts.length == 2 || ts.length == 3) || (vs.all (foldedForSure 8) && vs.all notStar)) = true := h
      refine ⟨?_, fun _ => rfl⟩
      unfold swappedStores
      show (if (!(ts.length == 2 || ts.length == 3) || vs.length != ts.length || env.blockKind != .function) = true then pure none else _) = pure none
      rcases Bool.or_eq_true_iff.mp h with h | h
      · rw [h]; rfl
      · obtain ⟨h1, _⟩ := an h
        split
        · rfl
        · dsimp only
          split
          · rfl
          · split
            · rfl
            · first | rfl | (rw [if_pos h1]; first | done | rfl)
    | _ => first | exact ⟨rfl, fun _ => rfl⟩ | exact ff h
  | _ => exact ff h
theorem filterMap_lt {α β : Type} {f : α → Option β} : ∀ {xs : List α}, (∃ x ∈ xs, f x = none) → (xs.filterMap f).length < xs.length
  | [], h => by obtain ⟨x, hx, _⟩ := h; exact absurd hx (by simp)
  | x :: xs, h => by
    rw [List.filterMap_cons]
    have le := List.length_filterMap_le f xs
    cases e : f x with
    | none => show (xs.filterMap f).length < (x :: xs).length; rw [List.length_cons]; omega
    | some y =>
      obtain ⟨z, hz, hn⟩ := h
      rcases List.mem_cons.mp hz with rfl | q
      · rw [hn] at e; cases e
      · have := filterMap_lt ⟨z, q, hn⟩
        show (y :: xs.filterMap f).length < (x :: xs).length
        rw [List.length_cons, List.length_cons]; omega
theorem unpC_sw {c : Cfg} {t e : Expr} {env : Env} (hs : env.scope = c.sc) (h : unpCell c t e = true) : swappedStores [t] e env = pure none ∧ notComp e = true := by
  cases t with
  | Tuple ts k p =>
    cases e with
    | Tuple vs k2 p2 =>
      have h : ts.any (cellNm c) = true := h
      refine ⟨?_, rfl⟩
      obtain ⟨z, hz, hc⟩ := List.any_eq_true.mp h
      unfold swappedStores
      dsimp only
      split
      · rfl
      split
      · rfl
      split
      · rfl
      · rename_i hq
        exfalso
        refine hq ?_
        rw [Bool.or_eq_true]
        refine .inl ?_
        rw [bne_iff_ne]
        refine Nat.ne_of_lt (filterMap_lt ⟨z, hz, ?_⟩)
        cases z with
        | Name x px =>
          have q : env.kindOf x = some .cell := by show env.scope.names.lookup x = _; rw [hs]; exact of_decide_eq_true hc
          have e : ((some NameKind.cell : Option NameKind) == some .local) = false := by decide
          simp only [q, e, Bool.false_and]
          rfl
        | _ => exact ff hc
    | _ => exact ff h
  | _ => exact ff h
theorem parV_inv {vs : List Expr} (h : parV vs = true) : vs.all (foldedForSure 8) = false ∧ vs.all (constantsAlone 8) = false := by
  unfold parV at h
  simp only [Bool.and_eq_true, Bool.not_eq_true'] at h
  exact h
theorem sw_par2 {x y : Str} {px py pt p2 : Pos} {kt k2 : Nat} {a b : Expr} {env : Env} (hk : env.blockKind = .function) (lx : env.kindOf x = some .local) (ly : env.kindOf y = some .local) (hl : (py.line == px.line) = true)
    (hd : ([x, y] : List Str).eraseDups.length = 2) (ha : notStar a = true) (hb : notStar b = true) (hf : [a, b].all (foldedForSure 8) = false) (hc : [a, b].all (constantsAlone 8) = false) :
    swappedStores [.Tuple [.Name x px, .Name y py] kt pt] (.Tuple [a, b] k2 p2) env = pure (some [x, y]) := by
  have hl2 : py.line = px.line := by simpa using hl
  have e0 : (Expr.Name x px).pos.line = px.line := rfl
  unfold swappedStores
  dsimp only
  split
  · rename_i h; exfalso; revert h; simp [hk]
  split
  · rename_i h
    exfalso
    simp only [List.any_cons, List.any_nil, Bool.or_eq_true] at h
    rcases h with h | h | h
    · cases a <;> first | exact absurd h Bool.false_ne_true | cases ha
    · cases b <;> first | exact absurd h Bool.false_ne_true | cases hb
    · exact absurd h Bool.false_ne_true
  simp only [List.filterMap_cons, List.filterMap_nil, lx, ly, hl2, e0, List.head?_cons, Option.map_some, Option.getD_some, beq_self_eq_true, Bool.and_self, if_true, hd]
  split
  · rename_i h; exfalso; revert h; simp
  split
  · rename_i h; rw [hf] at h; cases h
  split
  · rename_i h; rw [hc] at h; cases h
  rfl
theorem sw_par3 {x y z : Str} {px py pz pt p2 : Pos} {kt k2 : Nat} {a b d : Expr} {env : Env} (hk : env.blockKind = .function) (lx : env.kindOf x = some .local) (ly : env.kindOf y = some .local) (lz : env.kindOf z = some .local) (hl : (py.line == px.line) = true) (hl' : (pz.line == px.line) = true)
    (hd : ([x, y, z] : List Str).eraseDups.length = 3) (ha : notStar a = true) (hb : notStar b = true) (hdd : notStar d = true) (hf : [a, b, d].all (foldedForSure 8) = false) (hc : [a, b, d].all (constantsAlone 8) = false) :
    swappedStores [.Tuple [.Name x px, .Name y py, .Name z pz] kt pt] (.Tuple [a, b, d] k2 p2) env = pure (some [x, y, z]) := by
  have hl2 : py.line = px.line := by simpa using hl
  have hl3 : pz.line = px.line := by simpa using hl'
  have e0 : (Expr.Name x px).pos.line = px.line := rfl
  unfold swappedStores
  dsimp only
  split
  · rename_i h; exfalso; revert h; simp [hk]
  split
  · rename_i h
    exfalso
    simp only [List.any_cons, List.any_nil, Bool.or_eq_true] at h
    rcases h with h | h | h | h
    · cases a <;> first | exact absurd h Bool.false_ne_true | cases ha
    · cases b <;> first | exact absurd h Bool.false_ne_true | cases hb
    · cases d <;> first | exact absurd h Bool.false_ne_true | cases hdd
    · exact absurd h Bool.false_ne_true
  simp only [List.filterMap_cons, List.filterMap_nil, lx, ly, lz, hl2, hl3, e0, List.head?_cons, Option.map_some, Option.getD_some, beq_self_eq_true, Bool.and_self, if_true, hd]
  split
  · rename_i h; exfalso; revert h; simp
  split
  · rename_i h; rw [hf] at h; cases h
  split
  · rename_i h; rw [hc] at h; cases h
  rfl
theorem chkEs_notStar : ∀ {as : Es} {es : List Expr}, chkEs c as es = true → ∀ e ∈ es, notStar e = true
  | .nil, [], _, _, h => absurd h (by simp)
  | .nil, _ :: _, h, _, _ => ff h
  | .cons _ _, [], h, _, _ => ff h
  | .cons a as, e :: es, h, x, hx => by
    obtain ⟨h1, h2⟩ := an (show (chkE c a e && notStar e && chkEs c as es) = true from h)
    rcases List.mem_cons.mp hx with rfl | q
    · exact (an h1).2
    · exact chkEs_notStar h2 x q
theorem sub_pg {to ti : TE} {v s : Expr} {p : Pos} (ho : PE X v to) (hi : PE X s ti) (hs : notSlice s = true) : PG X (.Subscript v s p) (gSub to ti rSetL) := by
  refine pg_sub ho hi set_list ?_
  intro u
  cases s <;> first | rfl | exact ff hs
theorem par2_ok {i j : Nat} {es : Es} {st : Stmt} (ok : ∀ xs, chkEs c es xs = true → PA X xs (rdA X.K (denEs G es))) (g : Good c G n X) (h : chkS c (.par2 i j es) st = true) : PS X st (rdS X.K (denS G (.par2 i j es))) := by
  unfold chkS at h
  split at h
  all_goals first | exact absurd h Bool.false_ne_true | (rename_i q; cases q)
  obtain ⟨h, h9⟩ := an h
  obtain ⟨h, h8⟩ := an h
  obtain ⟨h, h7⟩ := an h
  obtain ⟨h, h6⟩ := an h
  obtain ⟨h, h5⟩ := an h
  obtain ⟨h, h4⟩ := an h
  obtain ⟨h, h3⟩ := an h
  obtain ⟨h1, h2⟩ := an h
  have k4 := of_decide_eq_true h4
  have k5 := of_decide_eq_true h5
  obtain ⟨w1, w2⟩ := parV_inv h8
  have st := chkEs_notStar h9
  have hb : X.env.blockKind = .function := by unfold Env.blockKind; rw [g.sc, g.kind]; rfl
  refine s_par2 (ps_par g.calm (by rw [g.hN]; exact g.nd) (by rw [g.hN]; exact of_decide_eq_true h1) (by rw [g.hN]; exact of_decide_eq_true h2) (of_decide_eq_true h3) (by rw [g.sc]; exact k4) (by rw [g.sc]; exact k5) (ok _ h9) ?_)
  exact sw_par2 hb (by show X.env.scope.names.lookup _ = _; rw [g.sc]; exact k4) (by show X.env.scope.names.lookup _ = _; rw [g.sc]; exact k5) h6 (of_decide_eq_true h7) (st _ (by simp)) (st _ (by simp)) w1 w2
theorem par3_ok {i j l : Nat} {es : Es} {st : Stmt} (ok : ∀ xs, chkEs c es xs = true → PA X xs (rdA X.K (denEs G es))) (g : Good c G n X) (h : chkS c (.par3 i j l es) st = true) : PS X st (rdS X.K (denS G (.par3 i j l es))) := by
  unfold chkS at h
  split at h
  all_goals first | exact absurd h Bool.false_ne_true | (rename_i q; cases q)
  obtain ⟨h, h14⟩ := an h
  obtain ⟨h, h13⟩ := an h
  obtain ⟨h, h12⟩ := an h
  obtain ⟨h, h11⟩ := an h
  obtain ⟨h, h10⟩ := an h
  obtain ⟨h, h9⟩ := an h
  obtain ⟨h, h8⟩ := an h
  obtain ⟨h, h7⟩ := an h
  obtain ⟨h, h6⟩ := an h
  obtain ⟨h, h5⟩ := an h
  obtain ⟨h, h4⟩ := an h
  obtain ⟨h, h3⟩ := an h
  obtain ⟨h1, h2⟩ := an h
  have k7 := of_decide_eq_true h7
  have k8 := of_decide_eq_true h8
  have k9 := of_decide_eq_true h9
  obtain ⟨w1, w2⟩ := parV_inv h13
  have st := chkEs_notStar h14
  have hb : X.env.blockKind = .function := by unfold Env.blockKind; rw [g.sc, g.kind]; rfl
  refine s_par3 (ps_par3 g.calm (by rw [g.hN]; exact g.nd) (by rw [g.hN]; exact of_decide_eq_true h1) (by rw [g.hN]; exact of_decide_eq_true h2) (by rw [g.hN]; exact of_decide_eq_true h3) (of_decide_eq_true h4) (of_decide_eq_true h5) (of_decide_eq_true h6) (by rw [g.sc]; exact k7) (by rw [g.sc]; exact k8) (by rw [g.sc]; exact k9) (ok _ h14) ?_)
  exact sw_par3 hb (by show X.env.scope.names.lookup _ = _; rw [g.sc]; exact k7) (by show X.env.scope.names.lookup _ = _; rw [g.sc]; exact k8) (by show X.env.scope.names.lookup _ = _; rw [g.sc]; exact k9) h10 h11 (of_decide_eq_true h12) (st _ (by simp)) (st _ (by simp)) (st _ (by simp)) w1 w2
mutual
theorem okS : ∀ (a : S) (c : Cfg) (X : Cx) (_ : Good c G n X) (st : Stmt), chkS c a st = true → PS X st (rdS X.K (denS G a))
  | .set i a, c, X, g, st, h => by
    cases st with
    | Assign ts e p =>
      cases ts with
      | nil => exact ff h
      | cons t ts =>
        cases ts with
        | cons _ _ => cases t <;> exact ff h
        | nil =>
          cases t with
          | Name x px =>
            obtain ⟨h, h4⟩ := an (show (decide (c.N[i]? = some x) && locB c x && chkE c a e && notComp e) = true from h)
            obtain ⟨h, h3⟩ := an h
            obtain ⟨h1, h2⟩ := an h
            obtain ⟨k1, k2, k3, k4⟩ := nm_ok g h1 h2
            exact s_set (ps_set k1 k2 k3 (okE a c X g e h3) (noComp_sw h4) k4)
          | _ => exact ff h
    | _ => exact ff h
  | .own i l, c, X, g, st, h => by
    cases st with
    | Assign ts e p =>
      cases ts with
      | nil => exact ff h
      | cons t ts =>
        cases ts with
        | cons _ _ => cases t <;> exact ff h
        | nil =>
          cases t with
          | Name x px =>
            obtain ⟨h, h4⟩ := an (show (decide (c.N[i]? = some x) && locB c x && chkL c l e && (swB c x px e || noSw c x px e)) = true from h)
            obtain ⟨h, h3⟩ := an h
            obtain ⟨h1, h2⟩ := an h
            obtain ⟨k1, k2, k3, k4⟩ := nm_ok g h1 h2
            obtain ⟨o1, o2⟩ := okL l c X g e h3
            rcases Bool.or_eq_true_iff.mp h4 with h4 | h4
            · exact s_own (o2 i x px p (of_decide_eq_true h1) h4)
            · exact s_own (ps_set k1 k2 k3 o1 (sw_no g h4) k4)
          | _ => exact ff h
    | _ => exact ff h
  | .setF i l, c, X, g, st, h => by
    cases st with
    | Assign ts e p =>
      cases ts with
      | nil => exact ff h
      | cons t ts =>
        cases ts with
        | cons _ _ => cases t <;> exact ff h
        | nil =>
          cases t with
          | Name x px =>
            obtain ⟨h, h4⟩ := an (show (decide (c.N[i]? = some x) && locB c x && chkL c l e && (swB c x px e || noSw c x px e)) = true from h)
            obtain ⟨h, h3⟩ := an h
            obtain ⟨h1, h2⟩ := an h
            obtain ⟨k1, k2, k3, k4⟩ := nm_ok g h1 h2
            obtain ⟨o1, o2⟩ := okL l c X g e h3
            rcases Bool.or_eq_true_iff.mp h4 with h4 | h4
            · exact s_setF (o2 i x px p (of_decide_eq_true h1) h4)
            · exact s_setF (ps_set k1 k2 k3 o1 (sw_no g h4) k4)
          | _ => exact ff h
    | _ => exact ff h
  | .unp tg a, c, X, g, st, h => by
    cases st with
    | Assign ts e p =>
      cases ts with
      | nil => exact ff h
      | cons t ts =>
        cases ts with
        | cons _ _ => exact ff h
        | nil =>
          obtain ⟨h, h3⟩ := an (show (chkTg c tg t && chkE c a e && (unpOk t e || unpCell c t e)) = true from h)
          obtain ⟨h1, h2⟩ := an h
          obtain ⟨w1, w2⟩ : swappedStores [t] e X.env = pure none ∧ ∀ l, swapsWith e (some t) l X.env = pure false := by
            rcases Bool.or_eq_true_iff.mp h3 with h3 | h3
            · exact unp_sw h3
            · exact ⟨(unpC_sw g.sc h3).1, fun l => noComp_sw (unpC_sw g.sc h3).2⟩
          exact s_unp (ps_asg (okE a c X g e h2) (okTg g tg t h1) (w2 _) w1 (by rw [tg_assign h1]; rfl))
    | _ => exact ff h
  | .par2 i j es, c, X, g, st, h => par2_ok (fun xs q => okEs es c X g xs q) g h
  | .par3 i j l es, c, X, g, st, h => par3_ok (fun xs q => okEs es c X g xs q) g h
  | .aug i o a, c, X, g, st, h => by
    cases st with
    | AugAssign t op e p =>
      cases t with
      | Name x px =>
        obtain ⟨h, h5⟩ := an (show (decide (c.N[i]? = some x) && locB c x && visB c.sc x && chkE c a e && ((decide (o = .add) && decide (op = .Add)) || (decide (o = .sub) && decide (op = .Sub)))) = true from h)
        obtain ⟨h, h4⟩ := an h
        obtain ⟨h, h3⟩ := an h
        obtain ⟨h1, h2⟩ := an h
        obtain ⟨k1, k2, k3, k4⟩ := nm_ok g h1 h2
        rcases Bool.or_eq_true_iff.mp h5 with h5 | h5
        · obtain ⟨q1, q2⟩ := an h5
          have e1 : o = .add := of_decide_eq_true q1
          have e2 : op = .Add := of_decide_eq_true q2
          subst e1 e2
          exact s_augA (ps_aug k1 k2 k3 (okE a c X g e h4) ip_add k4)
        · obtain ⟨q1, q2⟩ := an h5
          have e1 : o = .sub := of_decide_eq_true q1
          have e2 : op = .Sub := of_decide_eq_true q2
          subst e1 e2
          exact s_augS (ps_aug k1 k2 k3 (okE a c X g e h4) ip_sub k4)
      | _ => exact ff h
    | _ => exact ff h
  | .app i a, c, X, g, st, h => by
    cases st with
    | Expr q p =>
      cases q with
      | Call fn xs ks cp =>
        cases fn with
        | Attribute v m ap =>
          cases xs with
          | nil => cases ks <;> exact ff h
          | cons e xs =>
            cases xs with
            | cons _ _ => cases ks <;> exact ff h
            | nil =>
              cases ks with
              | cons _ _ => exact ff h
              | nil =>
                obtain ⟨h, h5⟩ := an (show (chkVar c i v && isNm "append" m && (ap.endLine == cp.line) && chkE c a e && notStar e) = true from h)
                obtain ⟨h, h4⟩ := an h
                obtain ⟨h, h3⟩ := an h
                obtain ⟨h1, h2⟩ := an h
                have e0 : m = Str.ofString "append" := of_decide_eq_true h2
                subst e0
                exact s_app (ps_expr (pe_bm PySem.F.plainAttrs_list PySem.F.slot_list_append PySem.F.type_list_append mt_append (var_pe g h1) (pa_cons (okE a c X g e h4) pa_nil (star_cons h5)) (attr_plain (var_attr h1)) (few1 h5) h3 (star_cons h5) rfl) rfl)
        | _ => cases xs <;> cases ks <;> exact ff h
      | _ => exact ff h
    | _ => exact ff h
  | .ext i a, c, X, g, st, h => by
    cases st with
    | Expr q p =>
      cases q with
      | Call fn xs ks cp =>
        cases fn with
        | Attribute v m ap =>
          cases xs with
          | nil => cases ks <;> exact ff h
          | cons e xs =>
            cases xs with
            | cons _ _ => cases ks <;> exact ff h
            | nil =>
              cases ks with
              | cons _ _ => exact ff h
              | nil =>
                obtain ⟨h, h5⟩ := an (show (chkVar c i v && isNm "extend" m && (ap.endLine == cp.line) && chkE c a e && notStar e) = true from h)
                obtain ⟨h, h4⟩ := an h
                obtain ⟨h, h3⟩ := an h
                obtain ⟨h1, h2⟩ := an h
                have e0 : m = Str.ofString "extend" := of_decide_eq_true h2
                subst e0
                exact s_ext (ps_expr (pe_bm PySem.F.plainAttrs_list PySem.F.slot_list_extend PySem.F.type_list_extend mt_extend (var_pe g h1) (pa_cons (okE a c X g e h4) pa_nil (star_cons h5)) (attr_plain (var_attr h1)) (few1 h5) h3 (star_cons h5) rfl) rfl)
        | _ => cases xs <;> cases ks <;> exact ff h
      | _ => exact ff h
    | _ => exact ff h
  | .oset i k a, c, X, g, st, h => by
    cases st with
    | Assign ts e p =>
      cases ts with
      | nil => exact ff h
      | cons t ts =>
        cases ts with
        | cons _ _ => cases t <;> exact ff h
        | nil =>
          cases t with
          | Subscript v s p2 =>
            obtain ⟨h, h5⟩ := an (show (chkVar c i v && chkE c k s && notSlice s && chkE c a e && notComp e) = true from h)
            obtain ⟨h, h4⟩ := an h
            obtain ⟨h, h3⟩ := an h
            obtain ⟨h1, h2⟩ := an h
            exact s_oset (ps_asg (okE a c X g e h4) (sub_pg (var_pe g h1) (okE k c X g s h2) h3) (by unfold swapsWithSole; exact noComp_sw h5) (by cases e <;> rfl) rfl)
          | _ => exact ff h
    | _ => exact ff h
  | .oaug _ _ _ _, c, X, g, st, h => by cases st <;> exact ff h
  | .dset o k a, c, X, g, st, h => by
    cases st with
    | Assign ts e p =>
      cases ts with
      | nil => exact ff h
      | cons t ts =>
        cases ts with
        | cons _ _ => cases t <;> first | exact ff h | (rename_i v s p2; cases s <;> first | exact ff h | (rename_i w j p3; cases w <;> exact ff h))
        | nil =>
          cases t with
          | Subscript v s p2 =>
            cases s with
            | Constant w j p3 =>
              cases w with
              | str x =>
                obtain ⟨h, h5⟩ := an (show (chkE c o v && isNm k x && chkE c a e && notComp e) = true from h)
                obtain ⟨h, h4⟩ := an h
                obtain ⟨h1, h2⟩ := an h
                have e1 : x = Str.ofString k := of_decide_eq_true h2
                subst e1
                have hu : X.A.units + 1 < cLine := by have := g.room.units; omega
                exact s_dset (ps_asg (okE a c X g e h4) (pg_sub (okE o c X g v h1) pe_str (set_dict hu) (fun u => rfl)) (by unfold swapsWithSole; exact noComp_sw h5) (by cases e <;> rfl) rfl)
              | _ => exact ff h
            | _ => exact ff h
          | _ => exact ff h
    | _ => exact ff h
  | .csub o k a, c, X, g, st, h => by
    cases st with
    | Assign ts e p =>
      cases ts with
      | nil => exact ff h
      | cons t ts =>
        cases ts with
        | cons _ _ => cases t <;> exact ff h
        | nil =>
          cases t with
          | Subscript v s p2 =>
            obtain ⟨h, h5⟩ := an (show (chkE c o v && chkE c k s && notSlice s && chkE c a e && notComp e) = true from h)
            obtain ⟨h, h4⟩ := an h
            obtain ⟨h, h3⟩ := an h
            obtain ⟨h1, h2⟩ := an h
            exact s_csub (ps_asg (okE a c X g e h4) (sub_pg (okE o c X g v h1) (okE k c X g s h2) h3) (by unfold swapsWithSole; exact noComp_sw h5) (by cases e <;> rfl) rfl)
          | _ => exact ff h
    | _ => exact ff h
  | .capp o a, c, X, g, st, h => by
    cases st with
    | Expr q p =>
      cases q with
      | Call fn xs ks cp =>
        cases fn with
        | Attribute v m ap =>
          cases xs with
          | nil => cases ks <;> exact ff h
          | cons e xs =>
            cases xs with
            | cons _ _ => cases ks <;> exact ff h
            | nil =>
              cases ks with
              | cons _ _ => exact ff h
              | nil =>
                obtain ⟨h, h6⟩ := an (show (chkE c o v && attrOk v && isNm "append" m && (ap.endLine == cp.line) && chkE c a e && notStar e) = true from h)
                obtain ⟨h, h5⟩ := an h
                obtain ⟨h, h4⟩ := an h
                obtain ⟨h, h3⟩ := an h
                obtain ⟨h1, h2⟩ := an h
                have e0 : m = Str.ofString "append" := of_decide_eq_true h3
                subst e0
                exact s_capp (ps_expr (pe_bm PySem.F.plainAttrs_list PySem.F.slot_list_append PySem.F.type_list_append mt_append (okE o c X g v h1) (pa_cons (okE a c X g e h5) pa_nil (star_cons h6)) (attr_plain h2) (few1 h6) h4 (star_cons h6) rfl) rfl)
        | _ => cases xs <;> cases ks <;> exact ff h
      | _ => exact ff h
    | _ => exact ff h
  | .cins o k a, c, X, g, st, h => by
    cases st with
    | Expr q p =>
      cases q with
      | Call fn xs ks cp =>
        cases fn with
        | Attribute v m ap =>
          cases xs with
          | nil => cases ks <;> exact ff h
          | cons s xs =>
            cases xs with
            | nil => cases ks <;> exact ff h
            | cons e xs =>
              cases xs with
              | cons _ _ => cases ks <;> exact ff h
              | nil =>
                cases ks with
                | cons _ _ => exact ff h
                | nil =>
                  obtain ⟨h, h8⟩ := an (show (chkE c o v && attrOk v && isNm "insert" m && (ap.endLine == cp.line) && chkE c k s && notStar s && chkE c a e && notStar e) = true from h)
                  obtain ⟨h, h7⟩ := an h
                  obtain ⟨h, h6⟩ := an h
                  obtain ⟨h, h5⟩ := an h
                  obtain ⟨h, h4⟩ := an h
                  obtain ⟨h, h3⟩ := an h
                  obtain ⟨h1, h2⟩ := an h
                  have e0 : m = Str.ofString "insert" := of_decide_eq_true h3
                  subst e0
                  exact s_cins (ps_expr (pe_bm PySem.F.plainAttrs_list PySem.F.slot_list_insert PySem.F.type_list_insert mt_insert (okE o c X g v h1) (pa_cons (okE k c X g s h5) (pa_cons (okE a c X g e h7) pa_nil (star_cons h8)) (star_cons h6)) (attr_plain h2) (few2 h6 h8) h4 (star_cons h6) (any1 h8)) rfl)
        | _ => cases xs <;> cases ks <;> first | exact ff h | (rename_i q _; cases q <;> exact ff h)
      | _ => exact ff h
    | _ => exact ff h
  | .exp a, c, X, g, st, h => by
    cases st with
    | Expr e p =>
      obtain ⟨h1, h2⟩ := an (show (chkE c a e && notComp e) = true from h)
      exact s_exp (ps_expr (okE a c X g e h1) (noComp_sw h2))
    | _ => exact ff h
  | .ife t a b, c, X, g, st, h => by
    cases st with
    | If q x y p =>
      obtain ⟨h, h3⟩ := an (show (chkT c t q && chkSs c a x && chkSs c b y) = true from h)
      obtain ⟨h1, h2⟩ := an h
      exact s_ife (ps_if (okT t c X g q h1) (okSs a c X g x h2) (okSs b c X g y h3))
    | _ => exact ff h
  | .for tg it b, c, X, g, st, h => by
    cases st with
    | For t e bd els p =>
      cases els with
      | cons _ _ => exact ff h
      | nil =>
        obtain ⟨h, h4⟩ := an (show (chkTg c tg t && chkI c it t e && chkSs c b bd && notSet e) = true from h)
        obtain ⟨h, h3⟩ := an h
        obtain ⟨h1, h2⟩ := an h
        exact s_for (ps_for (by rw [g.xe]; exact PassesOwn.never) g.calm (okI it c X g t e h2) (okTg g tg t h1) (okSs b c X g bd h3) (notSet_inv h4))
    | _ => exact ff h
  | .forc tg a b, c, X, g, st, h => by
    cases st with
    | For t e bd els p =>
      cases els with
      | cons _ _ => exact ff h
      | nil =>
        obtain ⟨h, h4⟩ := an (show (chkTg c tg t && chkE c a e && chkSs c b bd && notSet e) = true from h)
        obtain ⟨h, h3⟩ := an h
        obtain ⟨h1, h2⟩ := an h
        exact s_forc (ps_for (by rw [g.xe]; exact PassesOwn.never) g.calm (pi_seq (okE a c X g e h2)) (okTg g tg t h1) (okSs b c X g bd h3) (notSet_inv h4))
    | _ => exact ff h
  | .whl t b, c, X, g, st, h => by
    cases st with
    | While q bd els p =>
      cases els with
      | cons _ _ => exact ff h
      | nil =>
        obtain ⟨h1, h2⟩ := an (show (chkT c t q && chkSs c b bd) = true from h)
        exact s_whl (ps_while (by rw [g.xe]; exact PassesOwn.never) (okT t c X g q h1) (okSs b c X g bd h2))
    | _ => exact ff h
  | .ret a, c, X, g, st, h => by
    cases st with
    | Return e p =>
      cases e with
      | none => exact ff h
      | some e => exact s_ret (ps_ret (okE a c X g e h))
    | _ => exact ff h
  | .ret0, c, X, g, st, h => by
    cases st with
    | Return e p =>
      cases e with
      | some _ => exact ff h
      | none => exact s_ret0 ps_retN
    | _ => exact ff h
  | .pass, c, X, g, st, h => by
    cases st with
    | Pass p => exact s_pass ps_pass
    | _ => exact ff h
  | .brk, c, X, g, st, h => by
    cases st with
    | Break p => exact s_brk ps_break
    | _ => exact ff h
  | .cnt, c, X, g, st, h => by
    cases st with
    | Continue p => exact s_cnt ps_continue
    | _ => exact ff h
  | .nev, c, X, g, st, h => s_nev
theorem okSs : ∀ (a : Ss) (c : Cfg) (X : Cx) (_ : Good c G n X) (sts : List Stmt), chkSs c a sts = true → PSs X sts (rdS X.K (denSs G a))
  | .nil, c, X, g, [], _ => ss_nil
  | .nil, c, X, g, _ :: _, h => ff h
  | .cons _ _, c, X, g, [], h => ff h
  | .cons s ss, c, X, g, st :: sts, h => by
    obtain ⟨h1, h2⟩ := an (show (chkS c s st && chkSs c ss sts) = true from h)
    have q := ss_cons (ms := denS G s) (mss := denSs G ss) (okS s c X g st h1) (okSs ss c X g sts h2)
    exact q
end
end
end M61

set_option Elab.async false
set_option linter.all false
set_option autoImplicit false
set_option maxRecDepth 100000
/-! M6: the defs of a text, by a table. -/
namespace M61
open PySem PySem.Spec PyProof.Rows L2

/-- a def of the table: its text, its names, its inner form -/
structure DefI where
  name : String
  st : Stmt
  N : List Str
  ps : List Str
  d : Def
def scB (N P : List Str) (sc : Scope) : Bool :=
  decide (sc.kind = .function) && !sc.isCoroutine && !sc.isGenerator && decide N.Nodup && decide (N.take P.length = P) && P.all (fun x => decide (sc.names.lookup x = some .local) || decide (sc.names.lookup x = some .cell)) && sc.names.all (fun y => !decide (y.2 = .free))
theorem scB_inv {N P : List Str} {sc : Scope} (h : scB N P sc = true) : FnScope N P sc := by
  unfold scB at h
  simp only [Bool.and_eq_true, Bool.not_eq_true', decide_eq_true_eq, List.all_eq_true, Bool.or_eq_true, decide_eq_false_iff_not] at h
  obtain ⟨⟨⟨⟨⟨⟨h1, h2⟩, h3⟩, h4⟩, h5⟩, h6⟩, h7⟩ := h
  exact ⟨h1, h2, h3, h4, h5, h6, h7⟩
def sigsOf (tab : List DefI) : List (String × Nat) := tab.map fun di => (di.name, di.ps.length)
def defsOf (tab : List DefI) : List (String × Def) := tab.map fun di => (di.name, di.d)
def chkDef (sigs : List (String × Nat)) (cons : List (String × Int)) (txts : List (String × String)) (dcts : List (String × List (String × Int))) (di : DefI) : Bool :=
  scB di.N di.ps (defScope di.st) && decide (di.d.ps = di.ps.length) && decide (di.d.ns = di.N.length) && decide (di.ps.length ≤ di.N.length) &&
  chkSs ⟨di.N, defScope di.st, none, sigs, cons, txts, dcts⟩ di.d.body (defBody di.st)
/-- the def as it stands behind the top -/
structure Has (K : PySem.W.Frag) (mg : Str → Option Value) (di : DefI) (fa : Addr) (fd : FuncData) : Prop where
  fn : Fun K (Str.ofString di.name) (Str.ofString di.name) di.st fa fd
  mgf : mg (Str.ofString di.name) = some (.ref fa)
  bs : Binds K fd di.ps []
/-- what the top has written -/
structure Top (K : PySem.W.Frag) (w : World) (mg : Str → Option Value) (tab : List DefI) (cons : List (String × Int)) (txts : List (String × String)) (dcts : List (String × List (String × Int))) : Prop where
  fns : ∀ di ∈ tab, ∃ fa fd, Has K mg di fa fd
  blt : ∀ b ∈ usedB, mg (Str.ofString b) = none
  con : ∀ x i, cons.contains (x, i) = true → ∃ u, mg (Str.ofString x) = some u ∧ L2.RelV (.int i) u
  txt : ∀ x s, txts.contains (x, s) = true → ∃ u, mg (Str.ofString x) = some u ∧ L2.RelV (.str (Str.ofString s)) u
  dct : ∀ x kvs, dcts.contains (x, kvs) = true → ∃ a, mg (Str.ofString x) = some (.ref a) ∧ WDct K w a kvs
/-- the table, checked -/
structure Tab (tab : List DefI) (cons : List (String × Int)) (txts : List (String × String)) (dcts : List (String × List (String × Int))) : Prop where
  nd : (tab.map fun di => di.name).Nodup
  chk : ∀ di ∈ tab, chkDef (sigsOf tab) cons txts dcts di = true

theorem lookup_defs : ∀ {tab : List DefI}, (tab.map fun di => di.name).Nodup → ∀ {di : DefI}, di ∈ tab → (defsOf tab).lookup di.name = some di.d
  | [], _, _, h => absurd h (by simp)
  | e :: tab, nd, di, h => by
    rw [List.map_cons, List.nodup_cons] at nd
    unfold defsOf
    rw [List.map_cons, List.lookup_cons]
    rcases List.mem_cons.mp h with rfl | h
    · rw [show (di.name == di.name) = true from beq_self_eq_true _]
    · have ne : di.name ≠ e.name := fun q => nd.1 (by rw [← q]; exact List.mem_map.mpr ⟨di, h, rfl⟩)
      rw [show (di.name == e.name) = false from by simpa using ne]
      exact lookup_defs nd.2 h
theorem Cells.sub {K : PySem.W.Frag} {F H : Hp} {C C' : CM} (s : CM.Sub C' C) (c : Cells K F H C) : Cells K F H C' := ⟨c.fh, fun a x h => c.cel a x (s a x h)⟩
theorem Fr.sub {H F H' F' : Hp} {C C' C'' : CM} (s : CM.Sub C'' C') (f : Fr H F C H' F' C') : Fr H F C H' F' C'' := ⟨f.ff, f.fnew, f.frame, fun a c h => f.cnew a c (s a c h), f.stay⟩

section
variable {P : Program} {w : World} {K : PySem.W.Frag} {mg : Str → Option Value} {base : Heap}
theorem start_rel {N : List Str} {F H : Hp} {C : CM} {vs : List V} {ds : List D} {m : Nat} (ce : Cells K F H C) (r : Reps K F vs ds) (hm : m = N.length - ds.length) :
    Rel K ⟨H, F, C⟩ F (start N vs) H (ds.map (fun d => some (.dat d)) ++ List.replicate m none) C where
  len := by
    show _ = (vs.map some ++ List.replicate (N.length - vs.length) none).length
    rw [List.length_append, List.length_append, List.length_map, List.length_map, List.length_replicate, List.length_replicate, r.length, hm]
  ce := ce
  fr := .refl _ _ _
  dat := fun i d h => by
    rw [List.getElem?_append] at h
    split at h
    · rename_i hi
      rw [List.length_map] at hi
      rw [List.getElem?_map] at h
      cases e : ds[i]? with
      | none => rw [e] at h; cases h
      | some d' =>
        rw [e] at h
        cases h
        obtain ⟨v, e2, r2⟩ := r.getD e
        refine ⟨v, ?_, r2⟩
        show (vs.map some ++ _)[i]? = _
        rw [List.getElem?_append_left (by rw [List.length_map, r.length]; exact hi), List.getElem?_map, e2]; rfl
    · rw [List.getElem?_replicate] at h
      split at h <;> cases h
  own := fun i xs h => by
    exfalso
    rw [List.getElem?_append] at h
    split at h
    · rw [List.getElem?_map] at h
      cases e : ds[i]? <;> rw [e] at h <;> cases h
    · rw [List.getElem?_replicate] at h
      split at h <;> cases h
  dis := fun i j xs ys a _ h => by
    exfalso
    rw [List.getElem?_append] at h
    split at h
    · rw [List.getElem?_map] at h
      cases e : ds[i]? <;> rw [e] at h <;> cases h
    · rw [List.getElem?_replicate] at h
      split at h <;> cases h
theorem fn_ok {tab : List DefI} {cons : List (String × Int)} {txts : List (String × String)} {dcts : List (String × List (String × Int))} (T : Tab tab cons txts dcts) (W : Top K w mg tab cons txts dcts) {n : Nat} {ex : Exc → CM → Prop}
    (ih : ∀ di ∈ tab, ∃ fa fd, Has K mg di fa fd ∧ FnG P w K mg base CX0 n fa fd di.ps (spOf K fun ds C Q => Gm (defsOf tab) n di.name ds C Q ex))
    {di : DefI} (hd : di ∈ tab) {fa : Addr} {fd : FuncData} (h : Has K mg di fa fd) :
    FnG P w K mg base CX0 (n + 1) fa fd di.ps (spOf K fun ds C Q => Gm (defsOf tab) (n + 1) di.name ds C Q ex) := by
  have hc := T.chk di hd
  unfold chkDef at hc
  obtain ⟨hc, c5⟩ := an hc
  obtain ⟨hc, c4⟩ := an hc
  obtain ⟨hc, c3⟩ := an hc
  obtain ⟨c1, c2⟩ := an hc
  have e2 := of_decide_eq_true c2
  have e3 := of_decide_eq_true c3
  have S := scB_inv c1
  have lk := lookup_defs T.nd hd
  refine fun_okG h.fn S (fun vs H Q E ⟨F, C, ds, R, ce, rs, g, k⟩ => ?_) fun cdv A outer s H vs Q E gd hr ⟨F, C, ds, R, ce, rs, g, k⟩ => ?_
  · obtain ⟨d, q1, q2, _⟩ := g
    rw [lk] at q1
    cases q1
    rw [rs.length, q2, e2]
  · obtain ⟨d, q1, q2, q3⟩ := g
    rw [lk] at q1
    cases q1
    have G : Good ⟨di.N, defScope di.st, none, sigsOf tab, cons, txts, dcts⟩ ⟨Gm (defsOf tab) n, ex⟩ n (cxOf CX0 P w K mg base di.N (Str.ofString di.name) (defScope di.st) fa cdv A outer s H E).nox := {
      hN := rfl, nd := S.nd, sc := rfl, kind := S.kind, calm := rfl, fn := fun _ _ => .inl rfl, xe := rfl, room := hr, gd := gd, blt := W.blt
      fns := fun f k' q => by
        have q : (f, k') ∈ sigsOf tab := by simpa using q
        obtain ⟨dj, hj, ej⟩ := List.mem_map.mp q
        cases ej
        obtain ⟨fa, fd, h1, h2⟩ := ih dj hj
        exact ⟨fa, fd, dj.ps, h1.mgf, h1.fn.kp, h1.bs, h2⟩
      con := W.con, txt := W.txt, dct := W.dct }
    refine ⟨_, okSs di.d.body _ _ G _ c5, ⟨H, F, C⟩, F, _, C, _, start_rel ce rs (by rw [q2, e3]), q3, fun ρ' C' F' σ' H' s1 R1 q => ?_, fun d C' F' v H' ce1 f1 r1 q => ?_, fun _ _ _ _ _ _ _ q => q.elim, fun _ _ _ _ _ _ _ q => q.elim⟩
    · obtain ⟨C2, s2, q⟩ := q
      exact k .non C2 F' .non H' (R1.ce.sub s2) (R1.fr.sub s2) .non q
    · obtain ⟨C2, s2, q⟩ := q
      exact k d C2 F' v H' (ce1.sub s2) (f1.sub s2) r1 q
/-- every def of the table keeps its promise, so many calls deep -/
theorem tab_ok {tab : List DefI} {cons : List (String × Int)} {txts : List (String × String)} {dcts : List (String × List (String × Int))} (T : Tab tab cons txts dcts) (W : Top K w mg tab cons txts dcts) (ex : Exc → CM → Prop) :
    ∀ (n : Nat) (di : DefI), di ∈ tab → ∃ fa fd, Has K mg di fa fd ∧ FnG P w K mg base CX0 n fa fd di.ps (spOf K fun ds C Q => Gm (defsOf tab) n di.name ds C Q ex)
  | 0, di, hd => by
    obtain ⟨fa, fd, h⟩ := W.fns di hd
    exact ⟨fa, fd, h, fun vs H Q E ⟨F, C, ds, R, ce, rs, g, k⟩ => g.elim, fun A outer s H args us vs Q E _ _ _ _ _ ⟨F, C, ds, R, ce, rs, g, k⟩ => g.elim⟩
  | n + 1, di, hd => by
    obtain ⟨fa, fd, h⟩ := W.fns di hd
    exact ⟨fa, fd, h, fn_ok T W (tab_ok T W ex n) hd h⟩
end
end M61

set_option Elab.async false
set_option linter.all false
set_option autoImplicit false
set_option maxRecDepth 100000
/-! M7: a law from its pure form; rules for loops in pure form. -/
namespace M61
open PySem PySem.Spec PyProof.Rows L2
theorem reps_of_ints (K : PySem.W.Frag) (F : Hp) : ∀ ns : List Int, Reps K F (ns.map V.int) (ns.map D.int)
  | [] => .nil
  | _ :: ns => .cons (.int _) (reps_of_ints K F ns)
theorem start_of {K : PySem.W.Frag} {tb : List (String × Def)} {k : Nat} {H : Hp} {a : Addr} {ns : List Int} (hS : SqL K H a (ns.map V.int))
    (h : Gm tb k "law" [.scr (ns.map .int)] (fun _ => none) (fun d _ => d = .bl true) (fun _ _ => False)) : spOf K (fun ds C Q => Gm tb k "law" ds C Q fun _ _ => False) [.ref a] H (fun v _ => v = .bl true) (fun _ _ _ => False) :=
  ⟨H, fun _ => none, _, _, ⟨Same.refl _, fun _ _ q => nomatch q⟩, .cons (.scr hS (reps_of_ints K H ns)) .nil, h, fun d C' F' v H' _ _ r q => by subst q; cases r; rfl⟩
end M61

set_option Elab.async false
set_option linter.all false
set_option autoImplicit false
set_option maxRecDepth 100000
namespace M61.k49
open PySem PySem.Spec PyProof.Rows L2
def iby_link : Def := ⟨2, 2,
  (.cons (.ife (.or (.cmp .is (.var 0) .non) (.cmp .is (.var 1) .non)) (.cons (.ret .non)
  .nil) .nil)
  (.cons (.ret (.bin .add (.var 0) (.var 1)))
  .nil))⟩
def ilesser : Def := ⟨2, 2,
  (.cons (.ife (.cmp .is (.var 0) .non) (.cons (.ret (.var 1))
  .nil) .nil)
  (.cons (.ife (.cmp .is (.var 1) .non) (.cons (.ret (.var 0))
  .nil) .nil)
  (.cons (.ret (.blt .min2 (.cons (.var 0) (.cons (.var 1) .nil))))
  .nil)))⟩
def ilengths_to : Def := ⟨2, 13,
  (.cons (.unp (.tp (.cons (.nm 6) (.cons (.nm 7) (.cons (.nm 8) (.cons (.nm 9) .nil))))) (.var 0))
  (.cons (.own 2 (.cat (.bin .mul (.frz (.lit (.cons .non .nil))) (.var 1)) (.frz (.lit (.cons (.int 0) .nil)))))
  (.cons (.for (.nm 3) (.rng3 (.bin .sub (.var 1) (.int 1)) (.neg (.int 1)) (.neg (.int 1))) (.cons (.oset 2 (.var 3) (.call "by_link" (.cons (.ix (.ix (.var 7) (.int 0)) (.var 3)) (.cons (.oix 2 (.bin .add (.var 3) (.int 1))) .nil))))
  .nil))
  (.cons (.own 4 (.lit (.cons (.mv 2) .nil)))
  (.cons (.for (.nm 5) (.rng2 (.int 1) (.blt .len (.cons (.var 6) .nil))) (.cons (.own 10 (.comp [11, 12] (.call "by_link" (.cons (.var 11) (.cons (.var 12) .nil))) (.tp (.cons (.nm 11) (.cons (.nm 12) .nil))) (.zip (.ix (.var 8) (.bin .sub (.var 5) (.int 1))) (.oix 4 (.bin .sub (.var 5) (.int 1)))) .no))
  (.cons (.for (.nm 3) (.rng3 (.bin .sub (.var 1) (.int 1)) (.neg (.int 1)) (.neg (.int 1))) (.cons (.oset 10 (.var 3) (.call "lesser" (.cons (.oix 10 (.var 3)) (.cons (.call "by_link" (.cons (.ix (.ix (.var 7) (.var 5)) (.var 3)) (.cons (.oix 10 (.bin .add (.var 3) (.int 1))) .nil))) .nil))))
  .nil))
  (.cons (.app 4 (.mv 10))
  .nil))))
  (.cons (.ret (.mv 4))
  .nil))))))⟩
def iweb_way : Def := ⟨3, 10,
  (.cons (.unp (.tp (.cons (.nm 6) (.cons (.nm 7) (.cons (.nm 8) (.cons (.nm 9) .nil))))) (.var 0))
  (.cons (.set 3 (.call "lengths_to" (.cons (.var 0) (.cons (.var 2) .nil))))
  (.cons (.ife (.cmp .is (.ix (.ix (.var 3) (.var 1)) (.int 0)) .non) (.cons (.ret .non)
  .nil) .nil)
  (.cons (.set 4 (.str ""))
  (.cons (.set 5 (.int 0))
  (.cons (.whl (.or (.cmp .gt (.var 1) (.int 0)) (.cmp .lt (.var 5) (.var 2))) (.cons (.ife (.and (.cmp .lt (.var 5) (.var 2)) (.cmp .eq (.call "by_link" (.cons (.ix (.ix (.var 7) (.var 1)) (.var 5)) (.cons (.ix (.ix (.var 3) (.var 1)) (.bin .add (.var 5) (.int 1))) .nil))) (.ix (.ix (.var 3) (.var 1)) (.var 5)))) (.cons (.set 4 (.bin .add (.var 4) (.str "r")))
  (.cons (.set 5 (.bin .add (.var 5) (.int 1)))
  .nil)) (.cons (.set 4 (.bin .add (.var 4) (.str "u")))
  (.cons (.set 1 (.bin .sub (.var 1) (.int 1)))
  .nil)))
  .nil))
  (.cons (.ret (.var 4))
  .nil)))))))⟩
def i_law_deck : Def := ⟨1, 4,
  (.cons (.set 1 (.cel (.rvd (.sl (.var 0) .no (.yes (.int 63))))))
  (.cons (.set 2 (.blt .sum (.cons (.frz (.compc [3] (.bin .mod (.var 3) (.int 2147483629)) (.nm 3) (.var 1) .no)) .nil)))
  (.cons (.ret (.cel (.lit (.cons (.var 1) (.cons (.bin .add (.bin .mod (.var 2) (.int 2147483629)) (.bin .mul (.int 48271) (.blt .len (.cons (.var 1) .nil)))) (.cons (.int 0) .nil))))))
  .nil)))⟩
def i_law_draw : Def := ⟨2, 4,
  (.cons (.csub (.var 0) (.int 2) (.bin .add (.ix (.var 0) (.int 2)) (.int 1)))
  (.cons (.set 2 (.ix (.var 0) (.int 1)))
  (.cons (.ife (.cne (.ix (.var 0) (.int 0))) (.cons (.set 2 (.cpop (.ix (.var 0) (.int 0))))
  .nil) .nil)
  (.cons (.ife (.cmp .ge (.var 2) (.bin .pow (.int 10) (.int 18))) (.cons (.capp (.ix (.var 0) (.int 0)) (.bin .fdiv (.var 2) (.var 1)))
  (.cons (.ret (.bin .mod (.var 2) (.var 1)))
  .nil)) .nil)
  (.cons (.set 3 (.bin .mod (.bin .mul (.bin .add (.bin .add (.bin .mod (.var 2) (.int 2147483629)) (.bin .mul (.int 104729) (.ix (.var 0) (.int 2)))) (.int 1)) (.int 48271)) (.int 2147483647)))
  (.cons (.set 3 (.bin .mod (.bin .add (.bin .add (.bin .mul (.var 3) (.var 3)) (.bin .mul (.int 69621) (.ix (.var 0) (.int 2)))) (.int 7)) (.int 2147483587)))
  (.cons (.ret (.bin .mod (.bin .fdiv (.bin .mod (.bin .mul (.var 3) (.bin .add (.bin .fdiv (.var 3) (.int 3)) (.int 39373))) (.int 2305843009213693951)) (.int 128)) (.var 1)))
  .nil)))))))⟩
def i_law_number : Def := ⟨2, 3,
  (.cons (.ife (.cmp .eq (.var 1) (.int 0)) (.cons (.ret (.call "_law_draw" (.cons (.var 0) (.cons (.int 4) .nil))))
  .nil) .nil)
  (.cons (.ife (.cmp .eq (.var 1) (.int 1)) (.cons (.ret (.bin .sub (.call "_law_draw" (.cons (.var 0) (.cons (.int 11) .nil))) (.int 5)))
  .nil) .nil)
  (.cons (.ife (.cmp .eq (.var 1) (.int 2)) (.cons (.ret (.int 3))
  .nil) .nil)
  (.cons (.set 2 (.bin .add (.bin .mul (.call "_law_draw" (.cons (.var 0) (.cons (.int 1000) .nil))) (.bin .pow (.int 10) (.int 6))) (.call "_law_draw" (.cons (.var 0) (.cons (.bin .pow (.int 10) (.int 6)) .nil)))))
  (.cons (.ret (.ix (.frz (.lit (.cons (.var 2) (.cons (.bin .sub (.int 0) (.var 2)) (.cons (.bin .pow (.int 10) (.int 9)) (.cons (.bin .sub (.int 0) (.bin .pow (.int 10) (.int 9))) .nil)))))) (.call "_law_draw" (.cons (.var 0) (.cons (.int 4) .nil)))))
  .nil)))))⟩
def i_law_links : Def := ⟨5, 11,
  (.cons (.own 5 (.lit .nil))
  (.cons (.for (.nm 6) (.rng1 (.var 1)) (.cons (.own 7 (.lit .nil))
  (.cons (.for (.nm 8) (.rng1 (.var 2)) (.cons (.set 9 (.cmp .lt (.call "_law_draw" (.cons (.var 0) (.cons (.int 10) .nil))) (.var 4)))
  (.cons (.set 10 (.call "_law_number" (.cons (.var 0) (.cons (.var 3) .nil))))
  (.cons (.app 7 (.ix (.frz (.lit (.cons (.var 10) (.cons .non .nil)))) (.blt .int (.cons (.var 9) .nil))))
  .nil))))
  (.cons (.app 5 (.blt .tuple (.cons (.mv 7) .nil)))
  .nil))))
  (.cons (.ret (.blt .tuple (.cons (.mv 5) .nil)))
  .nil)))⟩
def i_law_web_sized : Def := ⟨3, 11,
  (.cons (.set 3 (.call "_law_draw" (.cons (.var 0) (.cons (.int 4) .nil))))
  (.cons (.set 4 (.ix (.frz (.lit (.cons (.int 0) (.cons (.int 1) (.cons (.int 4) (.cons (.int 8) .nil)))))) (.call "_law_draw" (.cons (.var 0) (.cons (.int 4) .nil)))))
  (.cons (.set 5 (.blt .tuple (.cons (.frz (.comp [9] (.call "_law_number" (.cons (.var 0) (.cons (.var 3) .nil))) (.nm 9) (.rng1 (.var 1)) .no)) .nil)))
  (.cons (.set 6 (.blt .tuple (.cons (.frz (.comp [10] (.call "_law_number" (.cons (.var 0) (.cons (.var 3) .nil))) (.nm 10) (.rng1 (.var 2)) .no)) .nil)))
  (.cons (.set 7 (.call "_law_links" (.cons (.var 0) (.cons (.var 1) (.cons (.bin .sub (.var 2) (.int 1)) (.cons (.var 3) (.cons (.var 4) .nil)))))))
  (.cons (.set 8 (.call "_law_links" (.cons (.var 0) (.cons (.bin .sub (.var 1) (.int 1)) (.cons (.var 2) (.cons (.var 3) (.cons (.var 4) .nil)))))))
  (.cons (.ret (.tup (.cons (.var 5) (.cons (.var 7) (.cons (.var 8) (.cons (.var 6) .nil))))))
  .nil)))))))⟩
def i_law_web : Def := ⟨1, 4,
  (.cons (.set 1 (.call "_law_draw" (.cons (.var 0) (.cons (.int 8) .nil))))
  (.cons (.set 2 (.bin .add (.int 1) (.call "_law_draw" (.cons (.var 0) (.cons (.int 6) .nil)))))
  (.cons (.set 3 (.bin .add (.int 1) (.call "_law_draw" (.cons (.var 0) (.cons (.int 6) .nil)))))
  (.cons (.ife (.cmp .eq (.var 1) (.int 5)) (.cons (.unp (.tp (.cons (.nm 2) (.cons (.nm 3) .nil))) (.ix (.frz (.lit (.cons (.tup (.cons (.int 12) (.cons (.int 12) .nil))) (.cons (.tup (.cons (.int 12) (.cons (.var 3) .nil))) (.cons (.tup (.cons (.var 2) (.cons (.int 12) .nil))) .nil))))) (.call "_law_draw" (.cons (.var 0) (.cons (.int 3) .nil)))))
  .nil) .nil)
  (.cons (.ret (.call "_law_web_sized" (.cons (.var 0) (.cons (.var 2) (.cons (.var 3) .nil)))))
  .nil)))))⟩
def i_law_further : Def := ⟨3, 3,
  (.cons (.ife (.or (.cmp .is (.var 0) .non) (.cmp .is (.var 1) .non)) (.cons (.ret .non)
  .nil) .nil)
  (.cons (.ret (.tup (.cons (.bin .add (.ix (.var 0) (.int 0)) (.var 1)) (.cons (.bin .add (.ix (.var 0) (.int 1)) (.var 2)) .nil))))
  .nil))⟩
def i_law_least : Def := ⟨2, 2,
  (.cons (.ife (.or (.cmp .is (.var 0) .non) (.cmp .is (.var 1) .non)) (.cons (.ret (.orv (.var 0) (.var 1)))
  .nil) .nil)
  (.cons (.ret (.blt .min2d (.cons (.var 0) (.cons (.var 1) .nil))))
  .nil))⟩
def i_law_ways : Def := ⟨2, 12,
  (.cons (.unp (.tp (.cons (.nm 4) (.cons (.nm 5) (.cons (.nm 6) (.cons (.nm 7) .nil))))) (.var 0))
  (.cons (.own 2 (.cat (.frz (.lit (.cons (.tup (.cons (.ix (.var 4) (.var 1)) (.cons (.str "") .nil))) .nil))) (.frz (.comp [8] .non (.nm 8) (.seq (.sl (.var 7) (.yes (.int 1)) .no)) .no))))
  (.cons (.for (.nm 3) (.rng3 (.var 1) (.neg (.int 1)) (.neg (.int 1))) (.cons (.ife (.cmp .lt (.var 3) (.var 1)) (.cons (.own 2 (.comp [9, 11] (.call "_law_further" (.cons (.var 9) (.cons (.var 11) (.cons (.str "u") .nil)))) (.tp (.cons (.nm 9) (.cons (.nm 11) .nil))) (.zip (.mv 2) (.ix (.var 6) (.var 3))) .no))
  .nil) .nil)
  (.cons (.for (.nm 8) (.rng2 (.int 1) (.blt .len (.cons (.var 7) .nil))) (.cons (.oset 2 (.var 8) (.call "_law_least" (.cons (.oix 2 (.var 8)) (.cons (.call "_law_further" (.cons (.oix 2 (.bin .sub (.var 8) (.int 1))) (.cons (.ix (.ix (.var 5) (.var 3)) (.bin .sub (.var 8) (.int 1))) (.cons (.str "r") .nil)))) .nil))))
  .nil))
  .nil)))
  (.cons (.ret (.frz (.comp [9, 10] (.call "_law_further" (.cons (.var 9) (.cons (.var 10) (.cons (.str "") .nil)))) (.tp (.cons (.nm 9) (.cons (.nm 10) .nil))) (.zip (.mv 2) (.var 7)) .no)))
  .nil))))⟩
def i_law_all_ways : Def := ⟨3, 13,
  (.cons (.unp (.tp (.cons (.nm 5) (.cons (.nm 6) (.cons (.nm 7) (.cons (.nm 8) .nil))))) (.var 0))
  (.cons (.own 3 (.lit .nil))
  (.cons (.own 4 (.lit (.cons (.tup (.cons (.var 1) (.cons (.int 0) (.cons (.ix (.var 5) (.var 1)) (.cons (.str "") .nil))))) .nil)))
  (.cons (.whl (.one 4) (.cons (.unp (.tp (.cons (.nm 9) (.cons (.nm 10) (.cons (.nm 11) (.cons (.nm 12) .nil))))) (.opop 4))
  (.cons (.ife (.and (.cmp .eq (.var 9) (.int 0)) (.cmp .eq (.var 10) (.var 2))) (.cons (.app 3 (.tup (.cons (.bin .add (.var 11) (.ix (.var 8) (.var 10))) (.cons (.var 12) .nil))))
  .nil) .nil)
  (.cons (.ife (.and (.cmp .lt (.var 10) (.var 2)) (.cmp .isn (.ix (.ix (.var 6) (.var 9)) (.var 10)) .non)) (.cons (.app 4 (.tup (.cons (.var 9) (.cons (.bin .add (.var 10) (.int 1)) (.cons (.bin .add (.var 11) (.ix (.ix (.var 6) (.var 9)) (.var 10))) (.cons (.bin .add (.var 12) (.str "r")) .nil))))))
  .nil) .nil)
  (.cons (.ife (.and (.cmp .gt (.var 9) (.int 0)) (.cmp .isn (.ix (.ix (.var 7) (.bin .sub (.var 9) (.int 1))) (.var 10)) .non)) (.cons (.app 4 (.tup (.cons (.bin .sub (.var 9) (.int 1)) (.cons (.var 10) (.cons (.bin .add (.var 11) (.ix (.ix (.var 7) (.bin .sub (.var 9) (.int 1))) (.var 10))) (.cons (.bin .add (.var 12) (.str "u")) .nil))))))
  .nil) .nil)
  .nil)))))
  (.cons (.ret (.mv 3))
  .nil)))))⟩
def i_law_right : Def := ⟨4, 7,
  (.cons (.set 4 .non)
  (.cons (.ife (.cmp .isn (.var 3) .non) (.cons (.set 4 (.ix (.var 3) (.int 1)))
  .nil) .nil)
  (.cons (.for (.nm 5) (.rng1 (.int 2)) (.cons (.ife (.cmp .ne (.blt .repr (.cons (.call "web_way" (.cons (.var 0) (.cons (.var 1) (.cons (.var 2) .nil)))) .nil)) (.blt .repr (.cons (.var 4) .nil))) (.cons (.ret (.bl false))
  .nil) .nil)
  .nil))
  (.cons (.ife (.cmp .gt (.bin .add (.blt .len (.cons (.ix (.var 0) (.int 0)) .nil)) (.blt .len (.cons (.ix (.var 0) (.int 3)) .nil))) (.int 8)) (.cons (.ret (.bl true))
  .nil) .nil)
  (.cons (.set 6 (.call "_law_all_ways" (.cons (.var 0) (.cons (.var 1) (.cons (.var 2) .nil)))))
  (.cons (.ife (.ceq (.var 6)) (.cons (.ret (.cmp .is (.var 3) .non))
  .nil) .nil)
  (.cons (.ret (.cmp .eq (.var 3) (.blt .mind (.cons (.var 6) .nil))))
  .nil)))))))⟩
def ilaw : Def := ⟨1, 12,
  (.cons (.set 1 (.call "_law_deck" (.cons (.var 0) .nil)))
  (.cons (.for (.nm 2) (.rng1 (.int 2)) (.cons (.set 3 (.call "_law_web" (.cons (.var 1) .nil)))
  (.cons (.set 4 (.blt .len (.cons (.ix (.var 3) (.int 0)) .nil)))
  (.cons (.set 5 (.blt .len (.cons (.ix (.var 3) (.int 3)) .nil)))
  (.cons (.setF 6 (.comp [8] (.call "_law_ways" (.cons (.var 3) (.cons (.var 8) .nil))) (.nm 8) (.rng1 (.var 4)) .no))
  (.cons (.setF 7 (.comp [10] (.tup (.cons (.bin .fdiv (.var 10) (.var 5)) (.cons (.bin .mod (.var 10) (.var 5)) .nil))) (.nm 10) (.rng1 (.bin .mul (.var 4) (.var 5))) .no))
  (.cons (.ife (.cmp .gt (.bin .add (.var 4) (.var 5)) (.int 12)) (.cons (.setF 7 (.comp [11] (.ix (.var 7) (.call "_law_draw" (.cons (.var 1) (.cons (.blt .len (.cons (.var 7) .nil)) .nil)))) (.nm 11) (.rng1 (.int 30)) .no))
  .nil) .nil)
  (.cons (.for (.tp (.cons (.nm 8) (.cons (.nm 9) .nil))) (.seq (.var 7)) (.cons (.ife (.not (.val (.call "_law_right" (.cons (.var 3) (.cons (.var 8) (.cons (.var 9) (.cons (.ix (.ix (.var 6) (.var 8)) (.var 9)) .nil))))))) (.cons (.ret (.bl false))
  .nil) .nil)
  .nil))
  .nil))))))))
  (.cons (.ret (.bl true))
  .nil)))⟩
def tabD : List (String × Def) := [("by_link", iby_link), ("lesser", ilesser), ("lengths_to", ilengths_to), ("web_way", iweb_way), ("_law_deck", i_law_deck), ("_law_draw", i_law_draw), ("_law_number", i_law_number), ("_law_links", i_law_links), ("_law_web_sized", i_law_web_sized), ("_law_web", i_law_web), ("_law_further", i_law_further), ("_law_least", i_law_least), ("_law_ways", i_law_ways), ("_law_all_ways", i_law_all_ways), ("_law_right", i_law_right), ("law", ilaw)]
end M61.k49

set_option Elab.async false
set_option linter.all false
set_option autoImplicit false
set_option maxRecDepth 100000
namespace M61.k49
open PySem PySem.Spec PyProof.Rows L2
/-! ### the text of k49 -/
def topS (i : Nat) : Stmt := PySem.Challenge.pw_bendtables_k49_least_ways.main.body.getD i (.Pass ⟨0, 0, 0, 0⟩)
def dby_link : DefI := ⟨"by_link", topS 1, ["link", "rest"], ["link", "rest"], iby_link⟩
def dlesser : DefI := ⟨"lesser", topS 2, ["one", "other"], ["one", "other"], ilesser⟩
def dlengths_to : DefI := ⟨"lengths_to", topS 3, ["web", "column", "above", "at", "found", "row", "ins", "rights", "ups", "outs", "here", "link", "rest"], ["web", "column"], ilengths_to⟩
def dweb_way : DefI := ⟨"web_way", topS 4, ["web", "row", "column", "lengths", "found", "at", "ins", "rights", "ups", "outs"], ["web", "row", "column"], iweb_way⟩
def d_law_deck : DefI := ⟨"_law_deck", topS 6, ["_law_script", "_law_cells", "_law_total", "_law_cell"], ["_law_script"], i_law_deck⟩
def d_law_draw : DefI := ⟨"_law_draw", topS 7, ["_law_deck_here", "_law_most", "_law_cell", "_law_number_here"], ["_law_deck_here", "_law_most"], i_law_draw⟩
def d_law_number : DefI := ⟨"_law_number", topS 8, ["_law_deck_here", "_law_mode", "_law_far"], ["_law_deck_here", "_law_mode"], i_law_number⟩
def d_law_links : DefI := ⟨"_law_links", topS 9, ["_law_deck_here", "_law_many", "_law_wide", "_law_mode", "_law_lacks", "_law_found", "_law_row", "_law_links_here", "_law_k", "_law_lacking", "_law_number_here"], ["_law_deck_here", "_law_many", "_law_wide", "_law_mode", "_law_lacks"], i_law_links⟩
def d_law_web_sized : DefI := ⟨"_law_web_sized", topS 10, ["_law_deck_here", "_law_many", "_law_wide", "_law_mode", "_law_lacks", "_law_ins", "_law_outs", "_law_rights", "_law_ups", "_law_row", "_law_k"], ["_law_deck_here", "_law_many", "_law_wide"], i_law_web_sized⟩
def d_law_web : DefI := ⟨"_law_web", topS 11, ["_law_deck_here", "_law_great", "_law_many", "_law_wide"], ["_law_deck_here"], i_law_web⟩
def d_law_further : DefI := ⟨"_law_further", topS 12, ["_law_best", "_law_link", "_law_sign"], ["_law_best", "_law_link", "_law_sign"], i_law_further⟩
def d_law_least : DefI := ⟨"_law_least", topS 13, ["_law_one", "_law_other"], ["_law_one", "_law_other"], i_law_least⟩
def d_law_ways : DefI := ⟨"_law_ways", topS 14, ["_law_web_here", "_law_row", "_law_best", "_law_here", "_law_ins", "_law_rights", "_law_ups", "_law_outs", "_law_k", "_law_one", "_law_number_here", "_law_link"], ["_law_web_here", "_law_row"], i_law_ways⟩
def d_law_all_ways : DefI := ⟨"_law_all_ways", topS 16, ["_law_web_here", "_law_row", "_law_column", "_law_found", "_law_left", "_law_ins", "_law_rights", "_law_ups", "_law_outs", "_law_here", "_law_k", "_law_length", "_law_letters"], ["_law_web_here", "_law_row", "_law_column"], i_law_all_ways⟩
def d_law_right : DefI := ⟨"_law_right", topS 17, ["_law_web_here", "_law_row", "_law_column", "_law_due", "_law_text", "_law_turn", "_law_some"], ["_law_web_here", "_law_row", "_law_column", "_law_due"], i_law_right⟩
def dlaw : DefI := ⟨"law", topS 18, ["_law_script", "_law_deck_here", "_law_turn", "_law_web_here", "_law_many", "_law_wide", "_law_dues", "_law_places", "_law_row", "_law_k", "_law_at", "_law_again"], ["_law_script"], ilaw⟩
def cons : List (String × Int) := []
def txts : List (String × String) := []
def dcts : List (String × List (String × Int)) := []
def tab : List DefI := [dby_link, dlesser, dlengths_to, dweb_way, d_law_deck, d_law_draw, d_law_number, d_law_links, d_law_web_sized, d_law_web, d_law_further, d_law_least, d_law_ways, d_law_all_ways, d_law_right, dlaw]
theorem cby_link : chkDef (sigsOf tab) cons txts dcts dby_link = true := by decide +kernel
theorem clesser : chkDef (sigsOf tab) cons txts dcts dlesser = true := by decide +kernel
theorem clengths_to : chkDef (sigsOf tab) cons txts dcts dlengths_to = true := by decide +kernel
theorem cweb_way : chkDef (sigsOf tab) cons txts dcts dweb_way = true := by decide +kernel
theorem c_law_deck : chkDef (sigsOf tab) cons txts dcts d_law_deck = true := by decide +kernel
theorem c_law_draw : chkDef (sigsOf tab) cons txts dcts d_law_draw = true := by decide +kernel
theorem c_law_number : chkDef (sigsOf tab) cons txts dcts d_law_number = true := by decide +kernel
theorem c_law_links : chkDef (sigsOf tab) cons txts dcts d_law_links = true := by decide +kernel
theorem c_law_web_sized : chkDef (sigsOf tab) cons txts dcts d_law_web_sized = true := by decide +kernel
theorem c_law_web : chkDef (sigsOf tab) cons txts dcts d_law_web = true := by decide +kernel
theorem c_law_further : chkDef (sigsOf tab) cons txts dcts d_law_further = true := by decide +kernel
theorem c_law_least : chkDef (sigsOf tab) cons txts dcts d_law_least = true := by decide +kernel
theorem c_law_ways : chkDef (sigsOf tab) cons txts dcts d_law_ways = true := by decide +kernel
theorem c_law_all_ways : chkDef (sigsOf tab) cons txts dcts d_law_all_ways = true := by decide +kernel
theorem c_law_right : chkDef (sigsOf tab) cons txts dcts d_law_right = true := by decide +kernel
theorem claw : chkDef (sigsOf tab) cons txts dcts dlaw = true := by decide +kernel
theorem tab_good : Tab tab cons txts dcts where
  nd := by decide +kernel
  chk := by
    intro di h
    simp only [tab, List.mem_cons, List.not_mem_nil, or_false] at h
    rcases h with rfl | rfl | rfl | rfl | rfl | rfl | rfl | rfl | rfl | rfl | rfl | rfl | rfl | rfl | rfl | rfl
    · exact cby_link
    · exact clesser
    · exact clengths_to
    · exact cweb_way
    · exact c_law_deck
    · exact c_law_draw
    · exact c_law_number
    · exact c_law_links
    · exact c_law_web_sized
    · exact c_law_web
    · exact c_law_further
    · exact c_law_least
    · exact c_law_ways
    · exact c_law_all_ways
    · exact c_law_right
    · exact claw
/-! ### what the top has written -/
theorem all_mk {w : World} {K : PySem.W.Frag} {h : Heap} {mg : Str → Option Value} (X : K.In h) (G : h.Ns mainGlobals mg)
    {f0 f1 f2 f3 f4 f5 f6 f7 f8 f9 f10 f11 f12 f13 f14 f15 : Addr} {od0 an0 od1 an1 od2 an2 od3 an3 od4 an4 od5 an5 od6 an6 od7 an7 od8 an8 od9 an9 od10 an10 od11 an11 od12 an12 od13 an13 od14 an14 od15 an15 : Option Addr} {sl0 sl1 sl2 sl3 sl4 sl5 sl6 sl7 sl8 sl9 sl10 sl11 sl12 sl13 sl14 sl15 : Array (Option Value)} {oc0 kV0 dc0 pm0 cd0 ct0 oc1 kV1 dc1 pm1 cd1 ct1 oc2 kV2 dc2 pm2 cd2 ct2 oc3 kV3 dc3 pm3 cd3 ct3 oc4 kV4 dc4 pm4 cd4 ct4 oc5 kV5 dc5 pm5 cd5 ct5 oc6 kV6 dc6 pm6 cd6 ct6 oc7 kV7 dc7 pm7 cd7 ct7 oc8 kV8 dc8 pm8 cd8 ct8 oc9 kV9 dc9 pm9 cd9 ct9 oc10 kV10 dc10 pm10 cd10 ct10 oc11 kV11 dc11 pm11 cd11 ct11 oc12 kV12 dc12 pm12 cd12 ct12 oc13 kV13 dc13 pm13 cd13 ct13 oc14 kV14 dc14 pm14 cd14 ct14 oc15 kV15 dc15 pm15 cd15 ct15 : Value}
    (a0 : PySem.W.nsIn K mainGlobals "by_link" = some (some (.ref f0))) (l0 : K.lookup f0 = some ⟨oc0, od0, .func (PySem.W.fnOf "by_link" "by_link" (defArgs dby_link.st) (defBody dby_link.st) (defScope dby_link.st) .none kV0 dc0 pm0 an0 cd0 ct0), sl0⟩) (c0 : PySem.W.codeIn K cd0 "by_link" = true) (k0 : PySem.W.keepIn K (.ref f0) = true)
    (a1 : PySem.W.nsIn K mainGlobals "lesser" = some (some (.ref f1))) (l1 : K.lookup f1 = some ⟨oc1, od1, .func (PySem.W.fnOf "lesser" "lesser" (defArgs dlesser.st) (defBody dlesser.st) (defScope dlesser.st) .none kV1 dc1 pm1 an1 cd1 ct1), sl1⟩) (c1 : PySem.W.codeIn K cd1 "lesser" = true) (k1 : PySem.W.keepIn K (.ref f1) = true)
    (a2 : PySem.W.nsIn K mainGlobals "lengths_to" = some (some (.ref f2))) (l2 : K.lookup f2 = some ⟨oc2, od2, .func (PySem.W.fnOf "lengths_to" "lengths_to" (defArgs dlengths_to.st) (defBody dlengths_to.st) (defScope dlengths_to.st) .none kV2 dc2 pm2 an2 cd2 ct2), sl2⟩) (c2 : PySem.W.codeIn K cd2 "lengths_to" = true) (k2 : PySem.W.keepIn K (.ref f2) = true)
    (a3 : PySem.W.nsIn K mainGlobals "web_way" = some (some (.ref f3))) (l3 : K.lookup f3 = some ⟨oc3, od3, .func (PySem.W.fnOf "web_way" "web_way" (defArgs dweb_way.st) (defBody dweb_way.st) (defScope dweb_way.st) .none kV3 dc3 pm3 an3 cd3 ct3), sl3⟩) (c3 : PySem.W.codeIn K cd3 "web_way" = true) (k3 : PySem.W.keepIn K (.ref f3) = true)
    (a4 : PySem.W.nsIn K mainGlobals "_law_deck" = some (some (.ref f4))) (l4 : K.lookup f4 = some ⟨oc4, od4, .func (PySem.W.fnOf "_law_deck" "_law_deck" (defArgs d_law_deck.st) (defBody d_law_deck.st) (defScope d_law_deck.st) .none kV4 dc4 pm4 an4 cd4 ct4), sl4⟩) (c4 : PySem.W.codeIn K cd4 "_law_deck" = true) (k4 : PySem.W.keepIn K (.ref f4) = true)
    (a5 : PySem.W.nsIn K mainGlobals "_law_draw" = some (some (.ref f5))) (l5 : K.lookup f5 = some ⟨oc5, od5, .func (PySem.W.fnOf "_law_draw" "_law_draw" (defArgs d_law_draw.st) (defBody d_law_draw.st) (defScope d_law_draw.st) .none kV5 dc5 pm5 an5 cd5 ct5), sl5⟩) (c5 : PySem.W.codeIn K cd5 "_law_draw" = true) (k5 : PySem.W.keepIn K (.ref f5) = true)
    (a6 : PySem.W.nsIn K mainGlobals "_law_number" = some (some (.ref f6))) (l6 : K.lookup f6 = some ⟨oc6, od6, .func (PySem.W.fnOf "_law_number" "_law_number" (defArgs d_law_number.st) (defBody d_law_number.st) (defScope d_law_number.st) .none kV6 dc6 pm6 an6 cd6 ct6), sl6⟩) (c6 : PySem.W.codeIn K cd6 "_law_number" = true) (k6 : PySem.W.keepIn K (.ref f6) = true)
    (a7 : PySem.W.nsIn K mainGlobals "_law_links" = some (some (.ref f7))) (l7 : K.lookup f7 = some ⟨oc7, od7, .func (PySem.W.fnOf "_law_links" "_law_links" (defArgs d_law_links.st) (defBody d_law_links.st) (defScope d_law_links.st) .none kV7 dc7 pm7 an7 cd7 ct7), sl7⟩) (c7 : PySem.W.codeIn K cd7 "_law_links" = true) (k7 : PySem.W.keepIn K (.ref f7) = true)
    (a8 : PySem.W.nsIn K mainGlobals "_law_web_sized" = some (some (.ref f8))) (l8 : K.lookup f8 = some ⟨oc8, od8, .func (PySem.W.fnOf "_law_web_sized" "_law_web_sized" (defArgs d_law_web_sized.st) (defBody d_law_web_sized.st) (defScope d_law_web_sized.st) .none kV8 dc8 pm8 an8 cd8 ct8), sl8⟩) (c8 : PySem.W.codeIn K cd8 "_law_web_sized" = true) (k8 : PySem.W.keepIn K (.ref f8) = true)
    (a9 : PySem.W.nsIn K mainGlobals "_law_web" = some (some (.ref f9))) (l9 : K.lookup f9 = some ⟨oc9, od9, .func (PySem.W.fnOf "_law_web" "_law_web" (defArgs d_law_web.st) (defBody d_law_web.st) (defScope d_law_web.st) .none kV9 dc9 pm9 an9 cd9 ct9), sl9⟩) (c9 : PySem.W.codeIn K cd9 "_law_web" = true) (k9 : PySem.W.keepIn K (.ref f9) = true)
    (a10 : PySem.W.nsIn K mainGlobals "_law_further" = some (some (.ref f10))) (l10 : K.lookup f10 = some ⟨oc10, od10, .func (PySem.W.fnOf "_law_further" "_law_further" (defArgs d_law_further.st) (defBody d_law_further.st) (defScope d_law_further.st) .none kV10 dc10 pm10 an10 cd10 ct10), sl10⟩) (c10 : PySem.W.codeIn K cd10 "_law_further" = true) (k10 : PySem.W.keepIn K (.ref f10) = true)
    (a11 : PySem.W.nsIn K mainGlobals "_law_least" = some (some (.ref f11))) (l11 : K.lookup f11 = some ⟨oc11, od11, .func (PySem.W.fnOf "_law_least" "_law_least" (defArgs d_law_least.st) (defBody d_law_least.st) (defScope d_law_least.st) .none kV11 dc11 pm11 an11 cd11 ct11), sl11⟩) (c11 : PySem.W.codeIn K cd11 "_law_least" = true) (k11 : PySem.W.keepIn K (.ref f11) = true)
    (a12 : PySem.W.nsIn K mainGlobals "_law_ways" = some (some (.ref f12))) (l12 : K.lookup f12 = some ⟨oc12, od12, .func (PySem.W.fnOf "_law_ways" "_law_ways" (defArgs d_law_ways.st) (defBody d_law_ways.st) (defScope d_law_ways.st) .none kV12 dc12 pm12 an12 cd12 ct12), sl12⟩) (c12 : PySem.W.codeIn K cd12 "_law_ways" = true) (k12 : PySem.W.keepIn K (.ref f12) = true)
    (a13 : PySem.W.nsIn K mainGlobals "_law_all_ways" = some (some (.ref f13))) (l13 : K.lookup f13 = some ⟨oc13, od13, .func (PySem.W.fnOf "_law_all_ways" "_law_all_ways" (defArgs d_law_all_ways.st) (defBody d_law_all_ways.st) (defScope d_law_all_ways.st) .none kV13 dc13 pm13 an13 cd13 ct13), sl13⟩) (c13 : PySem.W.codeIn K cd13 "_law_all_ways" = true) (k13 : PySem.W.keepIn K (.ref f13) = true)
    (a14 : PySem.W.nsIn K mainGlobals "_law_right" = some (some (.ref f14))) (l14 : K.lookup f14 = some ⟨oc14, od14, .func (PySem.W.fnOf "_law_right" "_law_right" (defArgs d_law_right.st) (defBody d_law_right.st) (defScope d_law_right.st) .none kV14 dc14 pm14 an14 cd14 ct14), sl14⟩) (c14 : PySem.W.codeIn K cd14 "_law_right" = true) (k14 : PySem.W.keepIn K (.ref f14) = true)
    (a15 : PySem.W.nsIn K mainGlobals "law" = some (some (.ref f15))) (l15 : K.lookup f15 = some ⟨oc15, od15, .func (PySem.W.fnOf "law" "law" (defArgs dlaw.st) (defBody dlaw.st) (defScope dlaw.st) .none kV15 dc15 pm15 an15 cd15 ct15), sl15⟩) (c15 : PySem.W.codeIn K cd15 "law" = true) (k15 : PySem.W.keepIn K (.ref f15) = true)
    (z0 : PySem.W.nsIn K mainGlobals "len" = some none)
    (z1 : PySem.W.nsIn K mainGlobals "tuple" = some none)
    (z2 : PySem.W.nsIn K mainGlobals "sum" = some none)
    (z3 : PySem.W.nsIn K mainGlobals "min" = some none)
    (z4 : PySem.W.nsIn K mainGlobals "max" = some none)
    (z5 : PySem.W.nsIn K mainGlobals "abs" = some none)
    (z6 : PySem.W.nsIn K mainGlobals "int" = some none)
    (z7 : PySem.W.nsIn K mainGlobals "all" = some none)
    (z8 : PySem.W.nsIn K mainGlobals "any" = some none)
    (z9 : PySem.W.nsIn K mainGlobals "isinstance" = some none)
    (z10 : PySem.W.nsIn K mainGlobals "bool" = some none)
    (z11 : PySem.W.nsIn K mainGlobals "list" = some none)
    (z12 : PySem.W.nsIn K mainGlobals "str" = some none)
    (z13 : PySem.W.nsIn K mainGlobals "dict" = some none)
    (z14 : PySem.W.nsIn K mainGlobals "range" = some none)
    (z15 : PySem.W.nsIn K mainGlobals "enumerate" = some none)
    (z16 : PySem.W.nsIn K mainGlobals "zip" = some none)
    (z17 : PySem.W.nsIn K mainGlobals "reversed" = some none)
    (z18 : PySem.W.nsIn K mainGlobals "sorted" = some none)
    (z19 : PySem.W.nsIn K mainGlobals "repr" = some none) :
    Top K w mg tab cons txts dcts := by
  have F0 := fun_mk (st := dby_link.st) l0 c0 k0
  have b0 := F0.binds (ps := dby_link.ps) fun _ _ _ _ _ _ us hl => match us, hl with | [_, _], _ => rfl
  have F1 := fun_mk (st := dlesser.st) l1 c1 k1
  have b1 := F1.binds (ps := dlesser.ps) fun _ _ _ _ _ _ us hl => match us, hl with | [_, _], _ => rfl
  have F2 := fun_mk (st := dlengths_to.st) l2 c2 k2
  have b2 := F2.binds (ps := dlengths_to.ps) fun _ _ _ _ _ _ us hl => match us, hl with | [_, _], _ => rfl
  have F3 := fun_mk (st := dweb_way.st) l3 c3 k3
  have b3 := F3.binds (ps := dweb_way.ps) fun _ _ _ _ _ _ us hl => match us, hl with | [_, _, _], _ => rfl
  have F4 := fun_mk (st := d_law_deck.st) l4 c4 k4
  have b4 := F4.binds (ps := d_law_deck.ps) fun _ _ _ _ _ _ us hl => match us, hl with | [_], _ => rfl
  have F5 := fun_mk (st := d_law_draw.st) l5 c5 k5
  have b5 := F5.binds (ps := d_law_draw.ps) fun _ _ _ _ _ _ us hl => match us, hl with | [_, _], _ => rfl
  have F6 := fun_mk (st := d_law_number.st) l6 c6 k6
  have b6 := F6.binds (ps := d_law_number.ps) fun _ _ _ _ _ _ us hl => match us, hl with | [_, _], _ => rfl
  have F7 := fun_mk (st := d_law_links.st) l7 c7 k7
  have b7 := F7.binds (ps := d_law_links.ps) fun _ _ _ _ _ _ us hl => match us, hl with | [_, _, _, _, _], _ => rfl
  have F8 := fun_mk (st := d_law_web_sized.st) l8 c8 k8
  have b8 := F8.binds (ps := d_law_web_sized.ps) fun _ _ _ _ _ _ us hl => match us, hl with | [_, _, _], _ => rfl
  have F9 := fun_mk (st := d_law_web.st) l9 c9 k9
  have b9 := F9.binds (ps := d_law_web.ps) fun _ _ _ _ _ _ us hl => match us, hl with | [_], _ => rfl
  have F10 := fun_mk (st := d_law_further.st) l10 c10 k10
  have b10 := F10.binds (ps := d_law_further.ps) fun _ _ _ _ _ _ us hl => match us, hl with | [_, _, _], _ => rfl
  have F11 := fun_mk (st := d_law_least.st) l11 c11 k11
  have b11 := F11.binds (ps := d_law_least.ps) fun _ _ _ _ _ _ us hl => match us, hl with | [_, _], _ => rfl
  have F12 := fun_mk (st := d_law_ways.st) l12 c12 k12
  have b12 := F12.binds (ps := d_law_ways.ps) fun _ _ _ _ _ _ us hl => match us, hl with | [_, _], _ => rfl
  have F13 := fun_mk (st := d_law_all_ways.st) l13 c13 k13
  have b13 := F13.binds (ps := d_law_all_ways.ps) fun _ _ _ _ _ _ us hl => match us, hl with | [_, _, _], _ => rfl
  have F14 := fun_mk (st := d_law_right.st) l14 c14 k14
  have b14 := F14.binds (ps := d_law_right.ps) fun _ _ _ _ _ _ us hl => match us, hl with | [_, _, _, _], _ => rfl
  have F15 := fun_mk (st := dlaw.st) l15 c15 k15
  have b15 := F15.binds (ps := dlaw.ps) fun _ _ _ _ _ _ us hl => match us, hl with | [_], _ => rfl
  refine ⟨?_, ?_, ?_, ?_, ?_⟩
  · intro di h
    simp only [tab, List.mem_cons, List.not_mem_nil, or_false] at h
    rcases h with rfl | rfl | rfl | rfl | rfl | rfl | rfl | rfl | rfl | rfl | rfl | rfl | rfl | rfl | rfl | rfl
    · exact ⟨_, _, F0, PySem.W.mg_of X G a0, b0⟩
    · exact ⟨_, _, F1, PySem.W.mg_of X G a1, b1⟩
    · exact ⟨_, _, F2, PySem.W.mg_of X G a2, b2⟩
    · exact ⟨_, _, F3, PySem.W.mg_of X G a3, b3⟩
    · exact ⟨_, _, F4, PySem.W.mg_of X G a4, b4⟩
    · exact ⟨_, _, F5, PySem.W.mg_of X G a5, b5⟩
    · exact ⟨_, _, F6, PySem.W.mg_of X G a6, b6⟩
    · exact ⟨_, _, F7, PySem.W.mg_of X G a7, b7⟩
    · exact ⟨_, _, F8, PySem.W.mg_of X G a8, b8⟩
    · exact ⟨_, _, F9, PySem.W.mg_of X G a9, b9⟩
    · exact ⟨_, _, F10, PySem.W.mg_of X G a10, b10⟩
    · exact ⟨_, _, F11, PySem.W.mg_of X G a11, b11⟩
    · exact ⟨_, _, F12, PySem.W.mg_of X G a12, b12⟩
    · exact ⟨_, _, F13, PySem.W.mg_of X G a13, b13⟩
    · exact ⟨_, _, F14, PySem.W.mg_of X G a14, b14⟩
    · exact ⟨_, _, F15, PySem.W.mg_of X G a15, b15⟩
  · intro b h
    simp only [usedB, List.mem_cons, List.not_mem_nil, or_false] at h
    rcases h with rfl | rfl | rfl | rfl | rfl | rfl | rfl | rfl | rfl | rfl | rfl | rfl | rfl | rfl | rfl | rfl | rfl | rfl | rfl | rfl
    · exact PySem.W.mg_none_of X G z0
    · exact PySem.W.mg_none_of X G z1
    · exact PySem.W.mg_none_of X G z2
    · exact PySem.W.mg_none_of X G z3
    · exact PySem.W.mg_none_of X G z4
    · exact PySem.W.mg_none_of X G z5
    · exact PySem.W.mg_none_of X G z6
    · exact PySem.W.mg_none_of X G z7
    · exact PySem.W.mg_none_of X G z8
    · exact PySem.W.mg_none_of X G z9
    · exact PySem.W.mg_none_of X G z10
    · exact PySem.W.mg_none_of X G z11
    · exact PySem.W.mg_none_of X G z12
    · exact PySem.W.mg_none_of X G z13
    · exact PySem.W.mg_none_of X G z14
    · exact PySem.W.mg_none_of X G z15
    · exact PySem.W.mg_none_of X G z16
    · exact PySem.W.mg_none_of X G z17
    · exact PySem.W.mg_none_of X G z18
    · exact PySem.W.mg_none_of X G z19
  · intro x i h
    have h : (x, i) ∈ cons := by simpa using h
    simp only [cons, List.mem_cons, List.not_mem_nil, or_false, Prod.mk.injEq] at h
  · intro x i h
    have h : (x, i) ∈ txts := by simpa using h
    simp only [txts, List.mem_cons, List.not_mem_nil, or_false, Prod.mk.injEq] at h
  · intro x i h
    have h : (x, i) ∈ dcts := by simpa using h
    simp only [dcts, List.mem_cons, List.not_mem_nil, or_false, Prod.mk.injEq] at h
theorem law_mk {P : Program} {w : World} {K : PySem.W.Frag} {h : Heap} {mg : Str → Option Value} {fa : Addr} (X : K.In h) (G : h.Ns mainGlobals mg) (hfa : mg "law" = some (.ref fa)) {f : Addr} {od an : Option Addr} {sl : Array (Option Value)} {oc kV dc pm cd ct : Value}
    (T : Top K w mg tab cons txts dcts) (a : PySem.W.nsIn K mainGlobals "law" = some (some (.ref f))) (l : K.lookup f = some ⟨oc, od, .func (PySem.W.fnOf "law" "law" (defArgs dlaw.st) (defBody dlaw.st) (defScope dlaw.st) .none kV dc pm an cd ct), sl⟩) (c : PySem.W.codeIn K cd "law" = true) (k : PySem.W.keepIn K (.ref f) = true) :
    ∃ fd : FuncData, (∀ (s : Shared) (v : Value), BindsTo s fd ⟨[v], []⟩ [("_law_script", v)]) ∧ ∀ base : Heap, K.In base → base.Ns mainGlobals mg → FnG P w K mg base CX0 12 fa fd ["_law_script"] (spOf K fun ds C Q => Gm (defsOf tab) 12 "law" ds C Q fun _ _ => False) := by
  have e := hfa.symm.trans (PySem.W.mg_of X G a)
  cases e
  have F := fun_mk (st := dlaw.st) l c k
  have b := F.binds (ps := dlaw.ps) fun _ _ _ _ _ _ us hl => match us, hl with | [_], _ => rfl
  exact ⟨PySem.W.fnOf "law" "law" (defArgs dlaw.st) (defBody dlaw.st) (defScope dlaw.st) .none kV dc pm an cd ct, fun s v => .of_eq rfl, fun base _ _ => fn_ok (di := dlaw) tab_good T (tab_ok tab_good T _ 11) (by simp [tab]) ⟨F, PySem.W.mg_of X G a, b⟩⟩
theorem law_lift {ds : List D} {C : CM} {P : D → CM → Prop} {ex : Exc → CM → Prop} (h : Gm tabD 12 "law" ds C P ex) : Gm (defsOf tab) 12 "law" ds C P ex := by
  have e : defsOf tab = tabD := rfl
  rw [e]; exact h
end M61.k49

set_option Elab.async false
set_option linter.all false
set_option autoImplicit false
set_option maxRecDepth 100000
/-! P1: rules for the pure form. -/
namespace M61
open PySem PySem.Spec PyProof.Rows L2
theorem varD_0 (d : D) (ρ : Rho) (P : D → Prop) : varD (some (.dat d) :: ρ) 0 P = P d := rfl
theorem varD_s (x : Option Dv) (ρ : Rho) (i : Nat) (P : D → Prop) : varD (x :: ρ) (i + 1) P = varD ρ i P := rfl
theorem varO_0 (xs : List D) (ρ : Rho) (P : List D → Prop) : varO (some (.own xs) :: ρ) 0 P = P xs := rfl
theorem varO_s (x : Option Dv) (ρ : Rho) (i : Nat) (P : List D → Prop) : varO (x :: ρ) (i + 1) P = varO ρ i P := rfl
theorem varL_own0 (xs : List D) (ρ : Rho) (C : CM) (P : List D → Prop) : varL (some (.own xs) :: ρ) C 0 P = P xs := rfl
theorem varL_ref0 (a : Addr) (ρ : Rho) (C : CM) (P : List D → Prop) : varL (some (.dat (.ref a)) :: ρ) C 0 P = ∃ xs, C a = some (.lst xs) ∧ P xs := rfl
theorem varL_s (x : Option Dv) (ρ : Rho) (C : CM) (i : Nat) (P : List D → Prop) : varL (x :: ρ) C (i + 1) P = varL ρ C i P := rfl
theorem varM_own0 (xs : List D) (ρ : Rho) (P : D → Rho → Prop) : varM (some (.own xs) :: ρ) 0 P = P (.lst xs) (some (.dat (.lst xs)) :: ρ) := rfl
theorem varM_dat0 (d : D) (ρ : Rho) (P : D → Rho → Prop) : varM (some (.dat d) :: ρ) 0 P = P d (some (.dat d) :: ρ) := rfl
theorem varM_s (x : Option Dv) (ρ : Rho) (i : Nat) (P : D → Rho → Prop) : varM (x :: ρ) (i + 1) P = varM ρ i fun d ρ' => P d (x :: ρ') := by
  unfold varM
  rw [List.getElem?_cons_succ]
  rfl
theorem bindT_nm (i : Nat) (d : D) (ρ : Rho) (P : Rho → Prop) : bindT (.nm i) d ρ P = P (ρ.set i (some (.dat d))) := rfl
theorem bindT_tp (ts : Tgs) (ds : List D) (ρ : Rho) (P : Rho → Prop) : bindT (.tp ts) (.tup ds) ρ P = bindTs ts ds ρ P := rfl
theorem bindT_tl (ts : Tgs) (ds : List D) (ρ : Rho) (P : Rho → Prop) : bindT (.tp ts) (.lst ds) ρ P = bindTs ts ds ρ P := rfl
theorem bindTs_nil (ρ : Rho) (P : Rho → Prop) : bindTs .nil [] ρ P = P ρ := rfl
theorem bindTs_cons (t : Tg) (ts : Tgs) (d : D) (ds : List D) (ρ : Rho) (P : Rho → Prop) : bindTs (.cons t ts) (d :: ds) ρ P = bindT t d ρ fun ρ' => bindTs ts ds ρ' P := rfl
theorem wipeR_cons (ρ : Rho) (v : Nat) (vs : List Nat) : wipeR ρ (v :: vs) = (wipeR ρ vs).set v none := rfl
theorem wipeR_nil (ρ : Rho) : wipeR ρ [] = ρ := rfl
theorem zero_add' (i : Nat) : 0 + i = i := Nat.zero_add i
theorem if_pos_true {p q : Prop} : (if (true = true) then p else q) = p := rfl
/-- a def's promise, in pure form -/
def Sp (tb : List (String × Def)) (f : String) (k : Nat) (R : List D → CM → (D → CM → Prop) → Prop) : Prop := ∀ n, k ≤ n → ∀ ds C P ex, R ds C P → Gm tb n f ds C P ex
theorem sp_mk {tb : List (String × Def)} {f : String} {d : Def} {k : Nat} {R : List D → CM → (D → CM → Prop) → Prop} (h : tb.lookup f = some d)
    (b : ∀ n, k ≤ n → ∀ ds C P ex, R ds C P → denF ⟨Gm tb n, ex⟩ d ds C P) : Sp tb f (k + 1) R := fun n hn ds C P ex r => by
  obtain ⟨m, rfl⟩ : ∃ m, n = m + 1 := ⟨n - 1, by omega⟩
  exact ⟨d, h, b m (by omega) ds C P ex r⟩
theorem Sp.mono {tb : List (String × Def)} {f : String} {k j : Nat} {R : List D → CM → (D → CM → Prop) → Prop} (h : Sp tb f k R) (q : k ≤ j) : Sp tb f j R := fun n hn => h n (Nat.le_trans q hn)
theorem sub_refl (C : CM) : CM.Sub C C := fun _ _ h => h
/-- a loop by what holds behind so many turns -/
theorem for_inv {tg : Tg} {body : AEnds → Rho → CM → Prop} {A : AEnds} (I : List D → Rho → CM → Prop) {ds : List D} {ρ : Rho} {C : CM} (h0 : I [] ρ C)
    (step : ∀ done d rest ρ C, ds = done ++ d :: rest → I done ρ C → ∀ nx : Rho → CM → Prop, (∀ ρ' C', I (done ++ [d]) ρ' C' → nx ρ' C') → bindT tg d ρ fun ρ1 => body { A with nx := nx, ct := nx, bk := A.nx } ρ1 C)
    (hend : ∀ ρ C, I ds ρ C → A.nx ρ C) : forGo tg body A ds ρ C := by
  have key : ∀ (rest done : List D) (ρ : Rho) (C : CM), ds = done ++ rest → I done ρ C → forGo tg body A rest ρ C := by
    intro rest
    induction rest with
    | nil => intro done ρ C e i; rw [List.append_nil] at e; subst e; exact hend ρ C i
    | cons d rest ih =>
      intro done ρ C e i
      exact step done d rest ρ C e i _ fun ρ' C' j => ih (done ++ [d]) ρ' C' (by rw [e, List.append_assoc]; rfl) j
  exact key ds [] ρ C rfl h0
theorem whl_inv {t : Rho → CM → (Bool → Rho → CM → Prop) → Prop} {body : AEnds → Rho → CM → Prop} {A : AEnds} (I : Nat → Rho → CM → Prop) {m : Nat} {ρ : Rho} {C : CM} (h0 : I m ρ C)
    (step : ∀ m ρ C, I m ρ C → ∀ nx : Rho → CM → Prop, (∀ m' ρ' C', m' < m → I m' ρ' C' → nx ρ' C') → t ρ C fun b ρ1 C1 => if b = true then body { A with nx := nx, ct := nx, bk := A.nx } ρ1 C1 else A.nx ρ1 C1) :
    ∃ n, whlGo t body A n ρ C := by
  have key : ∀ (n m : Nat) (ρ : Rho) (C : CM), m < n → I m ρ C → whlGo t body A n ρ C := by
    intro n
    induction n with
    | zero => intro m ρ C h; omega
    | succ n ih => intro m ρ C h i; exact step m ρ C i _ fun m' ρ' C' q j => ih m' ρ' C' (by omega) j
  exact ⟨m + 1, key (m + 1) m ρ C (by omega) h0⟩
/-- a comprehension by what holds behind so many turns -/
theorem comp_inv {turn : D → CM → (Option D → CM → Prop) → Prop} (I : List D → List D → CM → Prop) {ds : List D} {C : CM} {P : List D → CM → Prop} (h0 : I [] [] C)
    (step : ∀ done d rest acc C, ds = done ++ d :: rest → I done acc C → acc.length < sizeLine ∧ ∀ K : Option D → CM → Prop, (∀ y C', I (done ++ [d]) (acc ++ [y]) C' → K (some y) C') → (∀ C', I (done ++ [d]) acc C' → K none C') → turn d C K)
    (hend : ∀ acc C, I ds acc C → P acc C) : compGo turn ds [] C P := by
  have key : ∀ (rest done acc : List D) (C : CM), ds = done ++ rest → I done acc C → compGo turn rest acc C P := by
    intro rest
    induction rest with
    | nil => intro done acc C e i; rw [List.append_nil] at e; subst e; exact hend acc C i
    | cons d rest ih =>
      intro done acc C e i
      obtain ⟨h1, h2⟩ := step done d rest acc C e i
      exact h2 _ (fun y C' j => ⟨h1, ih (done ++ [d]) _ C' (by rw [e, List.append_assoc]; rfl) j⟩) (fun C' j => ih (done ++ [d]) _ C' (by rw [e, List.append_assoc]; rfl) j)
  exact key ds [] [] C rfl h0
/-- one element for each, no cell is touched -/
theorem comp_map {turn : D → CM → (Option D → CM → Prop) → Prop} (f : D → D) {ds acc : List D} {C : CM} {P : List D → CM → Prop} (hl : acc.length + ds.length ≤ sizeLine)
    (step : ∀ d ∈ ds, ∀ K : Option D → CM → Prop, K (some (f d)) C → turn d C K) (hend : P (acc ++ ds.map f) C) : compGo turn ds acc C P := by
  induction ds generalizing acc with
  | nil => rw [List.map_nil, List.append_nil] at hend; exact hend
  | cons d ds ih =>
    rw [List.length_cons] at hl
    refine step d List.mem_cons_self _ ⟨by omega, ih (by rw [List.length_append, List.length_singleton]; omega) (fun e h => step e (List.mem_cons_of_mem _ h)) ?_⟩
    rw [List.append_assoc]; exact hend
/-- .. some of them -/
theorem comp_filter {turn : D → CM → (Option D → CM → Prop) → Prop} (p : D → Bool) (f : D → D) {ds acc : List D} {C : CM} {P : List D → CM → Prop} (hl : acc.length + ds.length ≤ sizeLine)
    (step : ∀ d ∈ ds, ∀ K : Option D → CM → Prop, K (if p d = true then some (f d) else none) C → turn d C K) (hend : P (acc ++ (ds.filter p).map f) C) : compGo turn ds acc C P := by
  induction ds generalizing acc with
  | nil => rw [List.filter_nil, List.map_nil, List.append_nil] at hend; exact hend
  | cons d ds ih =>
    rw [List.length_cons] at hl
    refine step d List.mem_cons_self _ ?_
    rw [List.filter_cons] at hend
    cases hp : p d with
    | true =>
      rw [hp] at hend
      exact ⟨by omega, ih (by rw [List.length_append, List.length_singleton]; omega) (fun e h => step e (List.mem_cons_of_mem _ h)) (by rw [List.append_assoc]; exact hend)⟩
    | false =>
      rw [hp] at hend
      exact ih (by omega) (fun e h => step e (List.mem_cons_of_mem _ h)) hend

/-! ### the deck -/
theorem atI_0 {α : Type} (x : α) (xs : List α) : atI (x :: xs) 0 = some x := atI_nat (j := 0) rfl
theorem atI_1 {α : Type} (x y : α) (xs : List α) : atI (x :: y :: xs) 1 = some y := atI_nat (j := 1) rfl
theorem atI_2 {α : Type} (x y z : α) (xs : List α) : atI (x :: y :: z :: xs) 2 = some z := atI_nat (j := 2) rfl
mutual
def D.dep : D → Nat
  | .non => 0
  | .bl _ => 0
  | .int _ => 0
  | .str _ => 0
  | .tup xs => D.deps xs + 1
  | .lst xs => D.deps xs + 1
  | .ref _ => 0
  | .scr _ => 0
  | .dic => 0
def D.deps : List D → Nat
  | [] => 0
  | x :: xs => max (D.dep x) (D.deps xs)
end
mutual
def D.can : D → Bool
  | .str x => PyData.canLay0 (.str x)
  | .tup xs => D.cans xs
  | .lst xs => D.cans xs
  | .non => true
  | .bl _ => true
  | .int _ => true
  | .ref _ => true
  | .scr _ => true
  | .dic => true
def D.cans : List D → Bool
  | [] => true
  | x :: xs => D.can x && D.cans xs
end
mutual
theorem py_can : ∀ d : D, d.py.canLay0 = d.can
  | .non => rfl
  | .bl _ => rfl
  | .int _ => rfl
  | .str _ => rfl
  | .tup xs => pys_can xs
  | .lst xs => pys_can xs
  | .ref _ => rfl
  | .scr _ => rfl
  | .dic => rfl
theorem pys_can : ∀ xs : List D, PyData.canLayAll0 (D.pys xs) = D.cans xs
  | [] => rfl
  | x :: xs => by
    show (PyData.canLay0 x.py && PyData.canLayAll0 (D.pys xs)) = (D.can x && D.cans xs)
    rw [py_can x, pys_can xs]
end
mutual
theorem py_dep : ∀ d : D, d.py.depth = d.dep
  | .non => rfl
  | .bl _ => rfl
  | .int _ => rfl
  | .str _ => rfl
  | .tup xs => by show PyData.depthAll (D.pys xs) + 1 = D.deps xs + 1; rw [pys_dep xs]
  | .lst xs => by show PyData.depthAll (D.pys xs) + 1 = D.deps xs + 1; rw [pys_dep xs]
  | .ref _ => rfl
  | .scr _ => rfl
  | .dic => rfl
theorem pys_dep : ∀ xs : List D, PyData.depthAll (D.pys xs) = D.deps xs
  | [] => rfl
  | x :: xs => by
    show max (PyData.depth x.py) (PyData.depthAll (D.pys xs)) = max x.dep (D.deps xs)
    rw [py_dep x, pys_dep xs]
end
theorem cmp_of {d : D} (h : d.pure = true) (q : d.dep ≤ 64) (c : d.can = true) : d.Cmp := ⟨h, by
  unfold SeqAt.shaped
  rw [py_can, py_dep, decide_eq_true q, c]; rfl⟩
theorem ints_pure : ∀ xs : List Int, D.pures (xs.map .int) = true
  | [] => rfl
  | x :: xs => by rw [List.map_cons]; show (D.pure (.int x) && D.pures _) = true; rw [ints_pure xs]; rfl
theorem ints_deps : ∀ xs : List Int, D.deps (xs.map .int) = 0
  | [] => rfl
  | x :: xs => by rw [List.map_cons]; show max 0 (D.deps _) = 0; rw [ints_deps xs]; rfl
theorem ints_cans : ∀ xs : List Int, D.cans (xs.map .int) = true
  | [] => rfl
  | x :: xs => by rw [List.map_cons]; show (D.can (.int x) && D.cans _) = true; rw [ints_cans xs]; rfl
theorem ints_Cmp (xs : List Int) : (D.lst (xs.map .int)).Cmp := cmp_of (ints_pure xs) (by show D.deps _ + 1 ≤ 64; rw [ints_deps]; omega) (ints_cans xs)
theorem intst_Cmp (xs : List Int) : (D.tup (xs.map .int)).Cmp := cmp_of (ints_pure xs) (by show D.deps _ + 1 ≤ 64; rw [ints_deps]; omega) (ints_cans xs)
theorem int_Cmp (i : Int) : (D.int i).Cmp := cmp_of rfl (Nat.zero_le _) rfl
theorem bl_Cmp (i : Bool) : (D.bl i).Cmp := cmp_of rfl (Nat.zero_le _) rfl
theorem pair_Cmp (i j : Int) : (D.tup [.int i, .int j]).Cmp := intst_Cmp [i, j]
theorem non_Cmp : D.non.Cmp := cmp_of rfl (Nat.zero_le _) rfl
theorem eqv_int (i j : Int) : (D.int i).eqv (.int j) = decide (i = j) := by
  show (i == j) = _
  by_cases h : i = j <;> simp [h]
theorem eqv_bl (i j : Bool) : (D.bl i).eqv (.bl j) = decide (i = j) := by
  show (i == j) = _
  cases i <;> cases j <;> rfl
theorem eqvAll_ints : ∀ xs ys : List Int, PyData.eqvAll (D.pys (xs.map .int)) (D.pys (ys.map .int)) = decide (xs = ys)
  | [], [] => rfl
  | [], y :: ys => by rw [decide_eq_false (by simp)]; rfl
  | x :: xs, [] => by rw [decide_eq_false (by simp)]; rfl
  | x :: xs, y :: ys => by
    show ((x == y) && PyData.eqvAll (D.pys (xs.map .int)) (D.pys (ys.map .int))) = _
    rw [eqvAll_ints xs ys]
    by_cases h : x = y <;> by_cases q : xs = ys <;> simp [h, q]
theorem eqv_ints (xs ys : List Int) : (D.lst (xs.map .int)).eqv (.lst (ys.map .int)) = decide (xs = ys) := eqvAll_ints xs ys
theorem eqv_intst (xs ys : List Int) : (D.tup (xs.map .int)).eqv (.tup (ys.map .int)) = decide (xs = ys) := eqvAll_ints xs ys
theorem intsOf_map : ∀ xs : List Int, intsOf (xs.map .int) = some xs
  | [] => rfl
  | x :: xs => by
    rw [List.map_cons]
    show (intsOf (xs.map D.int)).map (x :: ·) = _
    rw [intsOf_map xs]; rfl
theorem boolsOf_map : ∀ xs : List Bool, boolsOf (xs.map .bl) = some xs
  | [] => rfl
  | x :: xs => by
    rw [List.map_cons]
    show (boolsOf (xs.map D.bl)).map (x :: ·) = _
    rw [boolsOf_map xs]; rfl

/-! ### operations, case by case -/
section
variable (P : D → Prop) (Pb : Bool → Prop) (C : CM) (i j : Int) (x y : Str) (xs ys : List D) (b c : Bool) (d e : D) (a : Addr) (lo hi : Option Int)
theorem add_i : binR .add (.int i) (.int j) P = P (.int (i + j)) := rfl
theorem add_t : binR .add (.tup xs) (.tup ys) P = (xs.length + ys.length ≤ sizeLine ∧ P (.tup (xs ++ ys))) := rfl
theorem add_l : binR .add (.lst xs) (.lst ys) P = (xs.length + ys.length ≤ sizeLine ∧ P (.lst (xs ++ ys))) := rfl
theorem add_s : binR .add (.str x) (.str y) P = (x.length + y.length ≤ sizeLine ∧ P (.str (x ++ y))) := rfl
theorem add_b (b : Bool) : binR .add (.bl b) (.int j) P = P (.int ((if b = true then 1 else 0) + j)) := rfl
theorem sub_b (b : Bool) : binR .sub (.bl b) (.int j) P = P (.int ((if b = true then 1 else 0) - j)) := rfl
theorem sub_i : binR .sub (.int i) (.int j) P = P (.int (i - j)) := rfl
theorem mul_i : binR .mul (.int i) (.int j) P = (CMul i j ∧ P (.int (i * j))) := rfl
theorem mul_t : binR .mul (.tup xs) (.int j) P = (-1000 ≤ j ∧ j ≤ 1000 ∧ xs.length ≤ 1000 ∧ P (.tup (List.replicate j.toNat xs).flatten)) := rfl
theorem mul_l : binR .mul (.lst xs) (.int j) P = (-(2 ^ 63) ≤ j ∧ j < 2 ^ 63 ∧ xs.length * j.toNat ≤ sizeLine ∧ P (.lst (List.replicate j.toNat xs).flatten)) := rfl
theorem fdiv_i : binR .fdiv (.int i) (.int j) P = (CDiv i j ∧ P (.int (i / j))) := rfl
theorem mod_i : binR .mod (.int i) (.int j) P = (0 < j ∧ P (.int (i % j))) := rfl
theorem pow_i : binR .pow (.int i) (.int j) P = (CPow i j ∧ P (.int (i ^ j.toNat))) := rfl
theorem shl_i : binR .shl (.int i) (.int j) P = (CPow i j ∧ P (.int (i * 2 ^ j.toNat))) := rfl
theorem eq_r : cmpR .eq d e Pb = (d.Cmp ∧ e.Cmp ∧ Pb (d.eqv e)) := by cases d <;> cases e <;> rfl
theorem ne_r : cmpR .ne d e Pb = (d.Cmp ∧ e.Cmp ∧ Pb (!d.eqv e)) := by cases d <;> cases e <;> rfl
theorem inn_t : cmpR .inn d (.tup ys) Pb = (d.flat = true ∧ ys.all D.flat = true ∧ Pb (ys.any fun z => z.eqv d)) := by cases d <;> rfl
theorem nin_t : cmpR .nin d (.tup ys) Pb = (d.flat = true ∧ ys.all D.flat = true ∧ Pb (!ys.any fun z => z.eqv d)) := by cases d <;> rfl
theorem inn_l : cmpR .inn d (.lst ys) Pb = (d.Cmp ∧ (D.lst ys).Cmp ∧ Pb (ys.any fun z => z.eqv d)) := by cases d <;> rfl
theorem nin_l : cmpR .nin d (.lst ys) Pb = (d.Cmp ∧ (D.lst ys).Cmp ∧ Pb (!ys.any fun z => z.eqv d)) := by cases d <;> rfl
theorem lt_r : cmpR .lt (.int i) (.int j) Pb = Pb (decide (i < j)) := rfl
theorem lt_tt : cmpR .lt (.tup xs) (.tup ys) Pb = ∃ ns ms, intsOf xs = some ns ∧ intsOf ys = some ms ∧ Pb (HT.lexLt ns ms) := rfl
theorem le_r : cmpR .le (.int i) (.int j) Pb = Pb (decide (i ≤ j)) := rfl
theorem gt_r : cmpR .gt (.int i) (.int j) Pb = Pb (decide (j < i)) := rfl
theorem ge_r : cmpR .ge (.int i) (.int j) Pb = Pb (decide (j ≤ i)) := rfl
theorem is_n : cmpR .is d .non Pb = Pb d.isNon := by cases d <;> rfl
theorem isn_n : cmpR .isn d .non Pb = Pb (!d.isNon) := by cases d <;> rfl
theorem is_b : cmpR .is (.bl b) (.bl c) Pb = Pb (decide (b = c)) := rfl
theorem isn_b : cmpR .isn (.bl b) (.bl c) Pb = Pb (!decide (b = c)) := rfl
theorem sqD_t : sqD (.tup xs) = some xs := rfl
theorem sqD_l : sqD (.lst xs) = some xs := rfl
theorem isNon_n : D.isNon .non = true := rfl
theorem isNon_i : D.isNon (.int i) = false := rfl
theorem isNon_t : D.isNon (.tup xs) = false := rfl
theorem isNon_l : D.isNon (.lst xs) = false := rfl
theorem isNon_b : D.isNon (.bl b) = false := rfl
theorem isNon_s : D.isNon (.str x) = false := rfl
theorem tru_n : truD .non Pb = Pb false := rfl
theorem tru_b : truD (.bl b) Pb = Pb b := rfl
theorem tru_i : truD (.int i) Pb = Pb (i != 0) := rfl
theorem tru_t : truD (.tup xs) Pb = Pb (!xs.isEmpty) := rfl
theorem tru_l : truD (.lst xs) Pb = Pb (!xs.isEmpty) := rfl
theorem ix_t : itemR C (.tup xs) (.int i) P = ∃ d, atI xs i = some d ∧ P d := rfl
theorem ix_l : itemR C (.lst xs) (.int i) P = ∃ d, atI xs i = some d ∧ P d := rfl
theorem ix_c : itemR C (.scr xs) (.int i) P = ∃ d, atI xs i = some d ∧ P d := rfl
theorem ix_r : itemR C (.ref a) (.int i) P = ∃ d, cellAt (C a) (.int i) = some d ∧ P d := rfl
theorem cellAt_l : cellAt (some (.lst xs)) (.int i) = atI xs i := rfl
theorem cellL_l : cellL (some (.lst xs)) = some xs := rfl
theorem lstD_l : lstD C (.lst xs) = some xs := rfl
theorem lstD_r : lstD C (.ref a) = cellL (C a) := rfl
theorem sl_t : sliceR C (.tup xs) lo hi P = P (.tup (cutD xs lo hi)) := rfl
theorem sl_l : sliceR C (.lst xs) lo hi P = P (.lst (cutD xs lo hi)) := rfl
theorem sl_c : sliceR C (.scr xs) lo hi P = P (.lst (cutD xs lo hi)) := rfl
theorem sl_r : sliceR C (.ref a) lo hi P = ∃ xs, C a = some (.lst xs) ∧ P (.lst (cutD xs lo hi)) := rfl
theorem rev_t : revR (.tup xs) P = P (.tup xs.reverse) := rfl
theorem rev_l : revR (.lst xs) P = P (.lst xs.reverse) := rfl
theorem len_t : bltR C .len [.tup xs] P = P (.int xs.length) := propext ⟨fun ⟨_, h, q⟩ => by cases h; exact q, fun q => ⟨_, rfl, q⟩⟩
theorem len_l : bltR C .len [.lst xs] P = P (.int xs.length) := propext ⟨fun ⟨_, h, q⟩ => by cases h; exact q, fun q => ⟨_, rfl, q⟩⟩
theorem len_c : bltR C .len [.scr xs] P = P (.int xs.length) := propext ⟨fun ⟨_, h, q⟩ => by cases h; exact q, fun q => ⟨_, rfl, q⟩⟩
theorem len_r : bltR C .len [.ref a] P = ∃ xs, C a = some (.lst xs) ∧ P (.int xs.length) := rfl
theorem tup_t : bltR C .tuple [.tup xs] P = P (.tup xs) := propext ⟨fun ⟨_, h, q⟩ => by cases h; exact q, fun q => ⟨_, rfl, q⟩⟩
theorem tup_l : bltR C .tuple [.lst xs] P = P (.tup xs) := propext ⟨fun ⟨_, h, q⟩ => by cases h; exact q, fun q => ⟨_, rfl, q⟩⟩
theorem tup_r : bltR C .tuple [.ref a] P = ∃ xs, cellL (C a) = some xs ∧ P (.tup xs) := rfl
theorem sum_t : bltR C .sum [.tup xs] P = ∃ ns, intsOf xs = some ns ∧ P (.int ns.sum) := propext ⟨fun ⟨_, ns, h, q⟩ => by cases h; exact ⟨ns, q⟩, fun ⟨ns, q⟩ => ⟨_, ns, rfl, q⟩⟩
theorem sum_l : bltR C .sum [.lst xs] P = ∃ ns, intsOf xs = some ns ∧ P (.int ns.sum) := propext ⟨fun ⟨_, ns, h, q⟩ => by cases h; exact ⟨ns, q⟩, fun ⟨ns, q⟩ => ⟨_, ns, rfl, q⟩⟩
theorem sum_r : bltR C .sum [.ref a] P = ∃ xs ns, cellL (C a) = some xs ∧ intsOf xs = some ns ∧ P (.int ns.sum) := rfl
theorem min_t : bltR C .min [.tup xs] P = ∃ ns, intsOf xs = some ns ∧ ns ≠ [] ∧ P (.int (minI ns)) := propext ⟨fun ⟨_, ns, h, q⟩ => by cases h; exact ⟨ns, q⟩, fun ⟨ns, q⟩ => ⟨_, ns, rfl, q⟩⟩
theorem min_l : bltR C .min [.lst xs] P = ∃ ns, intsOf xs = some ns ∧ ns ≠ [] ∧ P (.int (minI ns)) := propext ⟨fun ⟨_, ns, h, q⟩ => by cases h; exact ⟨ns, q⟩, fun ⟨ns, q⟩ => ⟨_, ns, rfl, q⟩⟩
theorem max_t : bltR C .max [.tup xs] P = ∃ ns, intsOf xs = some ns ∧ ns ≠ [] ∧ P (.int (maxI ns)) := propext ⟨fun ⟨_, ns, h, q⟩ => by cases h; exact ⟨ns, q⟩, fun ⟨ns, q⟩ => ⟨_, ns, rfl, q⟩⟩
theorem max_l : bltR C .max [.lst xs] P = ∃ ns, intsOf xs = some ns ∧ ns ≠ [] ∧ P (.int (maxI ns)) := propext ⟨fun ⟨_, ns, h, q⟩ => by cases h; exact ⟨ns, q⟩, fun ⟨ns, q⟩ => ⟨_, ns, rfl, q⟩⟩
theorem min_2 : bltR C .min2 [.int i, .int j] P = P (.int (if j < i then j else i)) := rfl
theorem max_2 : bltR C .max2 [.int i, .int j] P = P (.int (if j > i then j else i)) := rfl
theorem abs_i : bltR C .abs [.int i] P = P (.int (if i < 0 then -i else i)) := rfl
theorem int_i : bltR C .int [.int i] P = P (.int i) := rfl
theorem int_b : bltR C .int [.bl b] P = P (.int (if b then 1 else 0)) := rfl
theorem all_l : bltR C .all [.lst xs] P = ∃ bs, boolsOf xs = some bs ∧ P (.bl (bs.all id)) := rfl
theorem any_l : bltR C .any [.lst xs] P = ∃ bs, boolsOf xs = some bs ∧ P (.bl (bs.any id)) := rfl
theorem str_ri (i : Int) : bltR C .str [.int i] P = (i.natAbs.log2 < 1920 ∧ P (.str (Str.ofString (toString i)))) := rfl
theorem repr_r : bltR C .repr [d] P = (d.pure = true ∧ d.py.showable = true ∧ d.py.hasDict = false ∧ d.py.depth ≤ 64 ∧ d.py.shown.length ≤ sizeLine ∧ P (.str d.py.shown)) := rfl
theorem min_2d : bltR C .min2d [d, e] P = (D.pures [d, e] = true ∧ PySem.W.AlikeAll (D.pys [d, e]) ∧ PyData.depthAll (D.pys [d, e]) ≤ 64 ∧ ∀ z ∈ [d, e], z.py = PySem.W.minD d.py (D.pys [e]) → P z) := rfl
theorem min_3 (k : Int) : bltR C .min3 [.int i, .int j, .int k] P = P (.int (min (min i j) k)) := rfl
theorem ty_bb : isTy .bool (.bl b) = some true := rfl
theorem ty_bi : isTy .bool (.int i) = some false := rfl
theorem ty_bn : isTy .bool .non = some false := rfl
theorem ty_bt : isTy .bool (.tup xs) = some false := rfl
theorem ty_ss : isTy .str (.str x) = some true := rfl
theorem ty_sn : isTy .str .non = some false := rfl
theorem ty_si : isTy .str (.int i) = some false := rfl
theorem ty_sb : isTy .str (.bl b) = some false := rfl
theorem ty_ii : isTy .int (.int i) = some true := rfl
theorem ty_ib : isTy .int (.bl b) = some true := rfl
theorem ty_in : isTy .int .non = some false := rfl
theorem ty_it : isTy .int (.tup xs) = some false := rfl
theorem ty_tt : isTy .tuple (.tup xs) = some true := rfl
theorem ty_tn : isTy .tuple .non = some false := rfl
theorem ty_ti : isTy .tuple (.int i) = some false := rfl
theorem ty_tb : isTy .tuple (.bl b) = some false := rfl
theorem ty_ll : isTy .list (.lst xs) = some true := rfl
theorem ty_lt : isTy .list (.tup xs) = some false := rfl
theorem ty_is : isTy .int (.str x) = some false := rfl
theorem ty_il : isTy .int (.lst xs) = some false := rfl
theorem ty_bs : isTy .bool (.str x) = some false := rfl
theorem ty_blst : isTy .bool (.lst xs) = some false := rfl
theorem ty_st : isTy .str (.tup xs) = some false := rfl
theorem ty_sl : isTy .str (.lst xs) = some false := rfl
theorem ty_ts : isTy .tuple (.str x) = some false := rfl
theorem ty_tl : isTy .tuple (.lst xs) = some false := rfl
theorem ty_ln : isTy .list .non = some false := rfl
theorem ty_li : isTy .list (.int i) = some false := rfl
theorem ty_lb : isTy .list (.bl b) = some false := rfl
theorem ty_ls : isTy .list (.str x) = some false := rfl
end
theorem sz : sizeLine = 16777216 := by decide
theorem cp1 : CPow 10 1 = True := eq_true (by refine ⟨by decide, by decide, by decide⟩)
theorem cp2 : CPow 10 2 = True := eq_true (by refine ⟨by decide, by decide, by decide⟩)
theorem cp3 : CPow 10 3 = True := eq_true (by refine ⟨by decide, by decide, by decide⟩)
theorem cp4 : CPow 10 4 = True := eq_true (by refine ⟨by decide, by decide, by decide⟩)
theorem cp5 : CPow 10 5 = True := eq_true (by refine ⟨by decide, by decide, by decide⟩)
theorem cp6 : CPow 10 6 = True := eq_true (by refine ⟨by decide, by decide, by decide⟩)
theorem cp7 : CPow 10 7 = True := eq_true (by refine ⟨by decide, by decide, by decide⟩)
theorem cp8 : CPow 10 8 = True := eq_true (by refine ⟨by decide, by decide, by decide⟩)
theorem cp9 : CPow 10 9 = True := eq_true (by refine ⟨by decide, by decide, by decide⟩)
theorem cp10 : CPow 10 10 = True := eq_true (by refine ⟨by decide, by decide, by decide⟩)
theorem cp11 : CPow 10 11 = True := eq_true (by refine ⟨by decide, by decide, by decide⟩)
theorem cp12 : CPow 10 12 = True := eq_true (by refine ⟨by decide, by decide, by decide⟩)
theorem cp15 : CPow 10 15 = True := eq_true (by refine ⟨by decide, by decide, by decide⟩)
theorem cp18 : CPow 10 18 = True := eq_true (by refine ⟨by decide, by decide, by decide⟩)
theorem ixN_31 : ixN 3 1 = some 1 := rfl
theorem ixN_32 : ixN 3 2 = some 2 := rfl
theorem seqIx_0 (n : Nat) : seqIndex? 0 (n + 1) = some 0 := by
  unfold seqIndex?
  simp
theorem cpow_ok {i j : Int} (h : (decide (0 ≤ j) && decide (j ≤ 1000000) && decide (i.natAbs < 2 ^ 64)) = true) : CPow i j := by
  simp only [Bool.and_eq_true, decide_eq_true_eq] at h
  exact ⟨h.1.1, h.1.2, h.2⟩
end M61

set_option Elab.async false
set_option linter.all false
set_option autoImplicit false
set_option maxRecDepth 100000
/-! P2: the deck and its draws. -/
namespace M61
open PySem PySem.Spec PyProof.Rows L2
local macro_rules
  | `(tactic| simp_arith! [$ls,*] $[$loc:location]?) => `(tactic| try simp only [wipeR_cons, wipeR_nil, eq_self, denSs, denS, denE, denT, denEs, denO, denC, denL, denI, bindT_nm, bindT_tp, bindT_tl, bindTs_nil, bindTs_cons, varD_0, varD_s, varM_own0, varM_dat0, varM_s, varO_0, varO_s, varL_own0, varL_ref0, varL_s, sz, cp1, cp2, cp3, cp4, cp5, cp6, cp7, cp8, cp9, cp10, cp11, cp12, cp15, cp18, add_i, add_t, add_l, add_s, add_b, sub_b, sub_i, mul_i, mul_t, mul_l, fdiv_i, mod_i, pow_i, shl_i, eq_r, ne_r, inn_t, nin_t, inn_l, nin_l, lt_r, lt_tt, le_r, gt_r, ge_r, is_n, isn_n, is_b, isn_b, isNon_n, isNon_i, isNon_t, isNon_l, isNon_b, isNon_s, tru_n, tru_b, tru_i, tru_t, tru_l, ix_t, ix_l, ix_c, ix_r, cellAt_l, cellL_l, lstD_l, lstD_r, sqD_t, sqD_l, sl_t, sl_l, sl_c, sl_r, rev_t, rev_l, len_t, len_l, len_c, len_r, tup_t, tup_l, tup_r, sum_t, sum_l, sum_r, min_t, min_l, max_t, max_l, min_2, max_2, min_3, repr_r, str_ri, abs_i, int_i, int_b, all_l, any_l, ty_bb, ty_bi, ty_bn, ty_bt, ty_ss, ty_sn, ty_si, ty_sb, ty_ii, ty_ib, ty_in, ty_it, ty_tt, ty_tn, ty_ti, ty_tb, ty_ll, ty_lt, ty_is, ty_il, ty_bs, ty_blst, ty_st, ty_sl, ty_ts, ty_tl, ty_ln, ty_li, ty_lb, ty_ls, intsOf_map, boolsOf_map, pair_Cmp, int_Cmp, bl_Cmp, non_Cmp, ints_Cmp, intst_Cmp, eqv_int, eqv_bl, eqv_ints, eqv_intst, List.map_cons, List.map_nil, List.replicate_succ, List.replicate_zero, List.cons_append, List.nil_append, List.set_cons_zero, List.set_cons_succ, List.length_cons, List.length_nil, List.getElem?_cons_zero, List.getElem?_cons_succ, List.eraseIdx_cons_zero, Nat.reduceSub, Nat.reduceAdd, Nat.reduceLT, Nat.reduceLeDiff, Nat.reducePow, Nat.reduceEqDiff, Nat.reduceMul, Int.reducePow, Int.reduceToNat, Int.reduceMul, Int.reduceAdd, Int.reduceSub, Int.reduceNeg, Int.reduceLT, Int.reduceLE, Int.reduceEq, Int.reduceBEq, Int.reduceBNe, zero_add', not_true_eq_false, not_false_eq_true, Bool.true_eq_false, false_and, and_false, true_and, and_true, exists_eq_left', exists_and_left, Option.some.injEq, Cell.lst.injEq, Cell.dct.injEq, if_pos_true, reduceIte, Bool.false_eq_true, decide_true, decide_false, Bool.not_true, Bool.not_false, Bool.not_eq_true', Bool.and_true, Bool.true_and, decide_eq_true_eq, decide_eq_false_iff_not, ite_self, List.isEmpty_cons, List.isEmpty_nil, $ls,*] $[$loc]?)
def i_law_draw : Def := ⟨2, 5,
  (.cons (.csub (.var 0) (.int 2) (.bin .add (.ix (.var 0) (.int 2)) (.int 1)))
  (.cons (.set 2 (.ix (.var 0) (.int 0)))
  (.cons (.set 3 (.ix (.var 0) (.int 1)))
  (.cons (.ife (.one 2) (.cons (.set 3 (.cpopA (.var 2) (.int 0)))
  (.cons (.ife (.cmp .ge (.var 3) (.bin .pow (.int 10) (.int 18))) (.cons (.cins (.var 2) (.int 0) (.bin .fdiv (.var 3) (.var 1)))
  (.cons (.ret (.bin .mod (.var 3) (.var 1)))
  .nil)) .nil)
  (.cons (.set 3 (.bin .add (.var 3) (.ix (.var 0) (.int 1))))
  .nil))) .nil)
  (.cons (.set 4 (.bin .mod (.bin .add (.bin .add (.bin .mul (.bin .mod (.var 3) (.int 2147483629)) (.int 48271)) (.bin .mul (.int 7919) (.ix (.var 0) (.int 2)))) (.int 13)) (.int 2147483647)))
  (.cons (.set 4 (.bin .mod (.bin .add (.bin .add (.bin .mul (.var 4) (.var 4)) (.bin .mul (.int 69621) (.var 4))) (.ix (.var 0) (.int 2))) (.int 2147483587)))
  (.cons (.csub (.var 0) (.int 1) (.var 4))
  (.cons (.ret (.bin .mod (.bin .fdiv (.bin .mod (.bin .mul (.var 4) (.bin .add (.var 4) (.int 40692))) (.int 2147483563)) (.int 64)) (.var 1)))
  .nil))))))))⟩
/-- a list deck at a, its numbers at b -/
def Deck (a b : Addr) (C : CM) : Prop := ∃ (xs : List Int) (s c : Int), a ≠ b ∧ C a = some (.lst [.ref b, .int s, .int c]) ∧ C b = some (.lst (xs.map .int)) ∧ xs.length ≤ 63
theorem cmul_mod (t K j : Int) (h : 0 < K) (q : K ≤ 18446744073709551616) : CMul (t % K) j := by
  have h1 := Int.emod_nonneg t (show K ≠ 0 by omega)
  have h2 := Int.emod_lt_of_pos t h
  exact .inl ⟨by omega, by omega⟩
theorem cmul_l (i j : Int) (h : -18446744073709551616 < i ∧ i < 18446744073709551616) : CMul i j := .inl ⟨by omega, by omega⟩
/-- what a draw gives -/
def DrawR (ds : List D) (C : CM) (P : D → CM → Prop) : Prop := ∃ (a b : Addr) (n : Int), ds = [.ref a, .int n] ∧ Deck a b C ∧ 0 < n ∧ n < 1073741824 ∧
  ∀ v C', 0 ≤ v → v < n → Deck a b C' → (∀ e, e ≠ a → e ≠ b → C' e = C e) → P (.int v) C'
theorem draw_ok (G : Ctx) (a b : Addr) (n : Int) (C : CM) (P : D → CM → Prop) (hD : Deck a b C) (h0 : 0 < n) (h1 : n < 1073741824)
    (k : ∀ v C', 0 ≤ v → v < n → Deck a b C' → (∀ e, e ≠ a → e ≠ b → C' e = C e) → P (.int v) C') : denF G i_law_draw [.ref a, .int n] C P := by
  obtain ⟨xs, s, c, hab, ha, hb, hl⟩ := hD
  refine ⟨rfl, ?_⟩
  have hba : ¬ (b = a) := fun e => hab e.symm
  have fin : ∀ (t s' : Int) (C' : CM), C' a = some (.lst [.ref b, .int s', .int (c + 1)]) → (∃ ys : List Int, C' b = some (.lst (ys.map .int)) ∧ ys.length ≤ 63) → (∀ e, e ≠ a → e ≠ b → C' e = C e) → ∃ C'', CM.Sub C'' C' ∧ P (.int (t % n)) C'' :=
    fun t s' C' e1 ⟨ys, e2, e3⟩ e4 => ⟨C', sub_refl _, k _ _ (Int.emod_nonneg t (by omega)) (Int.emod_lt_of_pos t h0) ⟨ys, s', c + 1, hab, e1, e2, e3⟩ e4⟩
  cases xs with
  | nil =>
    simp only [List.map_nil] at hb
    simp_arith! [i_law_draw, ha, atI_2, atI_1, atI_0, ixN_31, ixN_32, hba, if_neg hba, hb]
    refine ⟨ints_Cmp [], cmul_mod _ _ _ (by decide) (by decide), cmul_l _ _ (by decide), cmul_mod _ _ _ (by decide) (by decide), cmul_l _ _ (by decide), cmul_mod _ _ _ (by decide) (by decide), ⟨by decide, by decide⟩, h0, ?_⟩
    exact fin _ _ _ (if_pos rfl) ⟨[], by rw [if_neg hba, if_neg hba]; exact hb, Nat.zero_le _⟩ (fun e h1 h2 => by rw [if_neg h1, if_neg h1])
  | cons x xs =>
    simp only [List.map_cons] at hb
    simp_arith! [i_law_draw, ha, atI_2, atI_1, atI_0, ixN_31, ixN_32, hba, if_neg hba, if_neg hab, hb, seqIx_0]
    have hs : (xs.map D.int).length < 16777216 := by
      rw [List.length_map]
      rw [List.length_cons] at hl
      omega
    rw [List.length_cons] at hl
    refine ⟨ints_Cmp (x :: xs), ?_⟩
    split
    · refine ⟨⟨h0, h1⟩, hs, h0, ?_⟩
      refine fin _ s _ (by rw [if_neg hab, if_neg hab, if_pos rfl]) ⟨(x / n) :: xs, by rw [if_pos rfl]; rfl, by rw [List.length_cons]; omega⟩ (fun e h1 h2 => by rw [if_neg h2, if_neg h2, if_neg h1])
    · refine ⟨cmul_mod _ _ _ (by decide) (by decide), cmul_l _ _ (by decide), cmul_mod _ _ _ (by decide) (by decide), cmul_l _ _ (by decide), cmul_mod _ _ _ (by decide) (by decide), ⟨by decide, by decide⟩, h0, ?_⟩
      exact fin _ _ _ (if_pos rfl) ⟨xs, by rw [if_neg hba, if_pos rfl], by omega⟩ (fun e h1 h2 => by rw [if_neg h1, if_neg h2, if_neg h1])
theorem sp_draw {tb : List (String × Def)} (h : tb.lookup "_law_draw" = some i_law_draw) : Sp tb "_law_draw" 1 DrawR :=
  sp_mk h fun n _ ds C P ex ⟨a, b, m, e, hD, h0, h1, k⟩ => by subst e; exact draw_ok _ a b m C P hD h0 h1 k
end M61

set_option Elab.async false
set_option linter.all false
set_option autoImplicit false
set_option maxRecDepth 100000
/-! P3: lists in pure form; drawing. -/
namespace M61
open PySem PySem.Spec PyProof.Rows L2
theorem comp_mapL {α : Type} (g f : α → D) {turn : D → CM → (Option D → CM → Prop) → Prop} {xs : List α} {C : CM} {P : List D → CM → Prop} (hl : xs.length ≤ sizeLine)
    (step : ∀ x ∈ xs, ∀ K : Option D → CM → Prop, K (some (f x)) C → turn (g x) C K) (hend : P (xs.map f) C) : compGo turn (xs.map g) [] C P := by
  have key : ∀ (xs : List α) (acc : List D), acc.length + xs.length ≤ sizeLine → (∀ x ∈ xs, ∀ K : Option D → CM → Prop, K (some (f x)) C → turn (g x) C K) → P (acc ++ xs.map f) C → compGo turn (xs.map g) acc C P := by
    intro xs
    induction xs with
    | nil => intro acc _ _ h; rw [List.map_nil, List.append_nil] at h; exact h
    | cons x xs ih =>
      intro acc hl step hend
      rw [List.length_cons] at hl
      exact step x List.mem_cons_self _ ⟨by omega, ih _ (by rw [List.length_append, List.length_singleton]; omega) (fun e h => step e (List.mem_cons_of_mem _ h)) (by rw [List.append_assoc]; exact hend)⟩
  exact key xs [] (by rw [List.length_nil]; omega) step hend
theorem comp_filterL {α : Type} (p : α → Bool) (g f : α → D) {turn : D → CM → (Option D → CM → Prop) → Prop} {xs : List α} {C : CM} {P : List D → CM → Prop} (hl : xs.length ≤ sizeLine)
    (step : ∀ x ∈ xs, ∀ K : Option D → CM → Prop, K (if p x = true then some (f x) else none) C → turn (g x) C K) (hend : P ((xs.filter p).map f) C) : compGo turn (xs.map g) [] C P := by
  have key : ∀ (xs : List α) (acc : List D), acc.length + xs.length ≤ sizeLine → (∀ x ∈ xs, ∀ K : Option D → CM → Prop, K (if p x = true then some (f x) else none) C → turn (g x) C K) → P (acc ++ (xs.filter p).map f) C → compGo turn (xs.map g) acc C P := by
    intro xs
    induction xs with
    | nil => intro acc _ _ h; rw [List.filter_nil, List.map_nil, List.append_nil] at h; exact h
    | cons x xs ih =>
      intro acc hl step hend
      rw [List.length_cons] at hl
      refine step x List.mem_cons_self _ ?_
      rw [List.filter_cons] at hend
      cases hp : p x with
      | true =>
        rw [hp] at hend
        exact ⟨by omega, ih _ (by rw [List.length_append, List.length_singleton]; omega) (fun e h => step e (List.mem_cons_of_mem _ h)) (by rw [List.append_assoc]; exact hend)⟩
      | false =>
        rw [hp] at hend
        exact ih _ (by omega) (fun e h => step e (List.mem_cons_of_mem _ h)) hend
  exact key xs [] (by rw [List.length_nil]; omega) step hend
/-- a comprehension that draws: its elements are of a kind, cells keep what J says -/
theorem comp_all {α : Type} (J : CM → Prop) (Q : α → Prop) (f : α → D) {turn : D → CM → (Option D → CM → Prop) → Prop} {ds : List D} {C : CM} {P : List D → CM → Prop} (hl : ds.length ≤ sizeLine) (h0 : J C)
    (step : ∀ d ∈ ds, ∀ C, J C → ∀ K : Option D → CM → Prop, (∀ y C', Q y → J C' → K (some (f y)) C') → turn d C K) (hend : ∀ (ys : List α) C, ys.length = ds.length → (∀ y ∈ ys, Q y) → J C → P (ys.map f) C) : compGo turn ds [] C P := by
  have key : ∀ (ds : List D) (acc : List α) (C : CM), acc.length + ds.length ≤ sizeLine → J C → (∀ y ∈ acc, Q y) → (∀ d ∈ ds, ∀ C, J C → ∀ K : Option D → CM → Prop, (∀ y C', Q y → J C' → K (some (f y)) C') → turn d C K) →
      (∀ (ys : List α) C, ys.length = acc.length + ds.length → (∀ y ∈ ys, Q y) → J C → P (ys.map f) C) → compGo turn ds (acc.map f) C P := by
    intro ds
    induction ds with
    | nil => intro acc C _ j q _ h; exact h acc C rfl q j
    | cons d ds ih =>
      intro acc C hl j q step hend
      rw [List.length_cons] at hl
      refine step d List.mem_cons_self C j _ fun y C' qy j' => ⟨by rw [List.length_map]; omega, ?_⟩
      have e : acc.map f ++ [f y] = (acc ++ [y]).map f := by rw [List.map_append]; rfl
      rw [e]
      refine ih (acc ++ [y]) C' (by rw [List.length_append, List.length_singleton]; omega) j' (fun z hz => ?_) (fun e h => step e (List.mem_cons_of_mem _ h)) (fun ys C'' e1 => hend ys C'' (by rw [e1, List.length_append, List.length_singleton, List.length_cons]; omega))
      rcases List.mem_append.mp hz with h | h
      · exact q z h
      · rw [List.mem_singleton.mp h]; exact qy
  have := key ds [] C (by rw [List.length_nil]; omega) h0 (fun _ h => absurd h (by simp)) step (fun ys C e => hend ys C (by rw [e, List.length_nil]; omega))
  exact this
theorem for_invL {α : Type} (g : α → D) {tg : Tg} {body : AEnds → Rho → CM → Prop} {A : AEnds} (I : List α → Rho → CM → Prop) {xs : List α} {ρ : Rho} {C : CM} (h0 : I [] ρ C)
    (step : ∀ done x rest ρ C, xs = done ++ x :: rest → I done ρ C → ∀ nx : Rho → CM → Prop, (∀ ρ' C', I (done ++ [x]) ρ' C' → nx ρ' C') → bindT tg (g x) ρ fun ρ1 => body { A with nx := nx, ct := nx, bk := A.nx } ρ1 C)
    (hend : ∀ ρ C, I xs ρ C → A.nx ρ C) : forGo tg body A (xs.map g) ρ C := by
  have key : ∀ (rest done : List α) (ρ : Rho) (C : CM), xs = done ++ rest → I done ρ C → forGo tg body A (rest.map g) ρ C := by
    intro rest
    induction rest with
    | nil => intro done ρ C e i; rw [List.append_nil] at e; subst e; exact hend ρ C i
    | cons d rest ih =>
      intro done ρ C e i
      exact step done d rest ρ C e i _ fun ρ' C' j => ih (done ++ [d]) ρ' C' (by rw [e, List.append_assoc]; rfl) j
  exact key xs [] ρ C rfl h0
theorem rangeD_map (n : Nat) : rangeD 0 1 n = (List.range n).map fun i => .int ((i : Nat) : Int) := by
  unfold rangeD
  refine List.map_congr_left fun i _ => ?_
  congr 1; omega
theorem zipD_map {α β : Type} (f : α → D) (g : β → D) : ∀ (xs : List α) (ys : List β), zipD (xs.map f) (ys.map g) = (xs.zip ys).map fun p => .tup [f p.1, g p.2]
  | [], _ => by cases ‹List β› <;> rfl
  | _ :: _, [] => rfl
  | x :: xs, y :: ys => by
    rw [List.map_cons, List.map_cons, List.zip_cons_cons, List.map_cons]
    show _ :: zipD (xs.map f) (ys.map g) = _
    rw [zipD_map f g xs ys]
theorem enumD_map {α : Type} (f : α → D) : ∀ (xs : List α) (k : Nat), enumD k (xs.map f) = (xs.zipIdx k).map fun p => .tup [.int (p.2 : Nat), f p.1]
  | [], _ => rfl
  | x :: xs, k => by
    rw [List.map_cons, List.zipIdx_cons, List.map_cons]
    show _ :: enumD (k + 1) (xs.map f) = _
    rw [enumD_map f xs (k + 1)]
/-! ### slices -/
def cutL {α : Type} (xs : List α) (lo hi : Option Int) : List α := (xs.drop (HT.sIx xs.length 0 lo)).take (HT.sIx xs.length xs.length hi - HT.sIx xs.length 0 lo)
theorem cutD_map {α : Type} (f : α → D) (xs : List α) (lo hi : Option Int) : cutD (xs.map f) lo hi = (cutL xs lo hi).map f := by
  unfold cutD cutL
  rw [List.length_map, ← List.map_drop, ← List.map_take]
theorem six_nat (n d k : Nat) : HT.sIx n d (some (k : Int)) = min k n := by
  show (if ((k : Nat) : Int) < 0 then (((k : Nat) : Int) + (n : Int)).toNat else min ((k : Nat) : Int).toNat n) = _
  rw [if_neg (by omega), Int.toNat_natCast]
theorem cut_first {α : Type} (xs : List α) : cutL xs none (some (-1)) = xs.dropLast := by
  unfold cutL
  show (xs.drop 0).take (((-1 : Int) + (xs.length : Int)).toNat - 0) = _
  rw [List.drop_zero, List.dropLast_eq_take]
  congr 1; omega
theorem cut_rest {α : Type} (xs : List α) : cutL xs (some 1) none = xs.drop 1 := by
  unfold cutL
  show (xs.drop (min 1 xs.length)).take (xs.length - min 1 xs.length) = _
  cases xs with
  | nil => rfl
  | cons x xs =>
    have e : min 1 (x :: xs).length = 1 := by rw [List.length_cons]; omega
    rw [e]
    rw [List.take_of_length_le (by rw [List.length_drop]; omega)]
theorem cut_to {α : Type} (xs : List α) (k : Nat) : cutL xs none (some (k : Int)) = xs.take k := by
  unfold cutL
  rw [six_nat]
  show (xs.drop 0).take (min k xs.length - 0) = _
  rw [List.drop_zero, Nat.sub_zero]
  rcases Nat.le_total k xs.length with h | h
  · rw [Nat.min_eq_left h]
  · rw [Nat.min_eq_right h, List.take_of_length_le (Nat.le_refl _), List.take_of_length_le h]
theorem cut_from {α : Type} (xs : List α) (k : Nat) : cutL xs (some (k : Int)) none = xs.drop k := by
  unfold cutL
  rw [six_nat]
  show (xs.drop (min k xs.length)).take (xs.length - min k xs.length) = _
  rcases Nat.le_total k xs.length with h | h
  · rw [Nat.min_eq_left h, List.take_of_length_le (by rw [List.length_drop]; omega)]
  · rw [Nat.min_eq_right h, List.drop_eq_nil_of_le (Nat.le_refl _), List.drop_eq_nil_of_le h, List.take_nil]
theorem atI_in {α : Type} {xs : List α} {i : Int} (h0 : 0 ≤ i) (h1 : i < xs.length) : ∃ x, x ∈ xs ∧ xs[i.toNat]? = some x ∧ atI xs i = some x := by
  have h : i.toNat < xs.length := by omega
  refine ⟨xs[i.toNat], List.getElem_mem h, List.getElem?_eq_getElem h, ?_⟩
  have := atI_nat (j := i.toNat) (List.getElem?_eq_getElem h)
  rwa [Int.toNat_of_nonneg h0] at this
theorem atI_map {α : Type} (f : α → D) (xs : List α) (i : Int) : atI (xs.map f) i = (atI xs i).map f := by
  unfold atI
  rw [List.length_map]
  cases ixN xs.length i with
  | none => rfl
  | some j => show (xs.map f)[j]? = (xs[j]?).map f; rw [List.getElem?_map]
theorem atI_end {α : Type} {xs : List α} (h : xs ≠ []) : ∃ x, x ∈ xs ∧ xs.getLast? = some x ∧ atI xs (-1) = some x := by
  refine ⟨xs.getLast h, List.getLast_mem h, List.getLast?_eq_getLast h, ?_⟩
  have := atI_last xs.dropLast (xs.getLast h)
  rwa [List.dropLast_concat_getLast] at this
section
variable {tb : List (String × Def)} {n : Nat} {a b : Addr} {m : Int} {C : CM} {P : D → CM → Prop} {ex : Exc → CM → Prop}
theorem use_draw (hd : Sp tb "_law_draw" 1 DrawR) (hn : 1 ≤ n) (hD : Deck a b C) (h0 : 0 < m) (h1 : m < 1073741824)
    (k : ∀ v C', 0 ≤ v → v < m → Deck a b C' → (∀ e, e ≠ a → e ≠ b → C' e = C e) → P (.int v) C') : Gm tb n "_law_draw" [.ref a, .int m] C P ex :=
  hd n hn _ _ _ _ ⟨a, b, m, rfl, hD, h0, h1, k⟩
end
end M61

set_option Elab.async false
set_option linter.all false
set_option autoImplicit false
set_option maxRecDepth 100000
/-! P4: step by step: what stands behind a statement stays folded. -/
namespace M61
open PySem PySem.Spec PyProof.Rows L2
/-- a block, folded -/
def blk (G : Ctx) (b : Ss) (A : AEnds) (ρ : Rho) (C : CM) : Prop := denSs G b A ρ C
theorem blk_of {G : Ctx} {b : Ss} {A : AEnds} {ρ : Rho} {C : CM} (h : denSs G b A ρ C) : blk G b A ρ C := h
/-- a turn of a comprehension, folded -/
def turn (G : Ctx) (own : List Nat) (elt : E) (tg : Tg) (c : Oc) (ρ1 : Rho) (d : D) (C2 : CM) (K : Option D → CM → Prop) : Prop := bindT tg d (wipeR ρ1 own) fun ρ2 => denC G c ρ2 C2 fun b ρ3 C3 => ρ3 = ρ2 ∧
        if b = true then denE G elt ρ3 C3 fun y ρ4 C4 => ρ4 = ρ2 ∧ K (some y) C4 else K none C3
theorem turn_of {G : Ctx} {own : List Nat} {elt : E} {tg : Tg} {c : Oc} {ρ1 : Rho} {d : D} {C2 : CM} {K : Option D → CM → Prop} (h : bindT tg d (wipeR ρ1 own) fun ρ2 => denC G c ρ2 C2 fun b ρ3 C3 => ρ3 = ρ2 ∧
        if b = true then denE G elt ρ3 C3 fun y ρ4 C4 => ρ4 = ρ2 ∧ K (some y) C4 else K none C3) : turn G own elt tg c ρ1 d C2 K := h
/-- a test, folded -/
def tst (G : Ctx) (t : T) (ρ : Rho) (C : CM) (K : Bool → Rho → CM → Prop) : Prop := denT G t ρ C K
theorem tst_of {G : Ctx} {t : T} {ρ : Rho} {C : CM} {K : Bool → Rho → CM → Prop} (h : denT G t ρ C K) : tst G t ρ C K := h
section
variable (G : Ctx) (A : AEnds) (ρ : Rho) (C : CM) (i j l : Nat) (e k o : E) (es : Es) (ll : L) (t : T) (a b : Ss) (tg : Tg) (it : I) (bo : Bop) (s : S) (ss : Ss) (P : List D → Rho → CM → Prop)
theorem ss_nil' : denSs G .nil A ρ C = A.nx ρ C := rfl
theorem ss_cons' : denSs G (.cons s ss) A ρ C = denS G s { A with nx := blk G ss A } ρ C := rfl
theorem s_set' : denS G (.set i e) A ρ C = denE G e ρ C fun d ρ1 C1 => A.nx (ρ1.set i (some (.dat d))) C1 := rfl
theorem s_own' : denS G (.own i ll) A ρ C = denL G ll ρ C fun ds ρ1 C1 => A.nx (ρ1.set i (some (.own ds))) C1 := rfl
theorem s_setF' : denS G (.setF i ll) A ρ C = denL G ll ρ C fun ds ρ1 C1 => A.nx (ρ1.set i (some (.dat (.lst ds)))) C1 := rfl
theorem s_unp' : denS G (.unp tg e) A ρ C = denE G e ρ C fun d ρ1 C1 => bindT tg d ρ1 fun ρ2 => A.nx ρ2 C1 := rfl
def par2K (A : AEnds) (i j : Nat) : List D → Rho → CM → Prop
  | [d, e], ρ1, C1 => A.nx ((ρ1.set i (some (.dat d))).set j (some (.dat e))) C1
  | _, _, _ => False
theorem par2K_e (d e : D) : par2K A i j [d, e] ρ C = A.nx ((ρ.set i (some (.dat d))).set j (some (.dat e))) C := rfl
theorem s_par2' : denS G (.par2 i j es) A ρ C = denEs G es ρ C (par2K A i j) := by
  first
  | rfl
  | (show denEs G es ρ C _ = denEs G es ρ C _; congr 1; funext ds ρ1 C1; rcases ds with _ | ⟨d, _ | ⟨e, _ | ⟨f, r⟩⟩⟩ <;> rfl)
def par3K (A : AEnds) (i j l : Nat) : List D → Rho → CM → Prop
  | [d, e, f], ρ1, C1 => A.nx (((ρ1.set i (some (.dat d))).set j (some (.dat e))).set l (some (.dat f))) C1
  | _, _, _ => False
theorem par3K_e (d e f : D) : par3K A i j l [d, e, f] ρ C = A.nx (((ρ.set i (some (.dat d))).set j (some (.dat e))).set l (some (.dat f))) C := rfl
theorem s_par3' : denS G (.par3 i j l es) A ρ C = denEs G es ρ C (par3K A i j l) := by
  first
  | rfl
  | (show denEs G es ρ C _ = denEs G es ρ C _; congr 1; funext ds ρ1 C1; rcases ds with _ | ⟨d, _ | ⟨e, _ | ⟨f, _ | ⟨g, r⟩⟩⟩⟩ <;> rfl)
theorem s_app' : denS G (.app i e) A ρ C = varO ρ i fun _ => denE G e ρ C fun d ρ1 C1 => varO ρ1 i fun xs => xs.length < sizeLine ∧ A.nx (ρ1.set i (some (.own (xs ++ [d])))) C1 := rfl
def extK (A : AEnds) (i : Nat) (xs : List D) (ρ1 : Rho) (C1 : CM) : D → Prop
  | .lst ys => xs.length + ys.length ≤ sizeLine ∧ A.nx (ρ1.set i (some (.own (xs ++ ys)))) C1
  | _ => False
theorem extK_e (xs ys : List D) : extK A i xs ρ C (.lst ys) = (xs.length + ys.length ≤ sizeLine ∧ A.nx (ρ.set i (some (.own (xs ++ ys)))) C) := rfl
theorem s_ext' : denS G (.ext i e) A ρ C = varO ρ i fun _ => denE G e ρ C fun d ρ1 C1 => varO ρ1 i fun xs => extK A i xs ρ1 C1 d := by
  first
  | rfl
  | (show varO ρ i _ = varO ρ i _; congr 1; funext _; congr 1; funext d ρ1 C1; congr 1; funext xs; cases d <;> rfl)
def csubK (A : AEnds) (d : D) (ρ3 : Rho) (C3 : CM) : D → D → Prop
  | .ref a, .int j => ∃ xs n, C3 a = some (.lst xs) ∧ ixN xs.length j = some n ∧ A.nx ρ3 (fun b => if b = a then some (.lst (xs.set n d)) else C3 b)
  | _, _ => False
theorem csubK_e (d : D) (a : Addr) (j : Int) : csubK A d ρ C (.ref a) (.int j) = ∃ xs n, C a = some (.lst xs) ∧ ixN xs.length j = some n ∧ A.nx ρ (fun b => if b = a then some (.lst (xs.set n d)) else C b) := rfl
theorem s_csub' : denS G (.csub o k e) A ρ C = denE G e ρ C fun d ρ1 C1 => denE G o ρ1 C1 fun x ρ2 C2 => denE G k ρ2 C2 fun y ρ3 C3 => csubK A d ρ3 C3 x y := by
  first
  | rfl
  | (show denE G e ρ C _ = denE G e ρ C _; congr 1; funext d ρ1 C1; congr 1; funext x ρ2 C2; congr 1; funext y ρ3 C3; cases x <;> cases y <;> rfl)
def cappK (A : AEnds) (G : Ctx) (e : E) (ρ1 : Rho) (C1 : CM) : D → Prop
  | .ref a => ∃ xs0, C1 a = some (.lst xs0) ∧ denE G e ρ1 C1 fun d ρ2 C2 => ∃ xs, C2 a = some (.lst xs) ∧ xs.length < sizeLine ∧ A.nx ρ2 (fun b => if b = a then some (.lst (xs ++ [d])) else C2 b)
  | _ => False
theorem cappK_e (a : Addr) : cappK A G e ρ C (.ref a) = ∃ xs0, C a = some (.lst xs0) ∧ denE G e ρ C fun d ρ2 C2 => ∃ xs, C2 a = some (.lst xs) ∧ xs.length < sizeLine ∧ A.nx ρ2 (fun b => if b = a then some (.lst (xs ++ [d])) else C2 b) := rfl
theorem s_capp' : denS G (.capp o e) A ρ C = denE G o ρ C fun x ρ1 C1 => cappK A G e ρ1 C1 x := by
  first
  | rfl
  | (show denE G o ρ C _ = denE G o ρ C _; congr 1; funext x ρ1 C1; cases x <;> rfl)
def augK (A : AEnds) (i : Nat) (ρ1 : Rho) (C1 : CM) : Bop → D → D → Prop
  | .add, .int a, .int b => A.nx (ρ1.set i (some (.dat (.int (a + b))))) C1
  | .sub, .int a, .int b => A.nx (ρ1.set i (some (.dat (.int (a - b))))) C1
  | _, _, _ => False
theorem augK_a (x y : Int) : augK A i ρ C .add (.int x) (.int y) = A.nx (ρ.set i (some (.dat (.int (x + y))))) C := rfl
theorem augK_s (x y : Int) : augK A i ρ C .sub (.int x) (.int y) = A.nx (ρ.set i (some (.dat (.int (x - y))))) C := rfl
theorem s_aug' : denS G (.aug i bo e) A ρ C = varD ρ i fun x => denE G e ρ C fun y ρ1 C1 => augK A i ρ1 C1 bo x y := by
  first
  | rfl
  | (show varD ρ i _ = varD ρ i _; congr 1; funext x; congr 1; funext y ρ1 C1; cases bo <;> cases x <;> cases y <;> rfl)
def osetK (A : AEnds) (i : Nat) (d : D) (xs : List D) (ρ2 : Rho) (C2 : CM) : D → Prop
  | .int j => ∃ n, ixN xs.length j = some n ∧ A.nx (ρ2.set i (some (.own (xs.set n d)))) C2
  | _ => False
theorem osetK_e (d : D) (xs : List D) (j : Int) : osetK A i d xs ρ C (.int j) = ∃ n, ixN xs.length j = some n ∧ A.nx (ρ.set i (some (.own (xs.set n d)))) C := rfl
theorem s_oset' : denS G (.oset i k e) A ρ C = denE G e ρ C fun d ρ1 C1 => varO ρ1 i fun _ => denE G k ρ1 C1 fun x ρ2 C2 => varO ρ2 i fun xs => osetK A i d xs ρ2 C2 x := by
  first
  | rfl
  | (show denE G e ρ C _ = denE G e ρ C _; congr 1; funext d ρ1 C1; congr 1; funext _; congr 1; funext x ρ2 C2; congr 1; funext xs; cases x <;> rfl)
def dsetK (A : AEnds) (k : String) (d : D) (ρ2 : Rho) (C2 : CM) : D → Prop
  | .ref p => ∃ kvs, C2 p = some (.dct kvs) ∧ kvs.length < sizeLine ∧ A.nx ρ2 (fun b => if b = p then some (.dct (dctPut kvs (Sum.inr (Str.ofString k)) d)) else C2 b)
  | _ => False
theorem dsetK_e (kk : String) (d : D) (p : Addr) : dsetK A kk d ρ C (.ref p) = ∃ kvs, C p = some (.dct kvs) ∧ kvs.length < sizeLine ∧ A.nx ρ (fun b => if b = p then some (.dct (dctPut kvs (Sum.inr (Str.ofString kk)) d)) else C b) := rfl
theorem s_dset' (kk : String) : denS G (.dset o kk e) A ρ C = denE G e ρ C fun d ρ1 C1 => denE G o ρ1 C1 fun x ρ2 C2 => dsetK A kk d ρ2 C2 x := by
  first
  | rfl
  | (show denE G e ρ C _ = denE G e ρ C _; congr 1; funext d ρ1 C1; congr 1; funext x ρ2 C2; cases x <;> rfl)
theorem s_exp' : denS G (.exp e) A ρ C = denE G e ρ C fun _ ρ1 C1 => A.nx ρ1 C1 := rfl
theorem s_ife' : denS G (.ife t a b) A ρ C = denT G t ρ C fun k ρ1 C1 => if k = true then blk G a A ρ1 C1 else blk G b A ρ1 C1 := rfl
theorem s_for' : denS G (.for tg it b) A ρ C = denI G it ρ C fun ds ρ1 C1 => forGo tg (blk G b) A ds ρ1 C1 := rfl
def forcK (G : Ctx) (tg : Tg) (b : Ss) (A : AEnds) (ρ1 : Rho) (C1 : CM) : D → Prop
  | .ref a => ∃ ns : List Int, forGoC a ns tg (blk G b) A ns ρ1 C1
  | _ => False
theorem forcK_e (G : Ctx) (tg : Tg) (b : Ss) (a : Addr) : forcK G tg b A ρ C (.ref a) = ∃ ns : List Int, forGoC a ns tg (blk G b) A ns ρ C := rfl
theorem s_forc' : denS G (.forc tg e b) A ρ C = denE G e ρ C fun x ρ1 C1 => forcK G tg b A ρ1 C1 x := by
  first
  | rfl
  | (show denE G e ρ C _ = denE G e ρ C _; congr 1; funext d ρ1 C1; cases d <;> rfl)
theorem s_whl' : denS G (.whl t b) A ρ C = ∃ n, whlGo (tst G t) (blk G b) A n ρ C := rfl
theorem s_ret' : denS G (.ret e) A ρ C = denE G e ρ C fun d _ C1 => A.rt d C1 := rfl
theorem s_ret0' : denS G .ret0 A ρ C = A.rt .non C := rfl
theorem s_pass' : denS G .pass A ρ C = A.nx ρ C := rfl
theorem s_brk' : denS G .brk A ρ C = A.bk ρ C := rfl
theorem s_cnt' : denS G .cnt A ρ C = A.ct ρ C := rfl
theorem l_comp' (own : List Nat) (el : E) (c : Oc) : denL G (.comp own el tg it c) ρ C P = denI G it ρ C fun ds ρ1 C1 => compGo (turn G own el tg c ρ1) ds [] C1 fun acc C4 => P acc ρ1 C4 := rfl
def compcK (G : Ctx) (own : List Nat) (el : E) (tg : Tg) (c : Oc) (P : List D → Rho → CM → Prop) (ρ1 : Rho) (C1 : CM) : D → Prop
  | .ref a => ∃ ns : List Int, compGoC a ns (turn G own el tg c ρ1) ns [] C1 fun acc C4 => P acc ρ1 C4
  | _ => False
theorem compcK_e (own : List Nat) (el : E) (c : Oc) (a : Addr) : compcK G own el tg c P ρ C (.ref a) = ∃ ns : List Int, compGoC a ns (turn G own el tg c ρ) ns [] C fun acc C4 => P acc ρ C4 := rfl
theorem l_compc' (own : List Nat) (el : E) (c : Oc) : denL G (.compc own el tg e c) ρ C P = denE G e ρ C fun x ρ1 C1 => compcK G own el tg c P ρ1 C1 x := by
  first
  | rfl
  | (show denE G e ρ C _ = denE G e ρ C _; congr 1; funext d ρ1 C1; cases d <;> rfl)
theorem l_lit' : denL G (.lit es) ρ C P = denEs G es ρ C fun ds ρ1 C1 => ds.length ≤ sizeLine ∧ P ds ρ1 C1 := rfl
theorem l_cat' (x y : E) : denL G (.cat x y) ρ C P = denE G x ρ C fun x ρ1 C1 => denE G y ρ1 C1 fun y ρ2 C2 => ∃ xs ys, lstD C2 x = some xs ∧ lstD C2 y = some ys ∧ xs.length + ys.length ≤ sizeLine ∧ P (xs ++ ys) ρ2 C2 := rfl
theorem l_rvd' : denL G (.rvd e) ρ C P = denE G e ρ C fun x ρ1 C1 => ∃ xs, lstD C1 x = some xs ∧ P xs.reverse ρ1 C1 := rfl
theorem l_lrv' : denL G (.lrv e) ρ C P = denE G e ρ C fun x ρ1 C1 => ∃ xs, lstD C1 x = some xs ∧ P xs.reverse ρ1 C1 := rfl
theorem l_ls2' : denL G (.ls2 e) ρ C P = denE G e ρ C fun x ρ1 C1 => ∃ xs, lstD C1 x = some xs ∧ P (xs.take (xs.length - 1)).reverse ρ1 C1 := rfl
theorem l_list' : denL G (.list e) ρ C P = denE G e ρ C fun x ρ1 C1 => ∃ xs, sqD x = some xs ∧ P xs ρ1 C1 := by
  show denE G e ρ C _ = denE G e ρ C _
  congr 1; funext x ρ1 C1
  cases x with
  | tup xs => exact propext ⟨fun h => ⟨_, rfl, h⟩, fun ⟨_, h, q⟩ => by cases h; exact q⟩
  | lst xs => exact propext ⟨fun h => ⟨_, rfl, h⟩, fun ⟨_, h, q⟩ => by cases h; exact q⟩
  | _ => exact propext ⟨fun h => h.elim, fun ⟨_, h, q⟩ => by cases h⟩
def srtK (P : List D → Rho → CM → Prop) (ρ1 : Rho) (C1 : CM) : D → Prop
  | .lst xs => ∃ ns, intsOf xs = some ns ∧ P ((sortI ns).map D.int) ρ1 C1
  | _ => False
theorem srtK_e (xs : List D) : srtK P ρ C (.lst xs) = ∃ ns, intsOf xs = some ns ∧ P ((sortI ns).map D.int) ρ C := rfl
theorem l_srt' : denL G (.srt e) ρ C P = denE G e ρ C fun x ρ1 C1 => srtK P ρ1 C1 x := by
  first
  | rfl
  | (show denE G e ρ C _ = denE G e ρ C _; congr 1; funext x ρ1 C1; cases x <;> rfl)
def srrK (P : List D → Rho → CM → Prop) (ρ1 : Rho) (C1 : CM) : D → Prop
  | .lst xs => ∃ ns, intsOf xs = some ns ∧ P ((sortI ns).reverse.map D.int) ρ1 C1
  | _ => False
theorem srrK_e (xs : List D) : srrK P ρ C (.lst xs) = ∃ ns, intsOf xs = some ns ∧ P ((sortI ns).reverse.map D.int) ρ C := rfl
theorem l_srr' : denL G (.srr e) ρ C P = denE G e ρ C fun x ρ1 C1 => srrK P ρ1 C1 x := by
  first
  | rfl
  | (show denE G e ρ C _ = denE G e ρ C _; congr 1; funext x ρ1 C1; cases x <;> rfl)
def lrgK (P : List D → Rho → CM → Prop) (ρ1 : Rho) (C1 : CM) : D → D → Prop
  | .int i, .int j => RgOk i j ∧ P (rangeD i 1 (j - i).toNat) ρ1 C1
  | _, _ => False
theorem lrgK_e (i j : Int) : lrgK P ρ C (.int i) (.int j) = (RgOk i j ∧ P (rangeD i 1 (j - i).toNat) ρ C) := rfl
theorem l_lrg1' : denL G (.lrg1 e) ρ C P = denE G e ρ C fun x ρ1 C1 => lrgK P ρ1 C1 (.int 0) x := by
  first
  | rfl
  | (show denE G e ρ C _ = denE G e ρ C _; congr 1; funext x ρ1 C1; cases x <;> rfl)
theorem l_lrg2' (x y : E) : denL G (.lrg2 x y) ρ C P = denE G x ρ C fun x ρ1 C1 => denE G y ρ1 C1 fun y ρ2 C2 => lrgK P ρ2 C2 x y := by
  first
  | rfl
  | (show denE G x ρ C _ = denE G x ρ C _; congr 1; funext x ρ1 C1; congr 1; funext y ρ2 C2; cases x <;> cases y <;> rfl)
def repK (P : List D → Rho → CM → Prop) (ρ1 : Rho) (C1 : CM) : D → D → Prop
  | .lst xs, .int k => -(2 ^ 63) ≤ k ∧ k < 2 ^ 63 ∧ xs.length * k.toNat ≤ sizeLine ∧ P (List.replicate k.toNat xs).flatten ρ1 C1
  | _, _ => False
theorem repK_e (xs : List D) (k : Int) : repK P ρ C (.lst xs) (.int k) = (-(2 ^ 63) ≤ k ∧ k < 2 ^ 63 ∧ xs.length * k.toNat ≤ sizeLine ∧ P (List.replicate k.toNat xs).flatten ρ C) := rfl
theorem l_rep' (x y : E) : denL G (.rep x y) ρ C P = denE G x ρ C fun x ρ1 C1 => denE G y ρ1 C1 fun y ρ2 C2 => repK P ρ2 C2 x y := by
  first
  | rfl
  | (show denE G x ρ C _ = denE G x ρ C _; congr 1; funext x ρ1 C1; congr 1; funext y ρ2 C2; cases x <;> cases y <;> rfl)
end
/-- slots set -/
def setM (ρ : Rho) : List Nat → List (Option Dv) → Rho
  | m :: ms, x :: xs => setM (ρ.set m x) ms xs
  | _, _ => ρ
theorem setM_nil (ρ : Rho) (xs : List (Option Dv)) : setM ρ [] xs = ρ := by cases xs <;> rfl
theorem setM_cons (ρ : Rho) (m : Nat) (ms : List Nat) (x : Option Dv) (xs : List (Option Dv)) : setM ρ (m :: ms) (x :: xs) = setM (ρ.set m x) ms xs := rfl
/-- a loop by what holds behind so many turns; slots ms alone are changed -/
theorem for_m {α : Type} (g : α → D) (ms : List Nat) (I : List α → List (Option Dv) → CM → Prop) {tg : Tg} {body : AEnds → Rho → CM → Prop} {A : AEnds} {xs : List α} {ρ : Rho} {C : CM} (ys0 : List (Option Dv)) (e0 : setM ρ ms ys0 = ρ) (h0 : I [] ys0 C)
    (step : ∀ done x rest ys C, xs = done ++ x :: rest → I done ys C → ∀ nx : Rho → CM → Prop, (∀ ys' C', I (done ++ [x]) ys' C' → nx (setM ρ ms ys') C') → bindT tg (g x) (setM ρ ms ys) fun ρ1 => body { A with nx := nx, ct := nx, bk := A.nx } ρ1 C)
    (hend : ∀ ys C, I xs ys C → A.nx (setM ρ ms ys) C) : forGo tg body A (xs.map g) ρ C := by
  refine for_invL g (I := fun done ρ' C' => ∃ ys, ρ' = setM ρ ms ys ∧ I done ys C') ⟨ys0, e0.symm, h0⟩ (fun done x rest ρ' C' e ⟨ys, hy, hi⟩ nx k => ?_) fun ρ' C' ⟨ys, hy, hi⟩ => ?_
  · subst hy
    exact step done x rest ys C' e hi nx fun ys' C'' h => k _ _ ⟨ys', rfl, h⟩
  · subst hy; exact hend ys C' hi
/-- over a cell's numbers -/
theorem for_cell {ns : List Int} {a : Addr} (ms : List Nat) (I : List (Option Dv) → CM → Prop) {tg : Tg} {body : AEnds → Rho → CM → Prop} {A : AEnds} {ρ : Rho} {C : CM} (ys0 : List (Option Dv)) (e0 : setM ρ ms ys0 = ρ) (h0 : I ys0 C) (hc : ∀ ys C, I ys C → C a = some (.lst (ns.map .int)))
    (step : ∀ x ∈ ns, ∀ ys C, I ys C → ∀ nx : Rho → CM → Prop, (∀ ys' C', I ys' C' → nx (setM ρ ms ys') C') → bindT tg (.int x) (setM ρ ms ys) fun ρ1 => body { A with nx := nx, ct := nx, bk := A.nx } ρ1 C)
    (hend : ∀ ys C, I ys C → A.nx (setM ρ ms ys) C) : forGoC a ns tg body A ns ρ C := by
  have key : ∀ (l : List Int) (ys : List (Option Dv)) (C : CM), (∀ x ∈ l, x ∈ ns) → I ys C → forGoC a ns tg body A l (setM ρ ms ys) C := by
    intro l
    induction l with
    | nil => intro ys C _ hI; exact ⟨hc ys C hI, hend ys C hI⟩
    | cons x l ih =>
      intro ys C hm hI
      exact ⟨hc ys C hI, step x (hm x List.mem_cons_self) ys C hI _ fun ys' C' hI' => ih ys' C' (fun z hz => hm z (List.mem_cons_of_mem _ hz)) hI'⟩
  rw [← e0]
  exact key ns ys0 C (fun _ h => h) h0
/-- .. that ends with False at the first that isn't so -/
theorem for_all {α : Type} (g : α → D) (p : α → Bool) (ms : List Nat) {tg : Tg} {body : AEnds → Rho → CM → Prop} {A : AEnds} {xs : List α} {ρ : Rho} {C : CM} (m : Nat) (ys0 : List (Option Dv)) (e0 : setM ρ ms ys0 = ρ) (l0 : ys0.length = m)
    (step : ∀ x ∈ xs, ∀ ys, ys.length = m → ∀ nx : Rho → CM → Prop, (p x = true → ∀ ys', ys'.length = m → nx (setM ρ ms ys') C) → (p x = false → A.rt (.bl false) C) → bindT tg (g x) (setM ρ ms ys) fun ρ1 => body { A with nx := nx, ct := nx, bk := A.nx } ρ1 C)
    (hend : xs.all p = true → ∀ ys, ys.length = m → A.nx (setM ρ ms ys) C) (hf : xs.all p = false → A.rt (.bl false) C) : forGo tg body A (xs.map g) ρ C := by
  have key : ∀ (l : List α) (ρ' : Rho) (ys : List (Option Dv)), ρ' = setM ρ ms ys → ys.length = m → (∀ x ∈ l, x ∈ xs) → (l.all p = true → ∀ ys, ys.length = m → A.nx (setM ρ ms ys) C) → (l.all p = false → A.rt (.bl false) C) → forGo tg body A (l.map g) ρ' C := by
    intro l
    induction l with
    | nil => intro ρ' ys e hl _ h1 _; subst e; exact h1 rfl ys hl
    | cons x l ih =>
      intro ρ' ys e hl hin h1 h2
      subst e
      refine step x (hin x List.mem_cons_self) ys hl _ (fun hp ys' hl' => ih _ ys' rfl hl' (fun y hy => hin y (List.mem_cons_of_mem _ hy)) (fun q => h1 ?_) (fun q => h2 ?_)) fun hp => h2 ?_
      · rw [List.all_cons, hp, q]; rfl
      · rw [List.all_cons, hp, q]; rfl
      · rw [List.all_cons, hp]; rfl
  exact key xs ρ ys0 e0.symm l0 (fun _ h => h) hend hf
/-- a comprehension by what holds behind so many turns -/
theorem comp_invL {α β : Type} (g : α → D) (f : β → D) (I : List α → List β → CM → Prop) {tn : D → CM → (Option D → CM → Prop) → Prop} {xs : List α} {C : CM} {P : List D → CM → Prop} (hl : xs.length ≤ sizeLine) (hlen : ∀ done acc C, I done acc C → acc.length ≤ done.length) (h0 : I [] [] C)
    (step : ∀ done x rest acc C, xs = done ++ x :: rest → I done acc C → ∀ K : Option D → CM → Prop, (∀ y C', I (done ++ [x]) (acc ++ [y]) C' → K (some (f y)) C') → (∀ C', I (done ++ [x]) acc C' → K none C') → tn (g x) C K)
    (hend : ∀ acc C, I xs acc C → P (acc.map f) C) : compGo tn (xs.map g) [] C P := by
  have key : ∀ (rest done : List α) (acc : List β) (C : CM), xs = done ++ rest → I done acc C → compGo tn (rest.map g) (acc.map f) C P := by
    intro rest
    induction rest with
    | nil => intro done acc C e i; rw [List.append_nil] at e; subst e; exact hend acc C i
    | cons d rest ih =>
      intro done acc C e i
      have h1 := hlen done acc C i
      have h2 : xs.length = done.length + (rest.length + 1) := by rw [e, List.length_append, List.length_cons]
      refine step done d rest acc C e i _ (fun y C' j => ⟨by rw [List.length_map]; omega, ?_⟩) (fun C' j => ih (done ++ [d]) acc C' (by rw [e, List.append_assoc]; rfl) j)
      have := ih (done ++ [d]) (acc ++ [y]) C' (by rw [e, List.append_assoc]; rfl) j
      rw [List.map_append] at this
      exact this
  exact key xs [] [] C rfl h0
/-- a list made of a cell's numbers, one by one -/
theorem compC_map {a : Addr} {ns : List Int} {C : CM} (f : Int → D) {tn : D → CM → (Option D → CM → Prop) → Prop} {P : List D → CM → Prop} (hc : C a = some (.lst (ns.map .int))) (hl : ns.length ≤ sizeLine)
    (step : ∀ x ∈ ns, ∀ K : Option D → CM → Prop, K (some (f x)) C → tn (.int x) C K) (hend : P (ns.map f) C) : compGoC a ns tn ns [] C P := by
  have key : ∀ (l done : List Int), ns = done ++ l → compGoC a ns tn l (done.map f) C P := by
    intro l
    induction l with
    | nil => intro done e; rw [List.append_nil] at e; exact ⟨hc, by rw [← e]; exact hend⟩
    | cons x l ih =>
      intro done e
      refine ⟨hc, step x (by rw [e]; simp) _ ⟨?_, ?_⟩⟩
      · have h2 : ns.length = done.length + (l.length + 1) := by rw [e, List.length_append, List.length_cons]
        rw [List.length_map]; omega
      · have := ih (done ++ [x]) (by rw [e, List.append_assoc]; rfl)
        rw [List.map_append] at this
        exact this
  exact key ns [] rfl
/-- two ways that go on alike -/
theorem ite_join {c : Prop} {dc : Decidable c} {X : Prop} {α : Type} (Gd : α → CM → Prop) (Q : α → CM → Prop) {s : α} {C : CM} (h0 : Gd s C) (hX : (∀ s' C', Gd s' C' → Q s' C') → X) (h : ∀ s' C', Gd s' C' → Q s' C') : if c then X else Q s C := by
  split
  · exact hX h
  · exact h s C h0
/-- what stands behind a statement, folded -/
theorem cut_tail' {G : Ctx} {s : S} {ss : Ss} {A : AEnds} {ρ : Rho} {C : CM} (tl : ∀ N : Rho → CM → Prop, (∀ ρ' C', blk G ss A ρ' C' → N ρ' C') → denS G s { A with nx := N } ρ C) : blk G (.cons s ss) A ρ C := tl (blk G ss A) fun _ _ h => h
end M61

set_option Elab.async false
set_option linter.all false
set_option autoImplicit false
set_option maxRecDepth 100000
/-! P54: ways in a web, the least of them. -/
namespace M61.Wb
structure Gr where
  R : Nat → Nat → Option Int
  U : Nat → Nat → Option Int
inductive Wy (g : Gr) : Nat → Nat → Nat → Nat → Int → List Nat → Prop
  | nil (r k : Nat) : Wy g r k r k 0 []
  | right {r k r' k' : Nat} {l x : Int} {s : List Nat} : g.R r k = some x → Wy g r (k + 1) r' k' l s → Wy g r k r' k' (x + l) (114 :: s)
  | up {r k r' k' : Nat} {l x : Int} {s : List Nat} : g.U r k = some x → Wy g r k r' k' l s → Wy g (r + 1) k r' k' (x + l) (117 :: s)
section
variable {g : Gr} {r k r' k' : Nat} {l x : Int} {s : List Nat}
theorem Wy.mono (h : Wy g r k r' k' l s) : r' ≤ r ∧ k ≤ k' ∧ s.length = (r - r') + (k' - k) := by
  induction h with
  | nil r k => exact ⟨Nat.le_refl _, Nat.le_refl _, by simp⟩
  | right _ _ ih => obtain ⟨a, b, c⟩ := ih; exact ⟨a, by omega, by rw [List.length_cons]; omega⟩
  | up _ _ ih => obtain ⟨a, b, c⟩ := ih; exact ⟨by omega, b, by rw [List.length_cons]; omega⟩
theorem Wy.self (h : Wy g r k r k l s) : l = 0 ∧ s = [] := by
  obtain ⟨_, _, c⟩ := h.mono
  have hs : s = [] := List.eq_nil_of_length_eq_zero (by omega)
  subst hs
  cases h
  exact ⟨rfl, rfl⟩
theorem Wy.snocR (h : Wy g r k r' k' l s) (hx : g.R r' k' = some x) : Wy g r k r' (k' + 1) (l + x) (s ++ [114]) := by
  induction h with
  | nil r k =>
    have := Wy.right hx (Wy.nil (g := g) r (k + 1))
    rw [Int.add_comm] at this
    exact this
  | right e _ ih => have := Wy.right e (ih hx); rw [← Int.add_assoc] at this; exact this
  | up e _ ih => have := Wy.up e (ih hx); rw [← Int.add_assoc] at this; exact this
theorem Wy.snocU {r0 : Nat} (h : Wy g r k r0 k' l s) : ∀ r', r0 = r' + 1 → g.U r' k' = some x → Wy g r k r' k' (l + x) (s ++ [117]) := by
  induction h with
  | nil r k =>
    intro r' e hx
    subst e
    have := Wy.up hx (Wy.nil (g := g) r' k)
    rw [Int.add_comm] at this
    exact this
  | right e _ ih => intro r' e2 hx; have := Wy.right e (ih r' e2 hx); rw [← Int.add_assoc] at this; exact this
  | up e _ ih => intro r' e2 hx; have := Wy.up e (ih r' e2 hx); rw [← Int.add_assoc] at this; exact this
theorem Wy.last (h : Wy g r k r' k' l s) : (r = r' ∧ k = k' ∧ l = 0 ∧ s = []) ∨ (∃ k0 l0 s0 x, k' = k0 + 1 ∧ g.R r' k0 = some x ∧ Wy g r k r' k0 l0 s0 ∧ l = l0 + x ∧ s = s0 ++ [114]) ∨ (∃ l0 s0 x, g.U r' k' = some x ∧ Wy g r k (r' + 1) k' l0 s0 ∧ l = l0 + x ∧ s = s0 ++ [117]) := by
  induction h with
  | nil => exact .inl ⟨rfl, rfl, rfl, rfl⟩
  | right e w ih =>
    rcases ih with ⟨a, b, c, d⟩ | ⟨k0, l0, s0, y, a, b, c, d, f⟩ | ⟨l0, s0, y, a, b, c, d⟩
    · subst a b c d
      exact .inr (.inl ⟨_, 0, [], _, rfl, e, .nil _ _, by omega, rfl⟩)
    · exact .inr (.inl ⟨k0, _, _, y, a, b, .right e c, by omega, by rw [f]; rfl⟩)
    · exact .inr (.inr ⟨_, _, y, a, .right e b, by omega, by rw [d]; rfl⟩)
  | up e w ih =>
    rcases ih with ⟨a, b, c, d⟩ | ⟨k0, l0, s0, y, a, b, c, d, f⟩ | ⟨l0, s0, y, a, b, c, d⟩
    · subst a b c d
      exact .inr (.inr ⟨0, [], _, e, .nil _ _, by omega, rfl⟩)
    · exact .inr (.inl ⟨k0, _, _, y, a, b, .up e c, by omega, by rw [f]; rfl⟩)
    · exact .inr (.inr ⟨_, _, y, a, .up e b, by omega, by rw [d]; rfl⟩)
end
/-! ### the least of some numbers -/
def Lst (S : Int → Prop) : Option Int → Prop
  | none => ∀ l, ¬ S l
  | some m => S m ∧ ∀ l, S l → m ≤ l
def by' : Option Int → Option Int → Option Int
  | some x, some y => some (x + y)
  | _, _ => none
def les : Option Int → Option Int → Option Int
  | none, o => o
  | some a, none => some a
  | some a, some b => some (if b < a then b else a)
theorem Lst.congr {S T : Int → Prop} {o : Option Int} (h : Lst S o) (e : ∀ l, S l ↔ T l) : Lst T o := by
  cases o with
  | none => exact fun l q => h l ((e l).mpr q)
  | some m => exact ⟨(e m).mp h.1, fun l q => h.2 l ((e l).mpr q)⟩
theorem Lst.uniq {S : Int → Prop} {o p : Option Int} (h : Lst S o) (h' : Lst S p) : o = p := by
  cases o with
  | none =>
    cases p with
    | none => rfl
    | some n => exact absurd h'.1 (h n)
  | some m =>
    cases p with
    | none => exact absurd h.1 (h' m)
    | some n => rw [show m = n from by have := h.2 n h'.1; have := h'.2 m h.1; omega]
theorem Lst.by {S : Int → Prop} {o : Option Int} (h : Lst S o) (a : Option Int) : Lst (fun l => ∃ x l0, a = some x ∧ S l0 ∧ l = x + l0) (by' a o) := by
  cases a with
  | none => exact fun l ⟨x, l0, e, _⟩ => nomatch e
  | some y =>
    cases o with
    | none => exact fun l ⟨x, l0, e, q, _⟩ => h l0 q
    | some m => exact ⟨⟨y, m, rfl, h.1, rfl⟩, fun l ⟨x, l0, e, q, z⟩ => by cases e; have := h.2 l0 q; omega⟩
theorem Lst.les {S T : Int → Prop} {o p : Option Int} (h : Lst S o) (h' : Lst T p) : Lst (fun l => S l ∨ T l) (les o p) := by
  cases o with
  | none => exact h'.congr fun l => ⟨.inr, fun q => q.elim (fun z => absurd z (h l)) id⟩
  | some a =>
    cases p with
    | none => exact h.congr (o := some a) fun l => ⟨.inl, fun q => q.elim id (fun z => absurd z (h' l))⟩
    | some b =>
      show _ ∧ _
      by_cases c : b < a
      · rw [if_pos c]
        exact ⟨.inr h'.1, fun l q => q.elim (fun z => by have := h.2 l z; omega) (h'.2 l)⟩
      · rw [if_neg c]
        exact ⟨.inl h.1, fun l q => q.elim (h.2 l) (fun z => by have := h'.2 l z; omega)⟩
/-! ### texts' order -/
theorem lt_irr : ∀ s : List Nat, ¬ s < s
  | [] => by simp
  | a :: s => by rw [List.cons_lt_cons_iff]; exact fun h => h.elim (Nat.lt_irrefl a) (fun q => lt_irr s q.2)
theorem lt_tri : ∀ s t : List Nat, s < t ∨ s = t ∨ t < s
  | [], [] => .inr (.inl rfl)
  | [], _ :: _ => .inl (by simp)
  | _ :: _, [] => .inr (.inr (by simp))
  | a :: s, b :: t => by
    rw [List.cons_lt_cons_iff, List.cons_lt_cons_iff]
    rcases Nat.lt_trichotomy a b with h | rfl | h
    · exact .inl (.inl h)
    · rcases lt_tri s t with q | rfl | q
      · exact .inl (.inr ⟨rfl, q⟩)
      · exact .inr (.inl rfl)
      · exact .inr (.inr (.inr ⟨rfl, q⟩))
    · exact .inr (.inr (.inl h))
theorem lt_tr : ∀ {s t u : List Nat}, s < t → t < u → s < u
  | [], _, [], _, h => by simp at h
  | [], _, _ :: _, _, _ => by simp
  | a :: s, [], _, h, _ => by simp at h
  | a :: s, b :: t, [], _, h => by simp at h
  | a :: s, b :: t, c :: u, h, q => by
    rw [List.cons_lt_cons_iff] at h q ⊢
    rcases h with h | ⟨rfl, h⟩
    · rcases q with q | ⟨rfl, q⟩
      · exact .inl (by omega)
      · exact .inl h
    · rcases q with q | ⟨rfl, q⟩
      · exact .inl q
      · exact .inr ⟨rfl, lt_tr h q⟩
theorem nlt_tr {s t u : List Nat} (h : ¬ t < s) (q : ¬ u < t) : ¬ u < s := fun z => by
  rcases lt_tri u t with a | rfl | a
  · exact q a
  · exact h z
  · exact h (lt_tr a z)
theorem nlt_eq {s t : List Nat} (h : ¬ t < s) (q : ¬ s < t) : s = t := by
  rcases lt_tri s t with a | a | a
  · exact absurd a q
  · exact a
  · exact absurd a h
theorem lt_app : ∀ {s t : List Nat} (c : List Nat), s.length = t.length → s ++ c < t ++ c → s < t
  | [], [], c, _, h => absurd h (lt_irr _)
  | [], _ :: _, _, h, _ => by simp at h
  | _ :: _, [], _, h, _ => by simp at h
  | a :: s, b :: t, c, e, h => by
    rw [List.cons_append, List.cons_append, List.cons_lt_cons_iff] at h
    rw [List.cons_lt_cons_iff]
    rcases h with h | ⟨rfl, h⟩
    · exact .inl h
    · exact .inr ⟨rfl, lt_app c (by simpa using e) h⟩
/-! ### the first of the least -/
abbrev Wt := Option (Int × List Nat)
def Lsp (S : Int → List Nat → Prop) : Wt → Prop
  | none => ∀ l s, ¬ S l s
  | some p => S p.1 p.2 ∧ ∀ l s, S l s → p.1 < l ∨ p.1 = l ∧ ¬ s < p.2
def ltW (p q : Int × List Nat) : Bool := decide (p.1 < q.1 ∨ p.1 = q.1 ∧ p.2 < q.2)
def fur : Wt → Option Int → List Nat → Wt
  | some p, some x, c => some (p.1 + x, p.2 ++ c)
  | _, _, _ => none
def lsp : Wt → Wt → Wt
  | none, o => o
  | some a, none => some a
  | some a, some b => some (if ltW b a = true then b else a)
theorem Lsp.congr {S T : Int → List Nat → Prop} {o : Wt} (h : Lsp S o) (e : ∀ l s, S l s ↔ T l s) : Lsp T o := by
  cases o with
  | none => exact fun l s q => h l s ((e l s).mpr q)
  | some m => exact ⟨(e _ _).mp h.1, fun l s q => h.2 l s ((e l s).mpr q)⟩
theorem Lsp.fur {S : Int → List Nat → Prop} {o : Wt} (h : Lsp S o) (a : Option Int) (c : List Nat) {n : Nat} (hn : ∀ l s, S l s → s.length = n) : Lsp (fun l s => ∃ x l0 s0, a = some x ∧ S l0 s0 ∧ l = l0 + x ∧ s = s0 ++ c) (fur o a c) := by
  cases o with
  | none => exact fun l s ⟨x, l0, s0, e, q, _⟩ => h l0 s0 q
  | some p =>
    cases a with
    | none => exact fun l s ⟨x, l0, s0, e, _⟩ => nomatch e
    | some y =>
      refine ⟨⟨y, p.1, p.2, rfl, h.1, rfl, rfl⟩, fun l s ⟨x, l0, s0, e, q, e1, e2⟩ => ?_⟩
      cases e
      subst e1 e2
      show p.1 + y < l0 + y ∨ p.1 + y = l0 + y ∧ ¬ s0 ++ c < p.2 ++ c
      rcases h.2 l0 s0 q with z | ⟨z, z2⟩
      · exact .inl (by omega)
      · exact .inr ⟨by omega, fun w => z2 (lt_app c ((hn _ _ q).trans (hn _ _ h.1).symm) w)⟩
theorem Lsp.lsp {S T : Int → List Nat → Prop} {o p : Wt} (h : Lsp S o) (h' : Lsp T p) : Lsp (fun l s => S l s ∨ T l s) (lsp o p) := by
  cases o with
  | none => exact h'.congr fun l s => ⟨.inr, fun q => q.elim (fun z => absurd z (h l s)) id⟩
  | some a =>
    cases p with
    | none => exact h.congr (o := some a) fun l s => ⟨.inl, fun q => q.elim id (fun z => absurd z (h' l s))⟩
    | some b =>
      show _ ∧ _
      by_cases c : b.1 < a.1 ∨ b.1 = a.1 ∧ b.2 < a.2
      · rw [show ltW b a = true from decide_eq_true c, if_pos rfl]
        refine ⟨.inr h'.1, fun l s q => q.elim (fun z => ?_) (h'.2 l s)⟩
        rcases h.2 l s z with w | ⟨w1, w2⟩
        · rcases c with c | ⟨c1, c2⟩
          · exact .inl (by omega)
          · exact .inl (by omega)
        · rcases c with c | ⟨c1, c2⟩
          · exact .inl (by omega)
          · exact .inr ⟨by omega, fun q => w2 (lt_tr q c2)⟩
      · rw [show ltW b a = false from decide_eq_false c, if_neg (by decide)]
        refine ⟨.inl h.1, fun l s q => q.elim (h.2 l s) (fun z => ?_)⟩
        rcases h'.2 l s z with w | ⟨w1, w2⟩
        · by_cases c1 : b.1 < a.1
          · exact absurd (.inl c1) c
          · exact .inl (by omega)
        · by_cases c1 : b.1 < a.1
          · exact absurd (.inl c1) c
          · by_cases c2 : b.1 = a.1
            · refine .inr ⟨by omega, nlt_tr (fun q => c (.inr ⟨c2, q⟩)) w2⟩
            · exact .inl (by omega)
theorem Lsp.fst {S : Int → List Nat → Prop} {o : Wt} (h : Lsp S o) : Lst (fun l => ∃ s, S l s) (o.map (·.1)) := by
  cases o with
  | none => exact fun l ⟨s, q⟩ => h l s q
  | some p => exact ⟨⟨_, h.1⟩, fun l ⟨s, q⟩ => by
    have := h.2 l s q
    show p.1 ≤ l
    omega⟩
theorem Lsp.uniq {S : Int → List Nat → Prop} {o p : Wt} (h : Lsp S o) (h' : Lsp S p) : o = p := by
  cases o with
  | none =>
    cases p with
    | none => rfl
    | some n => exact absurd h'.1 (h _ _)
  | some m =>
    cases p with
    | none => exact absurd h.1 (h' _ _)
    | some n =>
      obtain ⟨m1, m2⟩ := m
      obtain ⟨n1, n2⟩ := n
      have A : m1 < n1 ∨ m1 = n1 ∧ ¬ n2 < m2 := h.2 _ _ h'.1
      have B : n1 < m1 ∨ n1 = m1 ∧ ¬ m2 < n2 := h'.2 _ _ h.1
      have e : m1 = n1 := by omega
      subst e
      have A2 : ¬ n2 < m2 := by rcases A with a | ⟨_, a⟩; exact absurd a (Int.lt_irrefl _); exact a
      have B2 : ¬ m2 < n2 := by rcases B with a | ⟨_, a⟩; exact absurd a (Int.lt_irrefl _); exact a
      rw [nlt_eq A2 B2]
/-! ### ways to the top -/
section
variable {g : Gr} {r k c row h : Nat} {i : Int} {o p : Option Int} {q u : Wt}
def To (g : Gr) (r k c : Nat) (o : Option Int) : Prop := Lst (fun l => ∃ s, Wy g r k 0 c l s) o
theorem To.corner : To g 0 c c (some 0) := ⟨⟨[], .nil _ _⟩, fun l ⟨s, w⟩ => by rw [w.self.1]; exact Int.le_refl _⟩
theorem To.row0 (hk : k < c) (t : To g 0 (k + 1) c o) : To g 0 k c (by' (g.R 0 k) o) := (t.by (g.R 0 k)).congr fun l => ⟨fun ⟨x, l0, e, ⟨s, w⟩, z⟩ => by subst z; exact ⟨_, .right e w⟩, fun ⟨s, w⟩ => by
  cases w with
  | nil => omega
  | right e w => exact ⟨_, _, e, ⟨_, w⟩, rfl⟩⟩
theorem To.col (t : To g r c c o) : To g (r + 1) c c (by' (g.U r c) o) := (t.by (g.U r c)).congr fun l => ⟨fun ⟨x, l0, e, ⟨s, w⟩, z⟩ => by subst z; exact ⟨_, .up e w⟩, fun ⟨s, w⟩ => by
  cases w with
  | right e w => have := w.mono; omega
  | up e w => exact ⟨_, _, e, ⟨_, w⟩, rfl⟩⟩
theorem To.ins (hk : k < c) (t : To g r k c o) (t' : To g (r + 1) (k + 1) c p) : To g (r + 1) k c (les (by' (g.U r k) o) (by' (g.R (r + 1) k) p)) := ((t.by (g.U r k)).les (t'.by (g.R (r + 1) k))).congr fun l =>
  ⟨fun z => z.elim (fun ⟨x, l0, e, ⟨s, w⟩, z⟩ => by subst z; exact ⟨_, .up e w⟩) (fun ⟨x, l0, e, ⟨s, w⟩, z⟩ => by subst z; exact ⟨_, .right e w⟩), fun ⟨s, w⟩ => by
  cases w with
  | right e w => exact .inr ⟨_, _, e, ⟨_, w⟩, rfl⟩
  | up e w => exact .inl ⟨_, _, e, ⟨_, w⟩, rfl⟩⟩
/-! ### ways from the left -/
def WyI (g : Gr) (row : Nat) (i : Int) (h k : Nat) (l : Int) (s : List Nat) : Prop := ∃ l0, l = i + l0 ∧ Wy g row 0 h k l0 s
def Fm (g : Gr) (row : Nat) (i : Int) (h k : Nat) (q : Wt) : Prop := Lsp (WyI g row i h k) q
theorem WyI.len {l : Int} {s : List Nat} : WyI g row i h k l s → s.length = (row - h) + k := fun ⟨_, _, w⟩ => by have := w.mono; omega
theorem Fm.corner : Fm g row i row 0 (some (i, [])) := ⟨⟨0, by omega, .nil _ _⟩, fun l s ⟨l0, e, w⟩ => by
  obtain ⟨a, b⟩ := w.self
  subst a b
  exact .inr ⟨by omega, lt_irr _⟩⟩
theorem Fm.rw0 (t : Fm g row i row k q) : Fm g row i row (k + 1) (lsp none (fur q (g.R row k) [114])) := (t.fur (g.R row k) [114] fun _ _ => WyI.len).congr fun l s =>
  ⟨fun ⟨x, l0, s0, e, ⟨l1, e1, w⟩, e2, e3⟩ => ⟨l1 + x, by omega, by rw [e3]; exact w.snocR e⟩, fun ⟨l0, e, w⟩ => by
    rcases w.last with ⟨_, z, _⟩ | ⟨k0, l1, s1, x, a, b, w, d, f⟩ | ⟨l1, s1, x, a, w, _⟩
    · cases z
    · cases a
      exact ⟨x, i + l1, s1, b, ⟨l1, rfl, w⟩, by omega, f⟩
    · have := w.mono; omega⟩
theorem Fm.col (hh : h < row) (t : Fm g row i (h + 1) 0 q) : Fm g row i h 0 (fur q (g.U h 0) [117]) := (t.fur (g.U h 0) [117] fun _ _ => WyI.len).congr fun l s =>
  ⟨fun ⟨x, l0, s0, e, ⟨l1, e1, w⟩, e2, e3⟩ => ⟨l1 + x, by omega, by rw [e3]; exact w.snocU h rfl e⟩, fun ⟨l0, e, w⟩ => by
    rcases w.last with ⟨z, _, _⟩ | ⟨k0, l1, s1, x, a, _⟩ | ⟨l1, s1, x, a, w, d, f⟩
    · omega
    · cases a
    · exact ⟨x, i + l1, s1, a, ⟨l1, rfl, w⟩, by omega, f⟩⟩
theorem Fm.ins (hh : h < row) (t : Fm g row i (h + 1) (k + 1) q) (t' : Fm g row i h k u) : Fm g row i h (k + 1) (lsp (fur q (g.U h (k + 1)) [117]) (fur u (g.R h k) [114])) :=
  ((t.fur (g.U h (k + 1)) [117] fun _ _ => WyI.len).lsp (t'.fur (g.R h k) [114] fun _ _ => WyI.len)).congr fun l s =>
  ⟨fun z => z.elim (fun ⟨x, l0, s0, e, ⟨l1, e1, w⟩, e2, e3⟩ => ⟨l1 + x, by omega, by rw [e3]; exact w.snocU h rfl e⟩) (fun ⟨x, l0, s0, e, ⟨l1, e1, w⟩, e2, e3⟩ => ⟨l1 + x, by omega, by rw [e3]; exact w.snocR e⟩), fun ⟨l0, e, w⟩ => by
    rcases w.last with ⟨z, _, _⟩ | ⟨k0, l1, s1, x, a, b, w, d, f⟩ | ⟨l1, s1, x, a, w, d, f⟩
    · omega
    · cases a
      exact .inr ⟨x, i + l1, s1, b, ⟨l1, rfl, w⟩, by omega, f⟩
    · exact .inl ⟨x, i + l1, s1, a, ⟨l1, rfl, w⟩, by omega, f⟩⟩
/-- both reckonings alike -/
theorem both_ways (t : To g row 0 c o) (f : Fm g row i 0 c q) : q.map (·.1) = by' (some i) o := (f.fst.congr (T := fun l => ∃ x l0, some i = some x ∧ (∃ s, Wy g row 0 0 c l0 s) ∧ l = x + l0) fun l =>
  ⟨fun ⟨s, l0, e, w⟩ => ⟨i, l0, rfl, ⟨s, w⟩, e⟩, fun ⟨x, l0, e, ⟨s, w⟩, z⟩ => ⟨s, l0, by cases e; exact z, w⟩⟩).uniq (t.by (some i))
end
end M61.Wb

set_option Elab.async false
set_option linter.all false
set_option autoImplicit false
set_option maxRecDepth 100000
/-! P8: the deck of k08 and its like. -/
namespace M61.B8
open PySem PySem.Spec PyProof.Rows L2
local macro_rules
  | `(tactic| simp_arith! [$ls,*] $[$loc:location]?) => `(tactic| try simp only [wipeR_cons, wipeR_nil, eq_self, denSs, denS, denE, denT, denEs, denO, denC, denL, denI, bindT_nm, bindT_tp, bindT_tl, bindTs_nil, bindTs_cons, varD_0, varD_s, varM_own0, varM_dat0, varM_s, varO_0, varO_s, varL_own0, varL_ref0, varL_s, sz, cp1, cp2, cp3, cp4, cp5, cp6, cp7, cp8, cp9, cp10, cp11, cp12, cp15, cp18, add_i, add_t, add_l, add_s, add_b, sub_b, sub_i, mul_i, mul_t, mul_l, fdiv_i, mod_i, pow_i, shl_i, eq_r, ne_r, inn_t, nin_t, inn_l, nin_l, lt_r, lt_tt, le_r, gt_r, ge_r, is_n, isn_n, is_b, isn_b, isNon_n, isNon_i, isNon_t, isNon_l, isNon_b, isNon_s, tru_n, tru_b, tru_i, tru_t, tru_l, ix_t, ix_l, ix_c, ix_r, cellAt_l, cellL_l, lstD_l, lstD_r, sqD_t, sqD_l, sl_t, sl_l, sl_c, sl_r, rev_t, rev_l, len_t, len_l, len_c, len_r, tup_t, tup_l, tup_r, sum_t, sum_l, sum_r, min_t, min_l, max_t, max_l, min_2, max_2, min_3, repr_r, str_ri, abs_i, int_i, int_b, all_l, any_l, ty_bb, ty_bi, ty_bn, ty_bt, ty_ss, ty_sn, ty_si, ty_sb, ty_ii, ty_ib, ty_in, ty_it, ty_tt, ty_tn, ty_ti, ty_tb, ty_ll, ty_lt, ty_is, ty_il, ty_bs, ty_blst, ty_st, ty_sl, ty_ts, ty_tl, ty_ln, ty_li, ty_lb, ty_ls, intsOf_map, boolsOf_map, pair_Cmp, int_Cmp, bl_Cmp, non_Cmp, ints_Cmp, intst_Cmp, eqv_int, eqv_bl, eqv_ints, eqv_intst, List.map_cons, List.map_nil, List.replicate_succ, List.replicate_zero, List.cons_append, List.nil_append, List.set_cons_zero, List.set_cons_succ, List.length_cons, List.length_nil, List.getElem?_cons_zero, List.getElem?_cons_succ, List.eraseIdx_cons_zero, Nat.reduceSub, Nat.reduceAdd, Nat.reduceLT, Nat.reduceLeDiff, Nat.reducePow, Nat.reduceEqDiff, Nat.reduceMul, Int.reducePow, Int.reduceToNat, Int.reduceMul, Int.reduceAdd, Int.reduceSub, Int.reduceNeg, Int.reduceLT, Int.reduceLE, Int.reduceEq, Int.reduceBEq, Int.reduceBNe, zero_add', not_true_eq_false, not_false_eq_true, Bool.true_eq_false, false_and, and_false, true_and, and_true, exists_eq_left', exists_and_left, Option.some.injEq, Cell.lst.injEq, Cell.dct.injEq, if_pos_true, reduceIte, Bool.false_eq_true, decide_true, decide_false, Bool.not_true, Bool.not_false, Bool.not_eq_true', Bool.and_true, Bool.true_and, decide_eq_true_eq, decide_eq_false_iff_not, ite_self, List.isEmpty_cons, List.isEmpty_nil, $ls,*] $[$loc]?)
def i_law_deck : Def := ⟨1, 4,
  (.cons (.set 1 (.frz (.list (.sl (.var 0) .no (.yes (.int 63))))))
  (.cons (.set 2 (.int 48271))
  (.cons (.for (.nm 3) (.seq (.var 1)) (.cons (.set 2 (.bin .mod (.bin .add (.bin .add (.bin .mul (.var 2) (.int 69621)) (.bin .mod (.var 3) (.int 1000000007))) (.int 3)) (.int 2147483629)))
  .nil))
  (.cons (.ret (.cel (.lit (.cons (.cel (.lrv (.var 1))) (.cons (.var 2) (.cons (.int 0) .nil))))))
  .nil))))⟩
def i_law_draw : Def := ⟨2, 4,
  (.cons (.csub (.var 0) (.int 2) (.bin .add (.ix (.var 0) (.int 2)) (.int 1)))
  (.cons (.set 2 (.ix (.var 0) (.int 1)))
  (.cons (.ife (.cne (.ix (.var 0) (.int 0))) (.cons (.set 2 (.cpop (.ix (.var 0) (.int 0))))
  (.cons (.ife (.cmp .ge (.var 2) (.bin .pow (.int 10) (.int 18))) (.cons (.capp (.ix (.var 0) (.int 0)) (.bin .fdiv (.var 2) (.var 1)))
  (.cons (.ret (.bin .mod (.var 2) (.var 1)))
  .nil)) .nil)
  .nil)) .nil)
  (.cons (.set 3 (.bin .mod (.bin .mul (.bin .add (.bin .add (.bin .mod (.var 2) (.int 2147483629)) (.bin .mul (.int 7919) (.ix (.var 0) (.int 2)))) (.int 31)) (.int 48271)) (.int 2147483647)))
  (.cons (.set 3 (.bin .mod (.bin .add (.bin .add (.bin .mul (.var 3) (.var 3)) (.bin .mul (.int 69621) (.ix (.var 0) (.int 2)))) (.int 7)) (.int 2147483587)))
  (.cons (.ret (.bin .mod (.bin .fdiv (.bin .mod (.bin .mul (.var 3) (.int 16807)) (.int 2147483563)) (.int 64)) (.var 1)))
  .nil))))))⟩
theorem cmul_r (i j : Int) (h : -18446744073709551616 < j ∧ j < 18446744073709551616) : CMul i j := .inr ⟨by omega, by omega⟩
theorem draw_ok (G : Ctx) (a b : Addr) (n : Int) (C : CM) (P : D → CM → Prop) (hD : Deck a b C) (h0 : 0 < n) (h1 : n < 1073741824)
    (k : ∀ v C', 0 ≤ v → v < n → Deck a b C' → (∀ e, e ≠ a → e ≠ b → C' e = C e) → P (.int v) C') : denF G i_law_draw [.ref a, .int n] C P := by
  obtain ⟨xs, s, c, hab, ha, hb, hl⟩ := hD
  refine ⟨rfl, ?_⟩
  have hba : ¬ (b = a) := fun e => hab e.symm
  have fin : ∀ (t s' : Int) (C' : CM), C' a = some (.lst [.ref b, .int s', .int (c + 1)]) → (∃ ys : List Int, C' b = some (.lst (ys.map .int)) ∧ ys.length ≤ 63) → (∀ e, e ≠ a → e ≠ b → C' e = C e) → ∃ C'', CM.Sub C'' C' ∧ P (.int (t % n)) C'' :=
    fun t s' C' e1 ⟨ys, e2, e3⟩ e4 => ⟨C', sub_refl _, k _ _ (Int.emod_nonneg t (by omega)) (Int.emod_lt_of_pos t h0) ⟨ys, s', c + 1, hab, e1, e2, e3⟩ e4⟩
  rcases List.eq_nil_or_concat xs with rfl | ⟨ys, y, rfl⟩
  · simp only [List.map_nil] at hb
    simp_arith! [i_law_draw, ha, atI_2, atI_1, atI_0, ixN_31, ixN_32, hba, if_neg hba, hb]
    refine ⟨ints_Cmp [], cmul_l _ _ (by decide), cmul_r _ _ (by decide), cmul_mod _ _ _ (by decide) (by decide), cmul_l _ _ (by decide), cmul_r _ _ (by decide), ⟨by decide, by decide⟩, h0, ?_⟩
    exact fin _ s _ (if_pos rfl) ⟨[], by show (if b = a then _ else C b) = _; rw [if_neg hba]; exact hb, Nat.zero_le _⟩ (fun e h1 h2 => by show (if e = a then _ else C e) = _; rw [if_neg h1])
  · rw [List.concat_eq_append] at *
    have hLd : ((ys ++ [y]).map D.int).dropLast = ys.map .int := by rw [List.map_append]; exact List.dropLast_concat
    have hLl : ((ys ++ [y]).map D.int)[((ys ++ [y]).map D.int).length - 1]? = some (.int y) := by
      rw [List.map_append, List.length_append, List.map_cons, List.map_nil, List.length_singleton, Nat.add_sub_cancel, List.getElem?_append_right (Nat.le_refl _), Nat.sub_self]; rfl
    have hLe : ((ys ++ [y]).map D.int).isEmpty = false := by rw [List.map_append]; cases ys <;> rfl
    have hLc := ints_Cmp (ys ++ [y])
    have hl2 : ys.length + 1 ≤ 63 := by rw [List.length_append, List.length_singleton] at hl; exact hl
    have hs : (ys.map D.int).length < 16777216 := by rw [List.length_map]; omega
    generalize (ys ++ [y]).map D.int = L at *
    simp_arith! [i_law_draw, ha, atI_2, atI_1, atI_0, ixN_31, ixN_32, hba, if_neg hba, if_neg hab, hb, hLd, hLl, hLe, hLc]
    split
    · refine ⟨⟨h0, h1⟩, hs, h0, ?_⟩
      refine fin _ s _ (by show (if a = b then _ else if a = b then _ else if a = a then _ else _) = _; rw [if_neg hab, if_neg hab, if_pos rfl]) ⟨ys ++ [y / n], by rw [List.map_append]; exact if_pos rfl, by rw [List.length_append, List.length_singleton]; exact hl2⟩ (fun e h1 h2 => by show (if e = b then _ else if e = b then _ else if e = a then _ else C e) = _; rw [if_neg h2, if_neg h2, if_neg h1])
    · refine ⟨cmul_l _ _ (by decide), cmul_r _ _ (by decide), cmul_mod _ _ _ (by decide) (by decide), cmul_l _ _ (by decide), cmul_r _ _ (by decide), ⟨by decide, by decide⟩, h0, ?_⟩
      refine fin _ s _ (by show (if a = b then _ else if a = a then _ else _) = _; rw [if_neg hab, if_pos rfl]) ⟨ys, if_pos rfl, by omega⟩ (fun e h1 h2 => by show (if e = b then _ else if e = a then _ else C e) = _; rw [if_neg h2, if_neg h1])
theorem sp_draw {tb : List (String × Def)} (h : tb.lookup "_law_draw" = some i_law_draw) : Sp tb "_law_draw" 1 DrawR :=
  sp_mk h fun n _ ds C P ex ⟨a, b, m, e, hD, h0, h1, k⟩ => by subst e; exact draw_ok _ a b m C P hD h0 h1 k
def DeckR (ds : List D) (C : CM) (P : D → CM → Prop) : Prop := ∃ ns : List Int, ds = [.scr (ns.map .int)] ∧ ns.length ≤ 63 ∧ ∀ a b C', Deck a b C' → P (.ref a) C'
theorem deck_ok {G : Ctx} {C : CM} {P : D → CM → Prop} {ns : List Int} (hl : ns.length ≤ 63) (k : ∀ a b C', Deck a b C' → P (.ref a) C') : denF G i_law_deck [.scr (ns.map .int)] C P := by
  refine ⟨rfl, ?_⟩
  have e63 : (63 : Int) = ((63 : Nat) : Int) := rfl
  try simp_arith! [i_law_deck, cutD_map]
  rw [e63, cut_to, List.take_of_length_le hl]
  refine for_invL .int (I := fun _ ρ C' => ∃ (s : Int) (x3 : Option Dv), ρ = [some (.dat (.scr (ns.map .int))), some (.dat (.lst (ns.map .int))), some (.dat (.int s)), x3] ∧ C' = C) ⟨_, _, rfl, rfl⟩ (fun done x rest ρ C1 e ⟨s, x3, hr, hc⟩ nx knx => ?_) fun ρ C1 ⟨s, x3, hr, hc⟩ => ?_
  · subst hr hc
    try simp_arith! []
    exact ⟨cmul_r _ _ (by decide), knx _ _ ⟨_, _, rfl, rfl⟩⟩
  · subst hr hc
    try simp_arith! [← List.map_reverse]
    intro b hb a ha
    have hab : a ≠ b := fun e => by rw [e, if_pos rfl] at ha; cases ha
    exact ⟨_, sub_refl _, k a b _ ⟨ns.reverse, _, _, hab, if_pos rfl, by show (if b = a then _ else if b = b then _ else C1 b) = _; rw [if_neg hab.symm, if_pos rfl], by rw [List.length_reverse]; exact hl⟩⟩
theorem sp_deck {tb : List (String × Def)} (h : tb.lookup "_law_deck" = some i_law_deck) : Sp tb "_law_deck" 1 DeckR :=
  sp_mk h fun n _ ds C P ex ⟨ns, e, hl, k⟩ => by subst e; exact deck_ok hl k
end M61.B8

set_option Elab.async false
set_option linter.all false
set_option autoImplicit false
set_option maxRecDepth 100000
/-! P50: the deck of k47-k52, k59-k62, k91. -/
namespace M61.W47
open PySem PySem.Spec PyProof.Rows L2
local macro_rules
  | `(tactic| simp_arith! [$ls,*] $[$loc:location]?) => `(tactic| try simp only [wipeR_cons, wipeR_nil, eq_self, denE, denT, denEs, denO, denC, denI, bindT_nm, bindT_tp, bindT_tl, bindTs_nil, bindTs_cons, varD_0, varD_s, varM_own0, varM_dat0, varM_s, varO_0, varO_s, varL_own0, varL_ref0, varL_s, sz, cp1, cp2, cp3, cp4, cp5, cp6, cp7, cp8, cp9, cp10, cp11, cp12, cp15, cp18, add_i, add_t, add_l, add_s, add_b, sub_b, sub_i, mul_i, mul_t, mul_l, fdiv_i, mod_i, pow_i, shl_i, eq_r, ne_r, inn_t, nin_t, inn_l, nin_l, lt_r, lt_tt, le_r, gt_r, ge_r, is_n, isn_n, is_b, isn_b, isNon_n, isNon_i, isNon_t, isNon_l, isNon_b, isNon_s, tru_n, tru_b, tru_i, tru_t, tru_l, ix_t, ix_l, ix_c, ix_r, cellAt_l, cellL_l, lstD_l, lstD_r, sqD_t, sqD_l, sl_t, sl_l, sl_c, sl_r, rev_t, rev_l, len_t, len_l, len_c, len_r, tup_t, tup_l, tup_r, sum_t, sum_l, sum_r, min_t, min_l, max_t, max_l, min_2, max_2, min_3, repr_r, str_ri, abs_i, int_i, int_b, all_l, any_l, ty_bb, ty_bi, ty_bn, ty_bt, ty_ss, ty_sn, ty_si, ty_sb, ty_ii, ty_ib, ty_in, ty_it, ty_tt, ty_tn, ty_ti, ty_tb, ty_ll, ty_lt, ty_is, ty_il, ty_bs, ty_blst, ty_st, ty_sl, ty_ts, ty_tl, ty_ln, ty_li, ty_lb, ty_ls, intsOf_map, boolsOf_map, pair_Cmp, int_Cmp, bl_Cmp, non_Cmp, ints_Cmp, intst_Cmp, eqv_int, eqv_bl, eqv_ints, eqv_intst, List.map_cons, List.map_nil, List.replicate_succ, List.replicate_zero, List.cons_append, List.nil_append, List.set_cons_zero, List.set_cons_succ, List.length_cons, List.length_nil, List.getElem?_cons_zero, List.getElem?_cons_succ, List.eraseIdx_cons_zero, Nat.reduceSub, Nat.reduceAdd, Nat.reduceLT, Nat.reduceLeDiff, Nat.reducePow, Nat.reduceEqDiff, Nat.reduceMul, Int.reducePow, Int.reduceToNat, Int.reduceMul, Int.reduceAdd, Int.reduceSub, Int.reduceNeg, Int.reduceLT, Int.reduceLE, Int.reduceEq, Int.reduceBEq, Int.reduceBNe, zero_add', not_true_eq_false, not_false_eq_true, Bool.true_eq_false, false_and, and_false, true_and, and_true, exists_eq_left', exists_and_left, Option.some.injEq, Cell.lst.injEq, Cell.dct.injEq, if_pos_true, reduceIte, Bool.false_eq_true, decide_true, decide_false, Bool.not_true, Bool.not_false, Bool.not_eq_true', Bool.and_true, Bool.true_and, decide_eq_true_eq, decide_eq_false_iff_not, ite_self, List.isEmpty_cons, List.isEmpty_nil, ss_nil', ss_cons', s_set', s_own', s_setF', s_unp', s_par2', par2K_e, s_par3', par3K_e, s_app', s_ext', extK_e, s_exp', s_csub', csubK_e, s_dset', dsetK_e, s_capp', cappK_e, s_aug', augK_a, augK_s, s_oset', osetK_e, s_ife', s_for', s_forc', forcK_e, s_whl', s_ret', s_ret0', s_pass', s_brk', s_cnt', l_comp', l_compc', compcK_e, l_lit', l_cat', l_rvd', l_lrv', l_ls2', l_list', l_srt', srtK_e, l_srr', srrK_e, l_lrg1', l_lrg2', lrgK_e, l_rep', repK_e, setM_nil, setM_cons, Int.toNat_natCast, List.length_map, exists_eq_left, $ls,*] $[$loc]?)
local macro_rules
  | `(tactic| simp_all_arith! [$ls,*]) => `(tactic| ((try simp only [wipeR_cons, wipeR_nil, eq_self, denE, denT, denEs, denO, denC, denI, bindT_nm, bindT_tp, bindT_tl, bindTs_nil, bindTs_cons, varD_0, varD_s, varM_own0, varM_dat0, varM_s, varO_0, varO_s, varL_own0, varL_ref0, varL_s, sz, cp1, cp2, cp3, cp4, cp5, cp6, cp7, cp8, cp9, cp10, cp11, cp12, cp15, cp18, add_i, add_t, add_l, add_s, add_b, sub_b, sub_i, mul_i, mul_t, mul_l, fdiv_i, mod_i, pow_i, shl_i, eq_r, ne_r, inn_t, nin_t, inn_l, nin_l, lt_r, lt_tt, le_r, gt_r, ge_r, is_n, isn_n, is_b, isn_b, isNon_n, isNon_i, isNon_t, isNon_l, isNon_b, isNon_s, tru_n, tru_b, tru_i, tru_t, tru_l, ix_t, ix_l, ix_c, ix_r, cellAt_l, cellL_l, lstD_l, lstD_r, sqD_t, sqD_l, sl_t, sl_l, sl_c, sl_r, rev_t, rev_l, len_t, len_l, len_c, len_r, tup_t, tup_l, tup_r, sum_t, sum_l, sum_r, min_t, min_l, max_t, max_l, min_2, max_2, min_3, repr_r, str_ri, abs_i, int_i, int_b, all_l, any_l, ty_bb, ty_bi, ty_bn, ty_bt, ty_ss, ty_sn, ty_si, ty_sb, ty_ii, ty_ib, ty_in, ty_it, ty_tt, ty_tn, ty_ti, ty_tb, ty_ll, ty_lt, ty_is, ty_il, ty_bs, ty_blst, ty_st, ty_sl, ty_ts, ty_tl, ty_ln, ty_li, ty_lb, ty_ls, intsOf_map, boolsOf_map, pair_Cmp, int_Cmp, bl_Cmp, non_Cmp, ints_Cmp, intst_Cmp, eqv_int, eqv_bl, eqv_ints, eqv_intst, List.map_cons, List.map_nil, List.replicate_succ, List.replicate_zero, List.cons_append, List.nil_append, List.set_cons_zero, List.set_cons_succ, List.length_cons, List.length_nil, List.getElem?_cons_zero, List.getElem?_cons_succ, List.eraseIdx_cons_zero, Nat.reduceSub, Nat.reduceAdd, Nat.reduceLT, Nat.reduceLeDiff, Nat.reducePow, Nat.reduceEqDiff, Nat.reduceMul, Int.reducePow, Int.reduceToNat, Int.reduceMul, Int.reduceAdd, Int.reduceSub, Int.reduceNeg, Int.reduceLT, Int.reduceLE, Int.reduceEq, Int.reduceBEq, Int.reduceBNe, zero_add', not_true_eq_false, not_false_eq_true, Bool.true_eq_false, false_and, and_false, true_and, and_true, exists_eq_left', exists_and_left, Option.some.injEq, Cell.lst.injEq, Cell.dct.injEq, if_pos_true, reduceIte, Bool.false_eq_true, decide_true, decide_false, Bool.not_true, Bool.not_false, Bool.not_eq_true', Bool.and_true, Bool.true_and, decide_eq_true_eq, decide_eq_false_iff_not, ite_self, List.isEmpty_cons, List.isEmpty_nil, ss_nil', ss_cons', s_set', s_own', s_setF', s_unp', s_par2', par2K_e, s_par3', par3K_e, s_app', s_ext', extK_e, s_exp', s_csub', csubK_e, s_dset', dsetK_e, s_capp', cappK_e, s_aug', augK_a, augK_s, s_oset', osetK_e, s_ife', s_for', s_forc', forcK_e, s_whl', s_ret', s_ret0', s_pass', s_brk', s_cnt', l_comp', l_compc', compcK_e, l_lit', l_cat', l_rvd', l_lrv', l_ls2', l_list', l_srt', srtK_e, l_srr', srrK_e, l_lrg1', l_lrg2', lrgK_e, l_rep', repK_e, setM_nil, setM_cons, Int.toNat_natCast, List.length_map, exists_eq_left, $ls,*]); (repeat ((with_reducible (first | refine blk_of ?_ | refine turn_of ?_ | refine tst_of ?_)); (try simp only [wipeR_cons, wipeR_nil, eq_self, denE, denT, denEs, denO, denC, denI, bindT_nm, bindT_tp, bindT_tl, bindTs_nil, bindTs_cons, varD_0, varD_s, varM_own0, varM_dat0, varM_s, varO_0, varO_s, varL_own0, varL_ref0, varL_s, sz, cp1, cp2, cp3, cp4, cp5, cp6, cp7, cp8, cp9, cp10, cp11, cp12, cp15, cp18, add_i, add_t, add_l, add_s, add_b, sub_b, sub_i, mul_i, mul_t, mul_l, fdiv_i, mod_i, pow_i, shl_i, eq_r, ne_r, inn_t, nin_t, inn_l, nin_l, lt_r, lt_tt, le_r, gt_r, ge_r, is_n, isn_n, is_b, isn_b, isNon_n, isNon_i, isNon_t, isNon_l, isNon_b, isNon_s, tru_n, tru_b, tru_i, tru_t, tru_l, ix_t, ix_l, ix_c, ix_r, cellAt_l, cellL_l, lstD_l, lstD_r, sqD_t, sqD_l, sl_t, sl_l, sl_c, sl_r, rev_t, rev_l, len_t, len_l, len_c, len_r, tup_t, tup_l, tup_r, sum_t, sum_l, sum_r, min_t, min_l, max_t, max_l, min_2, max_2, min_3, repr_r, str_ri, abs_i, int_i, int_b, all_l, any_l, ty_bb, ty_bi, ty_bn, ty_bt, ty_ss, ty_sn, ty_si, ty_sb, ty_ii, ty_ib, ty_in, ty_it, ty_tt, ty_tn, ty_ti, ty_tb, ty_ll, ty_lt, ty_is, ty_il, ty_bs, ty_blst, ty_st, ty_sl, ty_ts, ty_tl, ty_ln, ty_li, ty_lb, ty_ls, intsOf_map, boolsOf_map, pair_Cmp, int_Cmp, bl_Cmp, non_Cmp, ints_Cmp, intst_Cmp, eqv_int, eqv_bl, eqv_ints, eqv_intst, List.map_cons, List.map_nil, List.replicate_succ, List.replicate_zero, List.cons_append, List.nil_append, List.set_cons_zero, List.set_cons_succ, List.length_cons, List.length_nil, List.getElem?_cons_zero, List.getElem?_cons_succ, List.eraseIdx_cons_zero, Nat.reduceSub, Nat.reduceAdd, Nat.reduceLT, Nat.reduceLeDiff, Nat.reducePow, Nat.reduceEqDiff, Nat.reduceMul, Int.reducePow, Int.reduceToNat, Int.reduceMul, Int.reduceAdd, Int.reduceSub, Int.reduceNeg, Int.reduceLT, Int.reduceLE, Int.reduceEq, Int.reduceBEq, Int.reduceBNe, zero_add', not_true_eq_false, not_false_eq_true, Bool.true_eq_false, false_and, and_false, true_and, and_true, exists_eq_left', exists_and_left, Option.some.injEq, Cell.lst.injEq, Cell.dct.injEq, if_pos_true, reduceIte, Bool.false_eq_true, decide_true, decide_false, Bool.not_true, Bool.not_false, Bool.not_eq_true', Bool.and_true, Bool.true_and, decide_eq_true_eq, decide_eq_false_iff_not, ite_self, List.isEmpty_cons, List.isEmpty_nil, ss_nil', ss_cons', s_set', s_own', s_setF', s_unp', s_par2', par2K_e, s_par3', par3K_e, s_app', s_ext', extK_e, s_exp', s_csub', csubK_e, s_dset', dsetK_e, s_capp', cappK_e, s_aug', augK_a, augK_s, s_oset', osetK_e, s_ife', s_for', s_forc', forcK_e, s_whl', s_ret', s_ret0', s_pass', s_brk', s_cnt', l_comp', l_compc', compcK_e, l_lit', l_cat', l_rvd', l_lrv', l_ls2', l_list', l_srt', srtK_e, l_srr', srrK_e, l_lrg1', l_lrg2', lrgK_e, l_rep', repK_e, setM_nil, setM_cons, Int.toNat_natCast, List.length_map, exists_eq_left, $ls,*])))))
def i_law_deck : Def := ⟨1, 4,
  (.cons (.set 1 (.cel (.rvd (.sl (.var 0) .no (.yes (.int 63))))))
  (.cons (.set 2 (.blt .sum (.cons (.frz (.compc [3] (.bin .mod (.var 3) (.int 2147483629)) (.nm 3) (.var 1) .no)) .nil)))
  (.cons (.ret (.cel (.lit (.cons (.var 1) (.cons (.bin .add (.bin .mod (.var 2) (.int 2147483629)) (.bin .mul (.int 48271) (.blt .len (.cons (.var 1) .nil)))) (.cons (.int 0) .nil))))))
  .nil)))⟩
def i_law_draw : Def := ⟨2, 4,
  (.cons (.csub (.var 0) (.int 2) (.bin .add (.ix (.var 0) (.int 2)) (.int 1)))
  (.cons (.set 2 (.ix (.var 0) (.int 1)))
  (.cons (.ife (.cne (.ix (.var 0) (.int 0))) (.cons (.set 2 (.cpop (.ix (.var 0) (.int 0))))
  .nil) .nil)
  (.cons (.ife (.cmp .ge (.var 2) (.bin .pow (.int 10) (.int 18))) (.cons (.capp (.ix (.var 0) (.int 0)) (.bin .fdiv (.var 2) (.var 1)))
  (.cons (.ret (.bin .mod (.var 2) (.var 1)))
  .nil)) .nil)
  (.cons (.set 3 (.bin .mod (.bin .mul (.bin .add (.bin .add (.bin .mod (.var 2) (.int 2147483629)) (.bin .mul (.int 104729) (.ix (.var 0) (.int 2)))) (.int 1)) (.int 48271)) (.int 2147483647)))
  (.cons (.set 3 (.bin .mod (.bin .add (.bin .add (.bin .mul (.var 3) (.var 3)) (.bin .mul (.int 69621) (.ix (.var 0) (.int 2)))) (.int 7)) (.int 2147483587)))
  (.cons (.ret (.bin .mod (.bin .fdiv (.bin .mod (.bin .mul (.var 3) (.bin .add (.bin .fdiv (.var 3) (.int 3)) (.int 39373))) (.int 2305843009213693951)) (.int 128)) (.var 1)))
  .nil)))))))⟩
theorem draw_ok (G : Ctx) (a b : Addr) (n : Int) (C : CM) (P : D → CM → Prop) (hD : Deck a b C) (h0 : 0 < n) (h1 : n < 1073741824)
    (k : ∀ v C', 0 ≤ v → v < n → Deck a b C' → (∀ e, e ≠ a → e ≠ b → C' e = C e) → P (.int v) C') : denF G i_law_draw [.ref a, .int n] C P := by
  obtain ⟨xs, s, c, hab, ha, hb, hl⟩ := hD
  refine ⟨rfl, ?_⟩
  have hba : ¬ (b = a) := fun e => hab e.symm
  have fin : ∀ (t s' : Int) (C' : CM), C' a = some (.lst [.ref b, .int s', .int (c + 1)]) → (∃ ys : List Int, C' b = some (.lst (ys.map .int)) ∧ ys.length ≤ 63) → (∀ e, e ≠ a → e ≠ b → C' e = C e) → ∃ C'', CM.Sub C'' C' ∧ P (.int (t % n)) C'' :=
    fun t s' C' e1 ⟨ys, e2, e3⟩ e4 => ⟨C', sub_refl _, k _ _ (Int.emod_nonneg t (by omega)) (Int.emod_lt_of_pos t h0) ⟨ys, s', c + 1, hab, e1, e2, e3⟩ e4⟩
  rcases List.eq_nil_or_concat xs with rfl | ⟨ys, y, rfl⟩
  · simp only [List.map_nil] at hb
    simp_all_arith! [i_law_draw, ha, atI_2, atI_1, atI_0, ixN_31, ixN_32, hba, if_neg hba, hb]
    refine ⟨ints_Cmp [], ?_⟩
    simp_all_arith! [ha, atI_2, atI_1, atI_0, hba, if_neg hba, if_neg hab, hb]
    by_cases hs : (1000000000000000000 : Int) ≤ s
    · simp_all_arith! [eq_true hs, ha, atI_2, atI_1, atI_0, hba, if_neg hba, if_neg hab, hb]
      refine ⟨⟨h0, h1⟩, ?_⟩
      simp_all_arith! [ha, atI_2, atI_1, atI_0, hba, if_neg hba, if_neg hab, hb]
      refine ⟨h0, ?_⟩
      refine fin _ s _ (by show (if a = b then _ else if a = a then _ else _) = _; rw [if_neg hab, if_pos rfl]) ⟨[s / n], if_pos rfl, by show 1 ≤ 63; omega⟩ (fun e h1 h2 => by show (if e = b then _ else if e = a then _ else C e) = _; rw [if_neg h2, if_neg h1])
    · simp_all_arith! [eq_false hs, ha, atI_2, atI_1, atI_0, hba, if_neg hba, if_neg hab, hb]
      refine ⟨cmul_l _ _ (by decide), B8.cmul_r _ _ (by decide), ?_⟩
      simp_all_arith! [ha, atI_2, atI_1, atI_0, hba, if_neg hba, if_neg hab, hb]
      refine ⟨cmul_mod _ _ _ (by decide) (by decide), cmul_l _ _ (by decide), ?_⟩
      simp_all_arith! []
      refine ⟨⟨by decide, by decide⟩, cmul_mod _ _ _ (by decide) (by decide), ⟨by decide, by decide⟩, h0, ?_⟩
      exact fin _ s _ (if_pos rfl) ⟨[], by show (if b = a then _ else C b) = _; rw [if_neg hba]; exact hb, Nat.zero_le _⟩ (fun e h1 h2 => by show (if e = a then _ else C e) = _; rw [if_neg h1])
  · rw [List.concat_eq_append] at *
    have hLd : ((ys ++ [y]).map D.int).dropLast = ys.map .int := by rw [List.map_append]; exact List.dropLast_concat
    have hLl : ((ys ++ [y]).map D.int)[((ys ++ [y]).map D.int).length - 1]? = some (.int y) := by
      rw [List.map_append, List.length_append, List.map_cons, List.map_nil, List.length_singleton, Nat.add_sub_cancel, List.getElem?_append_right (Nat.le_refl _), Nat.sub_self]; rfl
    have hLe : ((ys ++ [y]).map D.int).isEmpty = false := by rw [List.map_append]; cases ys <;> rfl
    have hLc := ints_Cmp (ys ++ [y])
    have hl2 : ys.length + 1 ≤ 63 := by rw [List.length_append, List.length_singleton] at hl; exact hl
    have hs : ys.length < 16777216 := by omega
    generalize (ys ++ [y]).map D.int = L at *
    simp_all_arith! [i_law_draw, ha, atI_2, atI_1, atI_0, ixN_31, ixN_32, hba, if_neg hba, if_neg hab, hb, hLd, hLl, hLe, hLc]
    by_cases hy : (1000000000000000000 : Int) ≤ y
    · simp_all_arith! [eq_true hy, ha, atI_2, atI_1, atI_0, hba, if_neg hba, if_neg hab, hb, hLd]
      refine ⟨⟨h0, h1⟩, hs, ?_⟩
      simp_all_arith! [ha, atI_2, atI_1, atI_0, hba, if_neg hba, if_neg hab, hb, hLd]
      refine ⟨h0, ?_⟩
      refine fin _ s _ (by show (if a = b then _ else if a = b then _ else if a = a then _ else _) = _; rw [if_neg hab, if_neg hab, if_pos rfl]) ⟨ys ++ [y / n], by rw [List.map_append]; exact if_pos rfl, by rw [List.length_append, List.length_singleton]; exact hl2⟩ (fun e h1 h2 => by show (if e = b then _ else if e = b then _ else if e = a then _ else C e) = _; rw [if_neg h2, if_neg h2, if_neg h1])
    · simp_all_arith! [eq_false hy, ha, atI_2, atI_1, atI_0, hba, if_neg hba, if_neg hab, hb, hLd]
      refine ⟨cmul_l _ _ (by decide), B8.cmul_r _ _ (by decide), ?_⟩
      simp_all_arith! [ha, atI_2, atI_1, atI_0, hba, if_neg hba, if_neg hab, hb]
      refine ⟨cmul_mod _ _ _ (by decide) (by decide), cmul_l _ _ (by decide), ?_⟩
      simp_all_arith! []
      refine ⟨⟨by decide, by decide⟩, cmul_mod _ _ _ (by decide) (by decide), ⟨by decide, by decide⟩, h0, ?_⟩
      refine fin _ s _ (by show (if a = b then _ else if a = a then _ else _) = _; rw [if_neg hab, if_pos rfl]) ⟨ys, if_pos rfl, by omega⟩ (fun e h1 h2 => by show (if e = b then _ else if e = a then _ else C e) = _; rw [if_neg h2, if_neg h1])
theorem sp_draw {tb : List (String × Def)} (h : tb.lookup "_law_draw" = some i_law_draw) : Sp tb "_law_draw" 1 DrawR :=
  sp_mk h fun n _ ds C P ex ⟨a, b, m, e, hD, h0, h1, k⟩ => by subst e; exact draw_ok _ a b m C P hD h0 h1 k
def DeckR (ds : List D) (C : CM) (P : D → CM → Prop) : Prop := ∃ ns : List Int, ds = [.scr (ns.map .int)] ∧ ns.length ≤ 63 ∧ ∀ a b C', Deck a b C' → P (.ref a) C'
theorem deck_ok {G : Ctx} {C : CM} {P : D → CM → Prop} {ns : List Int} (hl : ns.length ≤ 63) (k : ∀ a b C', Deck a b C' → P (.ref a) C') : denF G i_law_deck [.scr (ns.map .int)] C P := by
  refine ⟨rfl, ?_⟩
  have e63 : (63 : Int) = ((63 : Nat) : Int) := rfl
  have hr : ns.reverse.length ≤ 63 := by rw [List.length_reverse]; exact hl
  simp_all_arith! [i_law_deck, cutD_map]
  rw [e63, cut_to, List.take_of_length_le hl]
  simp_all_arith! [← List.map_reverse]
  intro b hb
  simp_all_arith! []
  refine ⟨ns.reverse, ?_⟩
  refine compC_map (fun x => .int (x % 2147483629)) (if_pos rfl) (by rw [sz]; omega) (fun x _ K kK => ?_) ?_
  · simp_all_arith! []
    exact kK
  · have e : (ns.reverse.map fun x => D.int (x % 2147483629)) = (ns.reverse.map fun x => x % 2147483629).map .int := by rw [List.map_map]; rfl
    rw [e]
    simp_all_arith! [intsOf_map]
    refine ⟨cmul_l _ _ (by decide), ?_⟩
    intro a ha
    have hab : a ≠ b := fun e => by rw [e, if_pos rfl] at ha; cases ha
    exact ⟨_, sub_refl _, k a b _ ⟨ns.reverse, _, _, hab, if_pos rfl, by show (if b = a then _ else if b = b then _ else C b) = _; rw [if_neg hab.symm, if_pos rfl], hr⟩⟩
theorem sp_deck {tb : List (String × Def)} (h : tb.lookup "_law_deck" = some i_law_deck) : Sp tb "_law_deck" 1 DeckR :=
  sp_mk h fun n hn ds C P ex ⟨ns, e, hl, k⟩ => by subst e; exact deck_ok hl k
end M61.W47

set_option Elab.async false
set_option linter.all false
set_option autoImplicit false
set_option maxRecDepth 100000
/-! P52: webs drawn. -/
namespace M61.W47
open PySem PySem.Spec PyProof.Rows L2
local macro_rules
  | `(tactic| simp_arith! [$ls,*] $[$loc:location]?) => `(tactic| try simp only [wipeR_cons, wipeR_nil, eq_self, denE, denT, denEs, denO, denC, denI, bindT_nm, bindT_tp, bindT_tl, bindTs_nil, bindTs_cons, varD_0, varD_s, varM_own0, varM_dat0, varM_s, varO_0, varO_s, varL_own0, varL_ref0, varL_s, sz, cp1, cp2, cp3, cp4, cp5, cp6, cp7, cp8, cp9, cp10, cp11, cp12, cp15, cp18, add_i, add_t, add_l, add_s, add_b, sub_b, sub_i, mul_i, mul_t, mul_l, fdiv_i, mod_i, pow_i, shl_i, eq_r, ne_r, inn_t, nin_t, inn_l, nin_l, lt_r, lt_tt, le_r, gt_r, ge_r, is_n, isn_n, is_b, isn_b, isNon_n, isNon_i, isNon_t, isNon_l, isNon_b, isNon_s, tru_n, tru_b, tru_i, tru_t, tru_l, ix_t, ix_l, ix_c, ix_r, cellAt_l, cellL_l, lstD_l, lstD_r, sqD_t, sqD_l, sl_t, sl_l, sl_c, sl_r, rev_t, rev_l, len_t, len_l, len_c, len_r, tup_t, tup_l, tup_r, sum_t, sum_l, sum_r, min_t, min_l, max_t, max_l, min_2, max_2, min_3, repr_r, str_ri, abs_i, int_i, int_b, all_l, any_l, ty_bb, ty_bi, ty_bn, ty_bt, ty_ss, ty_sn, ty_si, ty_sb, ty_ii, ty_ib, ty_in, ty_it, ty_tt, ty_tn, ty_ti, ty_tb, ty_ll, ty_lt, ty_is, ty_il, ty_bs, ty_blst, ty_st, ty_sl, ty_ts, ty_tl, ty_ln, ty_li, ty_lb, ty_ls, intsOf_map, boolsOf_map, pair_Cmp, int_Cmp, bl_Cmp, non_Cmp, ints_Cmp, intst_Cmp, eqv_int, eqv_bl, eqv_ints, eqv_intst, List.map_cons, List.map_nil, List.replicate_succ, List.replicate_zero, List.cons_append, List.nil_append, List.set_cons_zero, List.set_cons_succ, List.length_cons, List.length_nil, List.getElem?_cons_zero, List.getElem?_cons_succ, List.eraseIdx_cons_zero, Nat.reduceSub, Nat.reduceAdd, Nat.reduceLT, Nat.reduceLeDiff, Nat.reducePow, Nat.reduceEqDiff, Nat.reduceMul, Int.reducePow, Int.reduceToNat, Int.reduceMul, Int.reduceAdd, Int.reduceSub, Int.reduceNeg, Int.reduceLT, Int.reduceLE, Int.reduceEq, Int.reduceBEq, Int.reduceBNe, zero_add', not_true_eq_false, not_false_eq_true, Bool.true_eq_false, false_and, and_false, true_and, and_true, exists_eq_left', exists_and_left, Option.some.injEq, Cell.lst.injEq, Cell.dct.injEq, if_pos_true, reduceIte, Bool.false_eq_true, decide_true, decide_false, Bool.not_true, Bool.not_false, Bool.not_eq_true', Bool.and_true, Bool.true_and, decide_eq_true_eq, decide_eq_false_iff_not, ite_self, List.isEmpty_cons, List.isEmpty_nil, ss_nil', ss_cons', s_set', s_own', s_setF', s_unp', s_par2', par2K_e, s_par3', par3K_e, s_app', s_ext', extK_e, s_exp', s_csub', csubK_e, s_dset', dsetK_e, s_capp', cappK_e, s_aug', augK_a, augK_s, s_oset', osetK_e, s_ife', s_for', s_forc', forcK_e, s_whl', s_ret', s_ret0', s_pass', s_brk', s_cnt', l_comp', l_compc', compcK_e, l_lit', l_cat', l_rvd', l_lrv', l_ls2', l_list', l_srt', srtK_e, l_srr', srrK_e, l_lrg1', l_lrg2', lrgK_e, l_rep', repK_e, setM_nil, setM_cons, Int.toNat_natCast, List.length_map, exists_eq_left, $ls,*] $[$loc]?)
local macro_rules
  | `(tactic| simp_all_arith! [$ls,*]) => `(tactic| ((try simp only [wipeR_cons, wipeR_nil, eq_self, denE, denT, denEs, denO, denC, denI, bindT_nm, bindT_tp, bindT_tl, bindTs_nil, bindTs_cons, varD_0, varD_s, varM_own0, varM_dat0, varM_s, varO_0, varO_s, varL_own0, varL_ref0, varL_s, sz, cp1, cp2, cp3, cp4, cp5, cp6, cp7, cp8, cp9, cp10, cp11, cp12, cp15, cp18, add_i, add_t, add_l, add_s, add_b, sub_b, sub_i, mul_i, mul_t, mul_l, fdiv_i, mod_i, pow_i, shl_i, eq_r, ne_r, inn_t, nin_t, inn_l, nin_l, lt_r, lt_tt, le_r, gt_r, ge_r, is_n, isn_n, is_b, isn_b, isNon_n, isNon_i, isNon_t, isNon_l, isNon_b, isNon_s, tru_n, tru_b, tru_i, tru_t, tru_l, ix_t, ix_l, ix_c, ix_r, cellAt_l, cellL_l, lstD_l, lstD_r, sqD_t, sqD_l, sl_t, sl_l, sl_c, sl_r, rev_t, rev_l, len_t, len_l, len_c, len_r, tup_t, tup_l, tup_r, sum_t, sum_l, sum_r, min_t, min_l, max_t, max_l, min_2, max_2, min_3, repr_r, str_ri, abs_i, int_i, int_b, all_l, any_l, ty_bb, ty_bi, ty_bn, ty_bt, ty_ss, ty_sn, ty_si, ty_sb, ty_ii, ty_ib, ty_in, ty_it, ty_tt, ty_tn, ty_ti, ty_tb, ty_ll, ty_lt, ty_is, ty_il, ty_bs, ty_blst, ty_st, ty_sl, ty_ts, ty_tl, ty_ln, ty_li, ty_lb, ty_ls, intsOf_map, boolsOf_map, pair_Cmp, int_Cmp, bl_Cmp, non_Cmp, ints_Cmp, intst_Cmp, eqv_int, eqv_bl, eqv_ints, eqv_intst, List.map_cons, List.map_nil, List.replicate_succ, List.replicate_zero, List.cons_append, List.nil_append, List.set_cons_zero, List.set_cons_succ, List.length_cons, List.length_nil, List.getElem?_cons_zero, List.getElem?_cons_succ, List.eraseIdx_cons_zero, Nat.reduceSub, Nat.reduceAdd, Nat.reduceLT, Nat.reduceLeDiff, Nat.reducePow, Nat.reduceEqDiff, Nat.reduceMul, Int.reducePow, Int.reduceToNat, Int.reduceMul, Int.reduceAdd, Int.reduceSub, Int.reduceNeg, Int.reduceLT, Int.reduceLE, Int.reduceEq, Int.reduceBEq, Int.reduceBNe, zero_add', not_true_eq_false, not_false_eq_true, Bool.true_eq_false, false_and, and_false, true_and, and_true, exists_eq_left', exists_and_left, Option.some.injEq, Cell.lst.injEq, Cell.dct.injEq, if_pos_true, reduceIte, Bool.false_eq_true, decide_true, decide_false, Bool.not_true, Bool.not_false, Bool.not_eq_true', Bool.and_true, Bool.true_and, decide_eq_true_eq, decide_eq_false_iff_not, ite_self, List.isEmpty_cons, List.isEmpty_nil, ss_nil', ss_cons', s_set', s_own', s_setF', s_unp', s_par2', par2K_e, s_par3', par3K_e, s_app', s_ext', extK_e, s_exp', s_csub', csubK_e, s_dset', dsetK_e, s_capp', cappK_e, s_aug', augK_a, augK_s, s_oset', osetK_e, s_ife', s_for', s_forc', forcK_e, s_whl', s_ret', s_ret0', s_pass', s_brk', s_cnt', l_comp', l_compc', compcK_e, l_lit', l_cat', l_rvd', l_lrv', l_ls2', l_list', l_srt', srtK_e, l_srr', srrK_e, l_lrg1', l_lrg2', lrgK_e, l_rep', repK_e, setM_nil, setM_cons, Int.toNat_natCast, List.length_map, exists_eq_left, $ls,*]); (repeat ((with_reducible (first | refine blk_of ?_ | refine turn_of ?_ | refine tst_of ?_)); (try simp only [wipeR_cons, wipeR_nil, eq_self, denE, denT, denEs, denO, denC, denI, bindT_nm, bindT_tp, bindT_tl, bindTs_nil, bindTs_cons, varD_0, varD_s, varM_own0, varM_dat0, varM_s, varO_0, varO_s, varL_own0, varL_ref0, varL_s, sz, cp1, cp2, cp3, cp4, cp5, cp6, cp7, cp8, cp9, cp10, cp11, cp12, cp15, cp18, add_i, add_t, add_l, add_s, add_b, sub_b, sub_i, mul_i, mul_t, mul_l, fdiv_i, mod_i, pow_i, shl_i, eq_r, ne_r, inn_t, nin_t, inn_l, nin_l, lt_r, lt_tt, le_r, gt_r, ge_r, is_n, isn_n, is_b, isn_b, isNon_n, isNon_i, isNon_t, isNon_l, isNon_b, isNon_s, tru_n, tru_b, tru_i, tru_t, tru_l, ix_t, ix_l, ix_c, ix_r, cellAt_l, cellL_l, lstD_l, lstD_r, sqD_t, sqD_l, sl_t, sl_l, sl_c, sl_r, rev_t, rev_l, len_t, len_l, len_c, len_r, tup_t, tup_l, tup_r, sum_t, sum_l, sum_r, min_t, min_l, max_t, max_l, min_2, max_2, min_3, repr_r, str_ri, abs_i, int_i, int_b, all_l, any_l, ty_bb, ty_bi, ty_bn, ty_bt, ty_ss, ty_sn, ty_si, ty_sb, ty_ii, ty_ib, ty_in, ty_it, ty_tt, ty_tn, ty_ti, ty_tb, ty_ll, ty_lt, ty_is, ty_il, ty_bs, ty_blst, ty_st, ty_sl, ty_ts, ty_tl, ty_ln, ty_li, ty_lb, ty_ls, intsOf_map, boolsOf_map, pair_Cmp, int_Cmp, bl_Cmp, non_Cmp, ints_Cmp, intst_Cmp, eqv_int, eqv_bl, eqv_ints, eqv_intst, List.map_cons, List.map_nil, List.replicate_succ, List.replicate_zero, List.cons_append, List.nil_append, List.set_cons_zero, List.set_cons_succ, List.length_cons, List.length_nil, List.getElem?_cons_zero, List.getElem?_cons_succ, List.eraseIdx_cons_zero, Nat.reduceSub, Nat.reduceAdd, Nat.reduceLT, Nat.reduceLeDiff, Nat.reducePow, Nat.reduceEqDiff, Nat.reduceMul, Int.reducePow, Int.reduceToNat, Int.reduceMul, Int.reduceAdd, Int.reduceSub, Int.reduceNeg, Int.reduceLT, Int.reduceLE, Int.reduceEq, Int.reduceBEq, Int.reduceBNe, zero_add', not_true_eq_false, not_false_eq_true, Bool.true_eq_false, false_and, and_false, true_and, and_true, exists_eq_left', exists_and_left, Option.some.injEq, Cell.lst.injEq, Cell.dct.injEq, if_pos_true, reduceIte, Bool.false_eq_true, decide_true, decide_false, Bool.not_true, Bool.not_false, Bool.not_eq_true', Bool.and_true, Bool.true_and, decide_eq_true_eq, decide_eq_false_iff_not, ite_self, List.isEmpty_cons, List.isEmpty_nil, ss_nil', ss_cons', s_set', s_own', s_setF', s_unp', s_par2', par2K_e, s_par3', par3K_e, s_app', s_ext', extK_e, s_exp', s_csub', csubK_e, s_dset', dsetK_e, s_capp', cappK_e, s_aug', augK_a, augK_s, s_oset', osetK_e, s_ife', s_for', s_forc', forcK_e, s_whl', s_ret', s_ret0', s_pass', s_brk', s_cnt', l_comp', l_compc', compcK_e, l_lit', l_cat', l_rvd', l_lrv', l_ls2', l_list', l_srt', srtK_e, l_srr', srrK_e, l_lrg1', l_lrg2', lrgK_e, l_rep', repK_e, setM_nil, setM_cons, Int.toNat_natCast, List.length_map, exists_eq_left, $ls,*])))))
def i_law_number : Def := ⟨2, 3,
  (.cons (.ife (.cmp .eq (.var 1) (.int 0)) (.cons (.ret (.call "_law_draw" (.cons (.var 0) (.cons (.int 4) .nil))))
  .nil) .nil)
  (.cons (.ife (.cmp .eq (.var 1) (.int 1)) (.cons (.ret (.bin .sub (.call "_law_draw" (.cons (.var 0) (.cons (.int 11) .nil))) (.int 5)))
  .nil) .nil)
  (.cons (.ife (.cmp .eq (.var 1) (.int 2)) (.cons (.ret (.int 3))
  .nil) .nil)
  (.cons (.set 2 (.bin .add (.bin .mul (.call "_law_draw" (.cons (.var 0) (.cons (.int 1000) .nil))) (.bin .pow (.int 10) (.int 6))) (.call "_law_draw" (.cons (.var 0) (.cons (.bin .pow (.int 10) (.int 6)) .nil)))))
  (.cons (.ret (.ix (.frz (.lit (.cons (.var 2) (.cons (.bin .sub (.int 0) (.var 2)) (.cons (.bin .pow (.int 10) (.int 9)) (.cons (.bin .sub (.int 0) (.bin .pow (.int 10) (.int 9))) .nil)))))) (.call "_law_draw" (.cons (.var 0) (.cons (.int 4) .nil)))))
  .nil)))))⟩
def i_law_links : Def := ⟨5, 11,
  (.cons (.own 5 (.lit .nil))
  (.cons (.for (.nm 6) (.rng1 (.var 1)) (.cons (.own 7 (.lit .nil))
  (.cons (.for (.nm 8) (.rng1 (.var 2)) (.cons (.set 9 (.cmp .lt (.call "_law_draw" (.cons (.var 0) (.cons (.int 10) .nil))) (.var 4)))
  (.cons (.set 10 (.call "_law_number" (.cons (.var 0) (.cons (.var 3) .nil))))
  (.cons (.app 7 (.ix (.frz (.lit (.cons (.var 10) (.cons .non .nil)))) (.blt .int (.cons (.var 9) .nil))))
  .nil))))
  (.cons (.app 5 (.blt .tuple (.cons (.mv 7) .nil)))
  .nil))))
  (.cons (.ret (.blt .tuple (.cons (.mv 5) .nil)))
  .nil)))⟩
def i_law_web_sized : Def := ⟨3, 11,
  (.cons (.set 3 (.call "_law_draw" (.cons (.var 0) (.cons (.int 4) .nil))))
  (.cons (.set 4 (.ix (.frz (.lit (.cons (.int 0) (.cons (.int 1) (.cons (.int 4) (.cons (.int 8) .nil)))))) (.call "_law_draw" (.cons (.var 0) (.cons (.int 4) .nil)))))
  (.cons (.set 5 (.blt .tuple (.cons (.frz (.comp [9] (.call "_law_number" (.cons (.var 0) (.cons (.var 3) .nil))) (.nm 9) (.rng1 (.var 1)) .no)) .nil)))
  (.cons (.set 6 (.blt .tuple (.cons (.frz (.comp [10] (.call "_law_number" (.cons (.var 0) (.cons (.var 3) .nil))) (.nm 10) (.rng1 (.var 2)) .no)) .nil)))
  (.cons (.set 7 (.call "_law_links" (.cons (.var 0) (.cons (.var 1) (.cons (.bin .sub (.var 2) (.int 1)) (.cons (.var 3) (.cons (.var 4) .nil)))))))
  (.cons (.set 8 (.call "_law_links" (.cons (.var 0) (.cons (.bin .sub (.var 1) (.int 1)) (.cons (.var 2) (.cons (.var 3) (.cons (.var 4) .nil)))))))
  (.cons (.ret (.tup (.cons (.var 5) (.cons (.var 7) (.cons (.var 8) (.cons (.var 6) .nil))))))
  .nil)))))))⟩
def i_law_web : Def := ⟨1, 4,
  (.cons (.set 1 (.call "_law_draw" (.cons (.var 0) (.cons (.int 8) .nil))))
  (.cons (.set 2 (.bin .add (.int 1) (.call "_law_draw" (.cons (.var 0) (.cons (.int 6) .nil)))))
  (.cons (.set 3 (.bin .add (.int 1) (.call "_law_draw" (.cons (.var 0) (.cons (.int 6) .nil)))))
  (.cons (.ife (.cmp .eq (.var 1) (.int 5)) (.cons (.unp (.tp (.cons (.nm 2) (.cons (.nm 3) .nil))) (.ix (.frz (.lit (.cons (.tup (.cons (.int 12) (.cons (.int 12) .nil))) (.cons (.tup (.cons (.int 12) (.cons (.var 3) .nil))) (.cons (.tup (.cons (.var 2) (.cons (.int 12) .nil))) .nil))))) (.call "_law_draw" (.cons (.var 0) (.cons (.int 3) .nil)))))
  .nil) .nil)
  (.cons (.ret (.call "_law_web_sized" (.cons (.var 0) (.cons (.var 2) (.cons (.var 3) .nil)))))
  .nil)))))⟩

def oD : Option Int → D
  | none => .non
  | some i => .int i
def rO (r : List (Option Int)) : D := .tup (r.map oD)
def lkD (t : List (List (Option Int))) : D := .tup (t.map rO)
def intsD (l : List Int) : D := .tup (l.map .int)
/-- rows of links -/
structure Lk (m w : Nat) (t : List (List (Option Int))) : Prop where
  h : t.length = m
  row : ∀ r ∈ t, r.length = w
  bd : ∀ r ∈ t, ∀ x, some x ∈ r → -1000000000 ≤ x ∧ x ≤ 1000000000
structure Web where
  ins : List Int
  rights : List (List (Option Int))
  ups : List (List (Option Int))
  outs : List Int
def webD (g : Web) : D := .tup [intsD g.ins, lkD g.rights, lkD g.ups, intsD g.outs]
/-- a web of m rows and w columns -/
structure WebOk (m w : Nat) (g : Web) : Prop where
  m1 : 1 ≤ m
  w1 : 1 ≤ w
  i : g.ins.length = m
  o : g.outs.length = w
  ib : ∀ x ∈ g.ins, -1000000000 ≤ x ∧ x ≤ 1000000000
  ob : ∀ x ∈ g.outs, -1000000000 ≤ x ∧ x ≤ 1000000000
  r : Lk m (w - 1) g.rights
  u : Lk (m - 1) w g.ups
section
variable {tb : List (String × Def)} {n : Nat} {a b : Addr} {C : CM} {P : D → CM → Prop} {ex : Exc → CM → Prop} {G : Ctx}
def NumR (ds : List D) (C : CM) (P : D → CM → Prop) : Prop := ∃ a b v, ds = [.ref a, .int v] ∧ Deck a b C ∧ ∀ x C', -1000000000 ≤ x → x ≤ 1000000000 → Deck a b C' → P (.int x) C'
theorem number_ok (hd : Sp tb "_law_draw" 1 DrawR) (hn : 1 ≤ n) (hD : Deck a b C) {v : Int} (k : ∀ x C', -1000000000 ≤ x → x ≤ 1000000000 → Deck a b C' → P (.int x) C') : denF ⟨Gm tb n, ex⟩ i_law_number [.ref a, .int v] C P := by
  refine ⟨rfl, ?_⟩
  simp_all_arith! [i_law_number]
  by_cases c0 : v = 0
  · simp_all_arith! [eq_true c0]
    refine use_draw hd hn hD (by decide) (by decide) fun u C1 u0 u1 hD1 _ => ?_
    exact ⟨C1, sub_refl _, k _ C1 (by omega) (by omega) hD1⟩
  · by_cases c1 : v = 1
    · simp_all_arith! [eq_false c0, eq_true c1]
      refine use_draw hd hn hD (by decide) (by decide) fun u C1 u0 u1 hD1 _ => ?_
      simp_all_arith! []
      exact ⟨C1, sub_refl _, k _ C1 (by omega) (by omega) hD1⟩
    · by_cases c2 : v = 2
      · simp_all_arith! [eq_false c0, eq_false c1, eq_true c2]
        exact ⟨C, sub_refl _, k _ C (by omega) (by omega) hD⟩
      · simp_all_arith! [eq_false c0, eq_false c1, eq_false c2]
        refine use_draw hd hn hD (by decide) (by decide) fun u C1 u0 u1 hD1 _ => ?_
        simp_all_arith! []
        refine ⟨B8.cmul_r _ _ (by decide), ?_⟩
        refine use_draw hd hn hD1 (by decide) (by decide) fun u2 C2 v0 v1 hD2 _ => ?_
        simp_all_arith! []
        refine use_draw hd hn hD2 (by decide) (by decide) fun u3 C3 w0 w1 hD3 _ => ?_
        simp_all_arith! []
        rcases (by omega : u3 = 0 ∨ u3 = 1 ∨ u3 = 2 ∨ u3 = 3) with rfl | rfl | rfl | rfl
        · simp_all_arith! [atI_0]
          exact ⟨C3, sub_refl _, k _ C3 (by omega) (by omega) hD3⟩
        · simp_all_arith! [atI_1]
          exact ⟨C3, sub_refl _, k _ C3 (by omega) (by omega) hD3⟩
        · simp_all_arith! [atI_2]
          exact ⟨C3, sub_refl _, k _ C3 (by omega) (by omega) hD3⟩
        · refine ⟨_, rfl, ?_⟩
          exact ⟨C3, sub_refl _, k _ C3 (by omega) (by omega) hD3⟩
def LinksR (ds : List D) (C : CM) (P : D → CM → Prop) : Prop := ∃ a b v l, ∃ m w : Nat, ds = [.ref a, .int (m : Int), .int (w : Int), .int v, .int l] ∧ m ≤ 100 ∧ w ≤ 100 ∧ Deck a b C ∧ ∀ t C', Lk m w t → Deck a b C' → P (lkD t) C'
theorem links_ok (hd : Sp tb "_law_draw" 1 DrawR) (hm : Sp tb "_law_number" 2 NumR) (hn : 2 ≤ n) {v l : Int} {m w : Nat} (hm1 : m ≤ 100) (hw1 : w ≤ 100) (hD : Deck a b C) (k : ∀ t C', Lk m w t → Deck a b C' → P (lkD t) C') : denF ⟨Gm tb n, ex⟩ i_law_links [.ref a, .int (m : Int), .int (w : Int), .int v, .int l] C P := by
  refine ⟨rfl, ?_⟩
  simp_all_arith! [i_law_links]
  refine ⟨by omega, by omega, ?_⟩
  simp_all_arith! [rangeD_map]
  refine for_m (fun i : Nat => .int (i : Int)) [5, 6, 7, 8, 9, 10] (fun done ys C' => ∃ (t : List (List (Option Int))) (x6 x7 x8 x9 x10 : Option Dv), ys = [some (.own (t.map rO)), x6, x7, x8, x9, x10] ∧ Lk done.length w t ∧ done.length ≤ m ∧ Deck a b C') [some (.own []), none, none, none, none, none] rfl ⟨[], _, _, _, _, _, rfl, ⟨rfl, fun _ h => absurd h (by simp), fun _ h => absurd h (by simp)⟩, Nat.zero_le _, hD⟩ (fun done i rest ys C' e ⟨t, x6, x7, x8, x9, x10, hy, ht, hl, hD'⟩ nx knx => ?_) fun ys C' ⟨t, x6, x7, x8, x9, x10, hy, ht, hl, hD'⟩ => ?_
  · subst hy
    have hlen : done.length + 1 ≤ m := by
      have := congrArg List.length e
      rw [List.length_range, List.length_append, List.length_cons] at this; omega
    simp_all_arith! []
    refine ⟨by omega, by omega, ?_⟩
    simp_all_arith! [rangeD_map]
    refine for_m (fun i : Nat => .int (i : Int)) [7, 8, 9, 10] (fun done2 ys C' => ∃ (r : List (Option Int)) (x8 x9 x10 : Option Dv), ys = [some (.own (r.map oD)), x8, x9, x10] ∧ r.length = done2.length ∧ done2.length ≤ w ∧ (∀ x, some x ∈ r → -1000000000 ≤ x ∧ x ≤ 1000000000) ∧ Deck a b C') [some (.own []), x8, x9, x10] rfl ⟨[], _, _, _, rfl, rfl, Nat.zero_le _, fun _ h => absurd h (by simp), hD'⟩ (fun done2 j rest2 ys C2 e2 ⟨r, y8, y9, y10, hy, hr, hl2, hb, hD2⟩ nx2 knx2 => ?_) fun ys C2 ⟨r, y8, y9, y10, hy, hr, hl2, hb, hD2⟩ => ?_
    · subst hy
      have hlen2 : done2.length + 1 ≤ w := by
        have := congrArg List.length e2
        rw [List.length_range, List.length_append, List.length_cons] at this; omega
      simp_all_arith! []
      refine use_draw hd (by omega) hD2 (by decide) (by decide) fun u C3 u0 u1 hD3 _ => ?_
      simp_all_arith! []
      refine hm n hn _ _ _ _ ⟨a, b, v, rfl, hD3, fun x C4 x0 x1 hD4 => ?_⟩
      simp_all_arith! []
      by_cases c : u < l
      · simp_all_arith! [eq_true c, atI_1]
        refine ⟨by rw [hr]; omega, ?_⟩
        have em : r.map oD ++ [D.non] = (r ++ [none]).map oD := by rw [List.map_append]; rfl
        rw [em]
        exact knx2 [some (.own ((r ++ [none]).map oD)), _, _, _] C4 ⟨r ++ [none], _, _, _, rfl, by rw [List.length_append, List.length_append, hr]; rfl, by rw [List.length_append, List.length_singleton]; exact hlen2, fun x hx => hb x (by simpa using hx), hD4⟩
      · simp_all_arith! [eq_false c, atI_0]
        refine ⟨by rw [hr]; omega, ?_⟩
        have em : r.map oD ++ [D.int x] = (r ++ [some x]).map oD := by rw [List.map_append]; rfl
        rw [em]
        exact knx2 [some (.own ((r ++ [some x]).map oD)), _, _, _] C4 ⟨r ++ [some x], _, _, _, rfl, by rw [List.length_append, List.length_append, hr]; rfl, by rw [List.length_append, List.length_singleton]; exact hlen2, fun y hy => by
          rcases List.mem_append.mp hy with q | q
          · exact hb y q
          · cases (Option.some.inj (List.mem_singleton.mp q)); exact ⟨x0, x1⟩, hD4⟩
    · subst hy
      simp_all_arith! []
      refine ⟨by rw [ht.h]; omega, ?_⟩
      have em : t.map rO ++ [D.tup (r.map oD)] = (t ++ [r]).map rO := by rw [List.map_append]; rfl
      rw [em]
      exact knx [some (.own ((t ++ [r]).map rO)), _, _, _, _, _] C2 ⟨t ++ [r], _, _, _, _, _, rfl, ⟨by rw [List.length_append, List.length_append, ht.h]; rfl, fun q hq => by
          rcases List.mem_append.mp hq with q' | q'
          · exact ht.row q q'
          · rw [List.mem_singleton.mp q', hr, List.length_range], fun q hq x hx => by
          rcases List.mem_append.mp hq with q' | q'
          · exact ht.bd q q' x hx
          · rw [List.mem_singleton.mp q'] at hx; exact hb x hx⟩, by rw [List.length_append, List.length_singleton]; exact hlen, hD2⟩
  · subst hy
    simp_all_arith! []
    rw [List.length_range] at ht
    exact ⟨C', sub_refl _, k t C' ht hD'⟩
def SizedR (ds : List D) (C : CM) (P : D → CM → Prop) : Prop := ∃ a b, ∃ m w : Nat, ds = [.ref a, .int (m : Int), .int (w : Int)] ∧ 1 ≤ m ∧ m ≤ 100 ∧ 1 ≤ w ∧ w ≤ 100 ∧ Deck a b C ∧ ∀ g C', WebOk m w g → Deck a b C' → P (webD g) C'
theorem sized_ok (hd : Sp tb "_law_draw" 1 DrawR) (hm : Sp tb "_law_number" 2 NumR) (hl : Sp tb "_law_links" 3 LinksR) (hn : 3 ≤ n) {m w : Nat} (m1 : 1 ≤ m) (m2 : m ≤ 100) (w1 : 1 ≤ w) (w2 : w ≤ 100) (hD : Deck a b C) (k : ∀ g C', WebOk m w g → Deck a b C' → P (webD g) C') : denF ⟨Gm tb n, ex⟩ i_law_web_sized [.ref a, .int (m : Int), .int (w : Int)] C P := by
  refine ⟨rfl, ?_⟩
  have em : (m : Int) - 1 = ((m - 1 : Nat) : Int) := by omega
  have ew : (w : Int) - 1 = ((w - 1 : Nat) : Int) := by omega
  simp_all_arith! [i_law_web_sized]
  refine use_draw hd (by omega) hD (by decide) (by decide) fun v C1 v0 v1 hD1 _ => ?_
  simp_all_arith! []
  refine use_draw hd (by omega) hD1 (by decide) (by decide) fun u C2 u0 u1 hD2 _ => ?_
  obtain ⟨l, el⟩ : ∃ l : Int, atI [D.int 0, D.int 1, D.int 4, D.int 8] u = some (.int l) := by
    rcases (by omega : u = 0 ∨ u = 1 ∨ u = 2 ∨ u = 3) with rfl | rfl | rfl | rfl
    · exact ⟨_, rfl⟩
    · exact ⟨_, rfl⟩
    · exact ⟨_, rfl⟩
    · exact ⟨_, rfl⟩
  simp_all_arith! [el]
  refine ⟨by omega, by omega, ?_⟩
  simp_all_arith! [rangeD_map]
  refine comp_all (fun C => Deck a b C) (fun x : Int => -1000000000 ≤ x ∧ x ≤ 1000000000) D.int (by rw [List.length_map, List.length_range, sz]; omega) hD2 (fun d hdm C3 hD3 K kK => ?_) fun is C3 il iq hD3 => ?_
  · simp_all_arith! []
    exact hm n (by omega) _ _ _ _ ⟨a, b, v, rfl, hD3, fun x C4 x0 x1 hD4 => kK x C4 ⟨x0, x1⟩ hD4⟩
  · simp_all_arith! []
    refine ⟨by omega, by omega, ?_⟩
    simp_all_arith! [rangeD_map]
    refine comp_all (fun C => Deck a b C) (fun x : Int => -1000000000 ≤ x ∧ x ≤ 1000000000) D.int (by rw [List.length_map, List.length_range, sz]; omega) hD3 (fun d hdm C4 hD4 K kK => ?_) fun os C4 ol oq hD4 => ?_
    · simp_all_arith! []
      exact hm n (by omega) _ _ _ _ ⟨a, b, v, rfl, hD4, fun x C4 x0 x1 hD4 => kK x C4 ⟨x0, x1⟩ hD4⟩
    · simp_all_arith! [ew]
      refine hl n hn _ _ _ _ ⟨a, b, v, l, m, w - 1, rfl, m2, by omega, hD4, fun rs C5 hr hD5 => ?_⟩
      simp_all_arith! [em]
      refine hl n hn _ _ _ _ ⟨a, b, v, l, m - 1, w, rfl, by omega, w2, hD5, fun us C6 hu hD6 => ?_⟩
      simp_all_arith! []
      rw [List.length_map, List.length_range] at il ol
      exact ⟨C6, sub_refl _, k ⟨is, rs, us, os⟩ C6 ⟨m1, w1, il, ol, iq, oq, hr, hu⟩ hD6⟩
def DrawnWebR (ds : List D) (C : CM) (P : D → CM → Prop) : Prop := ∃ a b, ds = [.ref a] ∧ Deck a b C ∧ ∀ m w g C', m ≤ 12 → w ≤ 12 → WebOk m w g → Deck a b C' → P (webD g) C'
theorem web_ok (hd : Sp tb "_law_draw" 1 DrawR) (hs : Sp tb "_law_web_sized" 4 SizedR) (hn : 4 ≤ n) (hD : Deck a b C) (k : ∀ m w g C', m ≤ 12 → w ≤ 12 → WebOk m w g → Deck a b C' → P (webD g) C') : denF ⟨Gm tb n, ex⟩ i_law_web [.ref a] C P := by
  refine ⟨rfl, ?_⟩
  simp_all_arith! [i_law_web]
  refine use_draw hd (by omega) hD (by decide) (by decide) fun gr C1 g0 g1 hD1 _ => ?_
  simp_all_arith! []
  refine use_draw hd (by omega) hD1 (by decide) (by decide) fun m' C2 m0 m1 hD2 _ => ?_
  simp_all_arith! []
  refine use_draw hd (by omega) hD2 (by decide) (by decide) fun w' C3 w0 w1 hD3 _ => ?_
  obtain ⟨m, em⟩ : ∃ m : Nat, 1 + m' = (m : Int) := ⟨(1 + m').toNat, by omega⟩
  obtain ⟨w, ew⟩ : ∃ w : Nat, 1 + w' = (w : Int) := ⟨(1 + w').toNat, by omega⟩
  simp_all_arith! [em, ew]
  by_cases c : gr = 5
  · simp_all_arith! [eq_true c]
    refine use_draw hd (by omega) hD3 (by decide) (by decide) fun u C4 u0 u1 hD4 _ => ?_
    rcases (by omega : u = 0 ∨ u = 1 ∨ u = 2) with rfl | rfl | rfl
    · simp_all_arith! [atI_0]
      exact hs n hn _ _ _ _ ⟨a, b, 12, 12, rfl, by decide, by decide, by decide, by decide, hD4, fun g C5 hg hD5 => ⟨C5, sub_refl _, k 12 12 g C5 (by omega) (by omega) hg hD5⟩⟩
    · simp_all_arith! [atI_1]
      exact hs n hn _ _ _ _ ⟨a, b, 12, w, rfl, by decide, by decide, by omega, by omega, hD4, fun g C5 hg hD5 => ⟨C5, sub_refl _, k 12 w g C5 (by omega) (by omega) hg hD5⟩⟩
    · simp_all_arith! [atI_2]
      exact hs n hn _ _ _ _ ⟨a, b, m, 12, rfl, by omega, by omega, by decide, by decide, hD4, fun g C5 hg hD5 => ⟨C5, sub_refl _, k m 12 g C5 (by omega) (by omega) hg hD5⟩⟩
  · simp_all_arith! [eq_false c]
    exact hs n hn _ _ _ _ ⟨a, b, m, w, rfl, by omega, by omega, by omega, by omega, hD3, fun g C5 hg hD5 => ⟨C5, sub_refl _, k m w g C5 (by omega) (by omega) hg hD5⟩⟩
end
theorem sp_webs {tb : List (String × Def)} (h0 : tb.lookup "_law_draw" = some i_law_draw) (h1 : tb.lookup "_law_number" = some i_law_number) (h2 : tb.lookup "_law_links" = some i_law_links) (h3 : tb.lookup "_law_web_sized" = some i_law_web_sized) (h4 : tb.lookup "_law_web" = some i_law_web) : Sp tb "_law_number" 2 NumR ∧ Sp tb "_law_web_sized" 4 SizedR ∧ Sp tb "_law_web" 5 DrawnWebR := by
  have hd := sp_draw h0
  have hm : Sp tb "_law_number" 2 NumR := sp_mk h1 fun n hn ds C P ex ⟨a, b, v, e, hD, k⟩ => by subst e; exact number_ok hd hn hD k
  have hl : Sp tb "_law_links" 3 LinksR := sp_mk h2 fun n hn ds C P ex ⟨a, b, v, l, m, w, e, q1, q2, hD, k⟩ => by subst e; exact links_ok hd hm hn q1 q2 hD k
  have hs : Sp tb "_law_web_sized" 4 SizedR := sp_mk h3 fun n hn ds C P ex ⟨a, b, m, w, e, q1, q2, q3, q4, hD, k⟩ => by subst e; exact sized_ok hd hm hl hn q1 q2 q3 q4 hD k
  exact ⟨hm, hs, sp_mk h4 fun n hn ds C P ex ⟨a, b, e, hD, k⟩ => by subst e; exact web_ok hd hs hn hD k⟩
end M61.W47

set_option Elab.async false
set_option linter.all false
set_option autoImplicit false
set_option maxRecDepth 100000
/-! P55: the table of a web, by the program. -/
namespace M61.Wb
open PySem PySem.Spec PyProof.Rows L2
local macro_rules
  | `(tactic| simp_arith! [$ls,*] $[$loc:location]?) => `(tactic| try simp only [wipeR_cons, wipeR_nil, eq_self, denE, denT, denEs, denO, denC, denI, bindT_nm, bindT_tp, bindT_tl, bindTs_nil, bindTs_cons, varD_0, varD_s, varM_own0, varM_dat0, varM_s, varO_0, varO_s, varL_own0, varL_ref0, varL_s, sz, cp1, cp2, cp3, cp4, cp5, cp6, cp7, cp8, cp9, cp10, cp11, cp12, cp15, cp18, add_i, add_t, add_l, add_s, add_b, sub_b, sub_i, mul_i, mul_t, mul_l, fdiv_i, mod_i, pow_i, shl_i, eq_r, ne_r, inn_t, nin_t, inn_l, nin_l, lt_r, lt_tt, le_r, gt_r, ge_r, is_n, isn_n, is_b, isn_b, isNon_n, isNon_i, isNon_t, isNon_l, isNon_b, isNon_s, tru_n, tru_b, tru_i, tru_t, tru_l, ix_t, ix_l, ix_c, ix_r, cellAt_l, cellL_l, lstD_l, lstD_r, sqD_t, sqD_l, sl_t, sl_l, sl_c, sl_r, rev_t, rev_l, len_t, len_l, len_c, len_r, tup_t, tup_l, tup_r, sum_t, sum_l, sum_r, min_t, min_l, max_t, max_l, min_2, max_2, min_3, repr_r, str_ri, abs_i, int_i, int_b, all_l, any_l, ty_bb, ty_bi, ty_bn, ty_bt, ty_ss, ty_sn, ty_si, ty_sb, ty_ii, ty_ib, ty_in, ty_it, ty_tt, ty_tn, ty_ti, ty_tb, ty_ll, ty_lt, ty_is, ty_il, ty_bs, ty_blst, ty_st, ty_sl, ty_ts, ty_tl, ty_ln, ty_li, ty_lb, ty_ls, intsOf_map, boolsOf_map, pair_Cmp, int_Cmp, bl_Cmp, non_Cmp, ints_Cmp, intst_Cmp, eqv_int, eqv_bl, eqv_ints, eqv_intst, List.map_cons, List.map_nil, List.replicate_succ, List.replicate_zero, List.cons_append, List.nil_append, List.set_cons_zero, List.set_cons_succ, List.length_cons, List.length_nil, List.getElem?_cons_zero, List.getElem?_cons_succ, List.eraseIdx_cons_zero, Nat.reduceSub, Nat.reduceAdd, Nat.reduceLT, Nat.reduceLeDiff, Nat.reducePow, Nat.reduceEqDiff, Nat.reduceMul, Int.reducePow, Int.reduceToNat, Int.reduceMul, Int.reduceAdd, Int.reduceSub, Int.reduceNeg, Int.reduceLT, Int.reduceLE, Int.reduceEq, Int.reduceBEq, Int.reduceBNe, zero_add', not_true_eq_false, not_false_eq_true, Bool.true_eq_false, false_and, and_false, true_and, and_true, exists_eq_left', exists_and_left, Option.some.injEq, Cell.lst.injEq, Cell.dct.injEq, if_pos_true, reduceIte, Bool.false_eq_true, decide_true, decide_false, Bool.not_true, Bool.not_false, Bool.not_eq_true', Bool.and_true, Bool.true_and, decide_eq_true_eq, decide_eq_false_iff_not, ite_self, List.isEmpty_cons, List.isEmpty_nil, ss_nil', ss_cons', s_set', s_own', s_setF', s_unp', s_par2', par2K_e, s_par3', par3K_e, s_app', s_ext', extK_e, s_exp', s_csub', csubK_e, s_dset', dsetK_e, s_capp', cappK_e, s_aug', augK_a, augK_s, s_oset', osetK_e, s_ife', s_for', s_forc', forcK_e, s_whl', s_ret', s_ret0', s_pass', s_brk', s_cnt', l_comp', l_compc', compcK_e, l_lit', l_cat', l_rvd', l_lrv', l_ls2', l_list', l_srt', srtK_e, l_srr', srrK_e, l_lrg1', l_lrg2', lrgK_e, l_rep', repK_e, setM_nil, setM_cons, Int.toNat_natCast, List.length_map, exists_eq_left, $ls,*] $[$loc]?)
local macro_rules
  | `(tactic| simp_all_arith! [$ls,*]) => `(tactic| ((try simp only [wipeR_cons, wipeR_nil, eq_self, denE, denT, denEs, denO, denC, denI, bindT_nm, bindT_tp, bindT_tl, bindTs_nil, bindTs_cons, varD_0, varD_s, varM_own0, varM_dat0, varM_s, varO_0, varO_s, varL_own0, varL_ref0, varL_s, sz, cp1, cp2, cp3, cp4, cp5, cp6, cp7, cp8, cp9, cp10, cp11, cp12, cp15, cp18, add_i, add_t, add_l, add_s, add_b, sub_b, sub_i, mul_i, mul_t, mul_l, fdiv_i, mod_i, pow_i, shl_i, eq_r, ne_r, inn_t, nin_t, inn_l, nin_l, lt_r, lt_tt, le_r, gt_r, ge_r, is_n, isn_n, is_b, isn_b, isNon_n, isNon_i, isNon_t, isNon_l, isNon_b, isNon_s, tru_n, tru_b, tru_i, tru_t, tru_l, ix_t, ix_l, ix_c, ix_r, cellAt_l, cellL_l, lstD_l, lstD_r, sqD_t, sqD_l, sl_t, sl_l, sl_c, sl_r, rev_t, rev_l, len_t, len_l, len_c, len_r, tup_t, tup_l, tup_r, sum_t, sum_l, sum_r, min_t, min_l, max_t, max_l, min_2, max_2, min_3, repr_r, str_ri, abs_i, int_i, int_b, all_l, any_l, ty_bb, ty_bi, ty_bn, ty_bt, ty_ss, ty_sn, ty_si, ty_sb, ty_ii, ty_ib, ty_in, ty_it, ty_tt, ty_tn, ty_ti, ty_tb, ty_ll, ty_lt, ty_is, ty_il, ty_bs, ty_blst, ty_st, ty_sl, ty_ts, ty_tl, ty_ln, ty_li, ty_lb, ty_ls, intsOf_map, boolsOf_map, pair_Cmp, int_Cmp, bl_Cmp, non_Cmp, ints_Cmp, intst_Cmp, eqv_int, eqv_bl, eqv_ints, eqv_intst, List.map_cons, List.map_nil, List.replicate_succ, List.replicate_zero, List.cons_append, List.nil_append, List.set_cons_zero, List.set_cons_succ, List.length_cons, List.length_nil, List.getElem?_cons_zero, List.getElem?_cons_succ, List.eraseIdx_cons_zero, Nat.reduceSub, Nat.reduceAdd, Nat.reduceLT, Nat.reduceLeDiff, Nat.reducePow, Nat.reduceEqDiff, Nat.reduceMul, Int.reducePow, Int.reduceToNat, Int.reduceMul, Int.reduceAdd, Int.reduceSub, Int.reduceNeg, Int.reduceLT, Int.reduceLE, Int.reduceEq, Int.reduceBEq, Int.reduceBNe, zero_add', not_true_eq_false, not_false_eq_true, Bool.true_eq_false, false_and, and_false, true_and, and_true, exists_eq_left', exists_and_left, Option.some.injEq, Cell.lst.injEq, Cell.dct.injEq, if_pos_true, reduceIte, Bool.false_eq_true, decide_true, decide_false, Bool.not_true, Bool.not_false, Bool.not_eq_true', Bool.and_true, Bool.true_and, decide_eq_true_eq, decide_eq_false_iff_not, ite_self, List.isEmpty_cons, List.isEmpty_nil, ss_nil', ss_cons', s_set', s_own', s_setF', s_unp', s_par2', par2K_e, s_par3', par3K_e, s_app', s_ext', extK_e, s_exp', s_csub', csubK_e, s_dset', dsetK_e, s_capp', cappK_e, s_aug', augK_a, augK_s, s_oset', osetK_e, s_ife', s_for', s_forc', forcK_e, s_whl', s_ret', s_ret0', s_pass', s_brk', s_cnt', l_comp', l_compc', compcK_e, l_lit', l_cat', l_rvd', l_lrv', l_ls2', l_list', l_srt', srtK_e, l_srr', srrK_e, l_lrg1', l_lrg2', lrgK_e, l_rep', repK_e, setM_nil, setM_cons, Int.toNat_natCast, List.length_map, exists_eq_left, $ls,*]); (repeat ((with_reducible (first | refine blk_of ?_ | refine turn_of ?_ | refine tst_of ?_)); (try simp only [wipeR_cons, wipeR_nil, eq_self, denE, denT, denEs, denO, denC, denI, bindT_nm, bindT_tp, bindT_tl, bindTs_nil, bindTs_cons, varD_0, varD_s, varM_own0, varM_dat0, varM_s, varO_0, varO_s, varL_own0, varL_ref0, varL_s, sz, cp1, cp2, cp3, cp4, cp5, cp6, cp7, cp8, cp9, cp10, cp11, cp12, cp15, cp18, add_i, add_t, add_l, add_s, add_b, sub_b, sub_i, mul_i, mul_t, mul_l, fdiv_i, mod_i, pow_i, shl_i, eq_r, ne_r, inn_t, nin_t, inn_l, nin_l, lt_r, lt_tt, le_r, gt_r, ge_r, is_n, isn_n, is_b, isn_b, isNon_n, isNon_i, isNon_t, isNon_l, isNon_b, isNon_s, tru_n, tru_b, tru_i, tru_t, tru_l, ix_t, ix_l, ix_c, ix_r, cellAt_l, cellL_l, lstD_l, lstD_r, sqD_t, sqD_l, sl_t, sl_l, sl_c, sl_r, rev_t, rev_l, len_t, len_l, len_c, len_r, tup_t, tup_l, tup_r, sum_t, sum_l, sum_r, min_t, min_l, max_t, max_l, min_2, max_2, min_3, repr_r, str_ri, abs_i, int_i, int_b, all_l, any_l, ty_bb, ty_bi, ty_bn, ty_bt, ty_ss, ty_sn, ty_si, ty_sb, ty_ii, ty_ib, ty_in, ty_it, ty_tt, ty_tn, ty_ti, ty_tb, ty_ll, ty_lt, ty_is, ty_il, ty_bs, ty_blst, ty_st, ty_sl, ty_ts, ty_tl, ty_ln, ty_li, ty_lb, ty_ls, intsOf_map, boolsOf_map, pair_Cmp, int_Cmp, bl_Cmp, non_Cmp, ints_Cmp, intst_Cmp, eqv_int, eqv_bl, eqv_ints, eqv_intst, List.map_cons, List.map_nil, List.replicate_succ, List.replicate_zero, List.cons_append, List.nil_append, List.set_cons_zero, List.set_cons_succ, List.length_cons, List.length_nil, List.getElem?_cons_zero, List.getElem?_cons_succ, List.eraseIdx_cons_zero, Nat.reduceSub, Nat.reduceAdd, Nat.reduceLT, Nat.reduceLeDiff, Nat.reducePow, Nat.reduceEqDiff, Nat.reduceMul, Int.reducePow, Int.reduceToNat, Int.reduceMul, Int.reduceAdd, Int.reduceSub, Int.reduceNeg, Int.reduceLT, Int.reduceLE, Int.reduceEq, Int.reduceBEq, Int.reduceBNe, zero_add', not_true_eq_false, not_false_eq_true, Bool.true_eq_false, false_and, and_false, true_and, and_true, exists_eq_left', exists_and_left, Option.some.injEq, Cell.lst.injEq, Cell.dct.injEq, if_pos_true, reduceIte, Bool.false_eq_true, decide_true, decide_false, Bool.not_true, Bool.not_false, Bool.not_eq_true', Bool.and_true, Bool.true_and, decide_eq_true_eq, decide_eq_false_iff_not, ite_self, List.isEmpty_cons, List.isEmpty_nil, ss_nil', ss_cons', s_set', s_own', s_setF', s_unp', s_par2', par2K_e, s_par3', par3K_e, s_app', s_ext', extK_e, s_exp', s_csub', csubK_e, s_dset', dsetK_e, s_capp', cappK_e, s_aug', augK_a, augK_s, s_oset', osetK_e, s_ife', s_for', s_forc', forcK_e, s_whl', s_ret', s_ret0', s_pass', s_brk', s_cnt', l_comp', l_compc', compcK_e, l_lit', l_cat', l_rvd', l_lrv', l_ls2', l_list', l_srt', srtK_e, l_srr', srrK_e, l_lrg1', l_lrg2', lrgK_e, l_rep', repK_e, setM_nil, setM_cons, Int.toNat_natCast, List.length_map, exists_eq_left, $ls,*])))))
open M61.W47
def iby_link : Def := ⟨2, 2,
  (.cons (.ife (.or (.cmp .is (.var 0) .non) (.cmp .is (.var 1) .non)) (.cons (.ret .non)
  .nil) .nil)
  (.cons (.ret (.bin .add (.var 0) (.var 1)))
  .nil))⟩
def ilesser : Def := ⟨2, 2,
  (.cons (.ife (.cmp .is (.var 0) .non) (.cons (.ret (.var 1))
  .nil) .nil)
  (.cons (.ife (.cmp .is (.var 1) .non) (.cons (.ret (.var 0))
  .nil) .nil)
  (.cons (.ret (.blt .min2 (.cons (.var 0) (.cons (.var 1) .nil))))
  .nil)))⟩
def ilengths_to : Def := ⟨2, 13,
  (.cons (.unp (.tp (.cons (.nm 6) (.cons (.nm 7) (.cons (.nm 8) (.cons (.nm 9) .nil))))) (.var 0))
  (.cons (.own 2 (.cat (.bin .mul (.frz (.lit (.cons .non .nil))) (.var 1)) (.frz (.lit (.cons (.int 0) .nil)))))
  (.cons (.for (.nm 3) (.rng3 (.bin .sub (.var 1) (.int 1)) (.neg (.int 1)) (.neg (.int 1))) (.cons (.oset 2 (.var 3) (.call "by_link" (.cons (.ix (.ix (.var 7) (.int 0)) (.var 3)) (.cons (.oix 2 (.bin .add (.var 3) (.int 1))) .nil))))
  .nil))
  (.cons (.own 4 (.lit (.cons (.mv 2) .nil)))
  (.cons (.for (.nm 5) (.rng2 (.int 1) (.blt .len (.cons (.var 6) .nil))) (.cons (.own 10 (.comp [11, 12] (.call "by_link" (.cons (.var 11) (.cons (.var 12) .nil))) (.tp (.cons (.nm 11) (.cons (.nm 12) .nil))) (.zip (.ix (.var 8) (.bin .sub (.var 5) (.int 1))) (.oix 4 (.bin .sub (.var 5) (.int 1)))) .no))
  (.cons (.for (.nm 3) (.rng3 (.bin .sub (.var 1) (.int 1)) (.neg (.int 1)) (.neg (.int 1))) (.cons (.oset 10 (.var 3) (.call "lesser" (.cons (.oix 10 (.var 3)) (.cons (.call "by_link" (.cons (.ix (.ix (.var 7) (.var 5)) (.var 3)) (.cons (.oix 10 (.bin .add (.var 3) (.int 1))) .nil))) .nil))))
  .nil))
  (.cons (.app 4 (.mv 10))
  .nil))))
  (.cons (.ret (.mv 4))
  .nil))))))⟩
def iweb_table : Def := ⟨1, 11,
  (.cons (.unp (.tp (.cons (.nm 2) (.cons (.nm 3) (.cons (.nm 4) (.cons (.nm 5) .nil))))) (.var 0))
  (.cons (.setF 1 (.comp [9] (.cel (.lit .nil)) (.nm 9) (.seq (.var 2)) .no))
  (.cons (.for (.tp (.cons (.nm 6) (.cons (.nm 7) .nil))) (.enum (.var 5)) (.cons (.set 8 (.call "lengths_to" (.cons (.var 0) (.cons (.var 6) .nil))))
  (.cons (.for (.tp (.cons (.nm 10) (.cons (.nm 9) .nil))) (.enum (.var 2)) (.cons (.capp (.ix (.var 1) (.var 10)) (.call "by_link" (.cons (.bin .add (.var 9) (.var 7)) (.cons (.ix (.ix (.var 8) (.var 10)) (.int 0)) .nil))))
  .nil))
  .nil)))
  (.cons (.ret (.blt .tuple (.cons (.frz (.comp [10] (.blt .tuple (.cons (.var 10) .nil)) (.nm 10) (.seq (.var 1)) .no)) .nil)))
  .nil))))⟩
/-- a web's shape -/
structure WebS (m w : Nat) (g : Web) : Prop where
  m1 : 1 ≤ m
  w1 : 1 ≤ w
  m2 : m ≤ 1000
  w2 : w ≤ 1000
  i : g.ins.length = m
  o : g.outs.length = w
  rh : g.rights.length = m
  rr : ∀ r ∈ g.rights, r.length = w - 1
  uh : g.ups.length = m - 1
  ur : ∀ r ∈ g.ups, r.length = w
theorem WebOk.s {m w : Nat} {g : Web} (h : WebOk m w g) (hm : m ≤ 1000) (hw : w ≤ 1000) : WebS m w g := ⟨h.m1, h.w1, hm, hw, h.i, h.o, h.r.h, h.r.row, h.u.h, h.u.row⟩
def atO (r : List (Option Int)) (k : Nat) : Option Int := (r[k]?).getD none
def rowO (t : List (List (Option Int))) (r : Nat) : List (Option Int) := (t[r]?).getD []
def lkAt (t : List (List (Option Int))) (r k : Nat) : Option Int := atO (rowO t r) k
def inI (l : List Int) (r : Nat) : Int := (l[r]?).getD 0
def gr (g : Web) : Gr := ⟨lkAt g.rights, lkAt g.ups⟩
theorem oD_n : oD none = .non := rfl
theorem oD_s (i : Int) : oD (some i) = .int i := rfl
theorem rowO_mem {t : List (List (Option Int))} {r : Nat} (h : r < t.length) : rowO t r ∈ t := by
  unfold rowO
  rw [List.getElem?_eq_getElem h]
  exact List.getElem_mem h
theorem at_row {t : List (List (Option Int))} {r : Nat} (h : r < t.length) : atI (t.map rO) (r : Int) = some (rO (rowO t r)) := by
  refine atI_nat ?_
  rw [List.getElem?_map]
  unfold rowO
  rw [List.getElem?_eq_getElem h]; rfl
def lO (r : List (Option Int)) : D := .lst (r.map oD)
theorem at_rowL {t : List (List (Option Int))} {r : Nat} (h : r < t.length) : atI (t.map lO) (r : Int) = some (lO (rowO t r)) := by
  refine atI_nat ?_
  rw [List.getElem?_map]
  unfold rowO
  rw [List.getElem?_eq_getElem h]; rfl
theorem at_ent {l : List (Option Int)} {k : Nat} (h : k < l.length) : atI (l.map oD) (k : Int) = some (oD (atO l k)) := by
  refine atI_nat ?_
  rw [List.getElem?_map]
  unfold atO
  rw [List.getElem?_eq_getElem h]; rfl
theorem at_int {l : List Int} {k : Nat} (h : k < l.length) : atI (l.map D.int) (k : Int) = some (.int (inI l k)) := by
  refine atI_nat ?_
  rw [List.getElem?_map]
  unfold inI
  rw [List.getElem?_eq_getElem h]; rfl
theorem atO_set_eq {l : List (Option Int)} {k : Nat} {o : Option Int} (h : k < l.length) : atO (l.set k o) k = o := by
  unfold atO
  rw [List.getElem?_set_self h]; rfl
theorem atO_set_ne {l : List (Option Int)} {k j : Nat} {o : Option Int} (h : k ≠ j) : atO (l.set k o) j = atO l j := by
  unfold atO
  rw [List.getElem?_set_ne h]
theorem range_at {m : Nat} {done rest : List Nat} {x : Nat} (e : List.range m = done ++ x :: rest) : x = done.length ∧ done.length < m := by
  have hl : (List.range m).length = done.length + (rest.length + 1) := by rw [e, List.length_append, List.length_cons]
  rw [List.length_range] at hl
  have : (List.range m)[done.length]? = some x := by rw [e, List.getElem?_append_right (Nat.le_refl _), Nat.sub_self]; rfl
  rw [List.getElem?_range (by omega)] at this
  exact ⟨(Option.some.inj this).symm, by omega⟩
theorem ixN_k {n j : Nat} (hj : j < n) : ixN n (j : Int) = some j := by
  unfold ixN
  rw [if_pos (by omega), if_pos (by omega), Int.toNat_natCast]
/-- down from the last but one -/
theorem rng_down (c : Nat) : rangeD ((c : Int) - 1) (-1) ((c : Int) - 1 - -1).toNat = (List.range c).map fun i : Nat => .int ((c - 1 - i : Nat) : Int) := by
  have e : ((c : Int) - 1 - -1).toNat = c := by omega
  rw [e]
  unfold rangeD
  refine List.map_congr_left fun i hi => ?_
  have := List.mem_range.mp hi
  congr 1; omega
theorem rng_from1 (c : Nat) : rangeD 1 1 ((c : Int) - 1).toNat = (List.range (c - 1)).map fun i : Nat => .int ((i + 1 : Nat) : Int) := by
  have e : ((c : Int) - 1).toNat = c - 1 := by omega
  rw [e]
  unfold rangeD
  refine List.map_congr_left fun i hi => ?_
  congr 1; omega
theorem flat_non (c : Nat) : (List.replicate c [D.non]).flatten = (List.replicate c (none : Option Int)).map oD := by
  induction c with
  | zero => rfl
  | succ c ih => rw [List.replicate_succ, List.flatten_cons, ih, List.replicate_succ]; rfl
section
variable {tb : List (String × Def)} {n : Nat} {C : CM} {P : D → CM → Prop} {ex : Exc → CM → Prop} {G : Ctx}
def ByR (ds : List D) (C : CM) (P : D → CM → Prop) : Prop := ∃ o p, ds = [oD o, oD p] ∧ P (oD (by' o p)) C
theorem by_ok {o p : Option Int} (k : P (oD (by' o p)) C) : denF G iby_link [oD o, oD p] C P := by
  refine ⟨rfl, ?_⟩
  cases o with
  | none =>
    simp_all_arith! [iby_link, oD_n]
    exact ⟨C, sub_refl _, k⟩
  | some x =>
    cases p with
    | none =>
      simp_all_arith! [iby_link, oD_n, oD_s]
      exact ⟨C, sub_refl _, k⟩
    | some y =>
      simp_all_arith! [iby_link, oD_s]
      exact ⟨C, sub_refl _, k⟩
def LesR (ds : List D) (C : CM) (P : D → CM → Prop) : Prop := ∃ o p, ds = [oD o, oD p] ∧ P (oD (les o p)) C
theorem les_ok {o p : Option Int} (k : P (oD (les o p)) C) : denF G ilesser [oD o, oD p] C P := by
  refine ⟨rfl, ?_⟩
  cases o with
  | none =>
    simp_all_arith! [ilesser, oD_n]
    exact ⟨C, sub_refl _, k⟩
  | some x =>
    cases p with
    | none =>
      simp_all_arith! [ilesser, oD_n, oD_s]
      exact ⟨C, sub_refl _, k⟩
    | some y =>
      simp_all_arith! [ilesser, oD_s]
      exact ⟨C, sub_refl _, k⟩
def LenR (ds : List D) (C : CM) (P : D → CM → Prop) : Prop := ∃ m w g c, ds = [webD g, .int ((c : Nat) : Int)] ∧ WebS m w g ∧ c < w ∧ ∀ rows : List (List (Option Int)), rows.length = m → (∀ r ∈ rows, r.length = c + 1) →
  (∀ r k, r < m → k ≤ c → To (gr g) r k c (lkAt rows r k)) → P (.lst (rows.map lO)) C
set_option maxHeartbeats 4000000 in
theorem len_ok (h1 : Sp tb "by_link" 1 ByR) (h2 : Sp tb "lesser" 1 LesR) (hn : 1 ≤ n) {m w : Nat} {g : Web} {c : Nat} (S : WebS m w g) (hc : c < w)
    (kk : ∀ rows : List (List (Option Int)), rows.length = m → (∀ r ∈ rows, r.length = c + 1) → (∀ r k, r < m → k ≤ c → To (gr g) r k c (lkAt rows r k)) → P (.lst (rows.map lO)) C) : denF ⟨Gm tb n, ex⟩ ilengths_to [webD g, .int (c : Int)] C P := by
  refine ⟨rfl, ?_⟩
  have m1 := S.m1
  have m2 := S.m2
  have w2 := S.w2
  have hrl : ∀ r, r < m → (rowO g.rights r).length = w - 1 := fun r hr => S.rr _ (rowO_mem (by rw [S.rh]; exact hr))
  have hul : ∀ r, r + 1 < m → (rowO g.ups r).length = w := fun r hr => S.ur _ (rowO_mem (by rw [S.uh]; omega))
  have hR : ∀ r, r < m → atI (g.rights.map rO) (r : Int) = some (rO (rowO g.rights r)) := fun r hr => at_row (by rw [S.rh]; exact hr)
  have hU : ∀ r, r + 1 < m → atI (g.ups.map rO) (r : Int) = some (rO (rowO g.ups r)) := fun r hr => at_row (by rw [S.uh]; omega)
  have hR0 : atI (g.rights.map rO) 0 = some (rO (rowO g.rights 0)) := hR 0 (by omega)
  have em : (g.ins.map D.int).length = m := by rw [List.length_map, S.i]
  simp_all_arith! [ilengths_to, webD, intsD, lkD]
  rw [flat_non]
  refine ⟨by omega, by omega, by omega, by rw [List.length_map, List.length_replicate]; omega, ?_⟩
  have em0 : (List.replicate c (none : Option Int)).map oD ++ [D.int 0] = (List.replicate c (none : Option Int) ++ [some 0]).map oD := by rw [List.map_append]; rfl
  rw [em0]
  simp_all_arith! []
  refine ⟨⟨by omega, by omega, by omega, by omega⟩, ?_⟩
  rw [rng_down]
  refine for_m (fun i : Nat => .int ((c - 1 - i : Nat) : Int)) [2, 3] (fun done ys C' => ∃ (L : List (Option Int)) (x3 : Option Dv), ys = [some (.own (L.map oD)), x3] ∧ L.length = c + 1 ∧ (∀ k, c - done.length ≤ k → k ≤ c → To (gr g) 0 k c (atO L k)) ∧ C' = C) [some (.own ((List.replicate c (none : Option Int) ++ [some 0]).map oD)), none] rfl ⟨_, _, rfl, by simp, fun k q1 q2 => ?_, rfl⟩ (fun done x rest ys C1 e ⟨L, x3, hy, hl, ht, hC⟩ nx knx => ?_) fun ys C1 ⟨L, x3, hy, hl, ht, hC⟩ => ?_
  · have : k = c := by simp only [List.length_nil] at q1; omega
    rw [this]
    have : atO (List.replicate c (none : Option Int) ++ [some 0]) c = some 0 := by
      unfold atO
      rw [List.getElem?_append_right (by simp)]
      simp
    rw [this]
    exact To.corner
  · subst hy hC
    obtain ⟨hx, hlt⟩ := range_at e
    subst hx
    obtain ⟨a, ha⟩ : ∃ a, a = c - 1 - done.length := ⟨_, rfl⟩
    rw [← ha]
    have f1 : atI ((rowO g.rights 0).map oD) (a : Int) = some (oD (atO (rowO g.rights 0) a)) := at_ent (by rw [hrl 0 (by omega)]; omega)
    have f2 : atI (L.map oD) ((a : Int) + 1) = some (oD (atO L (a + 1))) := at_ent (l := L) (k := a + 1) (by omega)
    have f3 : ixN (L.map oD).length (a : Int) = some a := by rw [List.length_map]; exact ixN_k (by omega)
    simp_all_arith! [hR0, rO, f1, f2]
    refine h1 n hn _ _ _ _ ⟨_, _, rfl, ?_⟩
    have f4 : ixN L.length (a : Int) = some a := ixN_k (by omega)
    simp_all_arith! [f3, f4]
    rw [← List.map_set]
    refine knx [some (.own ((L.set a (by' (atO (rowO g.rights 0) a) (atO L (a + 1)))).map oD)), _] _ ⟨_, _, rfl, by rw [List.length_set, hl], fun k q1 q2 => ?_, rfl⟩
    rw [List.length_append, List.length_singleton] at q1
    by_cases hk : k = a
    · subst hk
      rw [atO_set_eq (by omega)]
      exact To.row0 (by omega) (ht (k + 1) (by omega) (by omega))
    · rw [atO_set_ne (fun q => hk q.symm)]
      exact ht k (by omega) q2
  subst hy hC
  simp_all_arith! [S.i]
  refine ⟨⟨by omega, by omega, by omega, by omega⟩, ?_⟩
  rw [rng_from1]
  refine for_m (fun i : Nat => .int ((i + 1 : Nat) : Int)) [3, 4, 5, 10] (fun done ys C' => ∃ (Fs : List (List (Option Int))) (x3 x5 x10 : Option Dv), ys = [x3, some (.own (Fs.map lO)), x5, x10] ∧ Fs.length = done.length + 1 ∧ (∀ r ∈ Fs, r.length = c + 1) ∧ (∀ r k, r ≤ done.length → k ≤ c → To (gr g) r k c (lkAt Fs r k)) ∧ C' = C1) [_, some (.own ([L].map lO)), none, none] rfl ⟨_, _, _, _, rfl, rfl, fun r hr => by rw [List.mem_singleton.mp hr, hl], fun r k q1 q2 => ?_, rfl⟩ (fun done x rest ys C2 e ⟨Fs, x3, x5, x10, hy, hfl, hfr, hft, hC⟩ nx knx => ?_) fun ys C2 ⟨Fs, x3, x5, x10, hy, hfl, hfr, hft, hC⟩ => ?_
  · have : r = 0 := by simp only [List.length_nil] at q1; omega
    subst this
    rw [List.length_range] at ht
    exact ht k (by omega) q2
  · subst hy hC
    obtain ⟨hx, hlt⟩ := range_at e
    subst hx
    obtain ⟨d, hd⟩ : ∃ d, d = done.length := ⟨_, rfl⟩
    rw [← hd] at hlt hfl hft ⊢
    have er : ((d + 1 : Nat) : Int) - 1 = (d : Int) := by omega
    have u1 := hU d (by omega)
    have u2 : atI (Fs.map lO) (d : Int) = some (lO (rowO Fs d)) := at_rowL (by omega)
    have v1 := hul d (by omega)
    have v2 := hfr _ (rowO_mem (t := Fs) (r := d) (by omega))
    have v3 := hrl (d + 1) (by omega)
    have hz : ((rowO g.ups d).zip (rowO Fs d)).length = c + 1 := by rw [List.length_zip, v1, v2]; omega
    simp_all_arith! [er, u1, u2, rO, lO, zipD_map]
    refine comp_mapL (fun p : Option Int × Option Int => .tup [oD p.1, oD p.2]) (fun p => oD (by' p.1 p.2)) (by rw [hz, sz]; omega) (fun p hp K kK => ?_) ?_
    · simp_all_arith! []
      exact h1 n hn _ _ _ _ ⟨_, _, rfl, kK⟩
    have eH : (((rowO g.ups d).zip (rowO Fs d)).map fun p => oD (by' p.1 p.2)) = (((rowO g.ups d).zip (rowO Fs d)).map fun p => by' p.1 p.2).map oD := by rw [List.map_map]; rfl
    rw [eH]
    obtain ⟨H0, hH⟩ : ∃ H0, H0 = ((rowO g.ups d).zip (rowO Fs d)).map fun p => by' p.1 p.2 := ⟨_, rfl⟩
    rw [← hH]
    have hH1 : H0.length = c + 1 := by rw [hH, List.length_map, hz]
    have hH2 : ∀ k, k ≤ c → atO H0 k = by' (lkAt g.ups d k) (lkAt Fs d k) := fun k hk => by
      unfold lkAt
      have a1 : (rowO g.ups d)[k]? = some (atO (rowO g.ups d) k) := by unfold atO; rw [List.getElem?_eq_getElem (by omega)]; rfl
      have a2 : (rowO Fs d)[k]? = some (atO (rowO Fs d) k) := by unfold atO; rw [List.getElem?_eq_getElem (by omega)]; rfl
      show (H0[k]?).getD none = _
      rw [hH, List.getElem?_map, (List.getElem?_zip_eq_some (z := (atO (rowO g.ups d) k, atO (rowO Fs d) k))).mpr ⟨a1, a2⟩]
      rfl
    simp_all_arith! []
    refine ⟨⟨by omega, by omega, by omega, by omega⟩, ?_⟩
    rw [rng_down]
    refine for_m (fun i : Nat => .int ((c - 1 - i : Nat) : Int)) [3, 10] (fun dn ys C' => ∃ (L : List (Option Int)) (y3 : Option Dv), ys = [y3, some (.own (L.map oD))] ∧ L.length = c + 1 ∧ (∀ k, k < c - dn.length → atO L k = atO H0 k) ∧ (∀ k, c - dn.length ≤ k → k ≤ c → To (gr g) (d + 1) k c (atO L k)) ∧ C' = C2) [x3, some (.own (H0.map oD))] rfl ⟨_, _, rfl, hH1, fun k _ => rfl, fun k q1 q2 => ?_, rfl⟩ (fun dn x rst ys C3 e2 ⟨L2, y3, hy, hl2, hu2, ht2, hC⟩ nx2 knx2 => ?_) fun ys C3 ⟨L2, y3, hy, hl2, hu2, ht2, hC⟩ => ?_
    · have : k = c := by simp only [List.length_nil] at q1; omega
      rw [this, hH2 c (by omega)]
      exact To.col (hft d c (by omega) (by omega))
    · subst hy hC
      obtain ⟨hx, hlt2⟩ := range_at e2
      subst hx
      obtain ⟨a, ha⟩ : ∃ a, a = c - 1 - dn.length := ⟨_, rfl⟩
      rw [← ha]
      have w1 := hR (d + 1) (by omega)
      have f1 : atI ((rowO g.rights (d + 1)).map oD) (a : Int) = some (oD (atO (rowO g.rights (d + 1)) a)) := at_ent (by rw [v3]; omega)
      have f2 : atI (L2.map oD) ((a : Int) + 1) = some (oD (atO L2 (a + 1))) := at_ent (l := L2) (k := a + 1) (by omega)
      have f3 : atI (L2.map oD) (a : Int) = some (oD (atO L2 a)) := at_ent (by omega)
      have f4 : ixN L2.length (a : Int) = some a := ixN_k (by omega)
      simp_all_arith! [w1, rO, f1, f2, f3]
      refine h1 n hn _ _ _ _ ⟨_, _, rfl, ?_⟩
      simp_all_arith! []
      refine h2 n hn _ _ _ _ ⟨_, _, rfl, ?_⟩
      simp_all_arith! [f4]
      rw [← List.map_set]
      refine knx2 [_, some (.own ((L2.set a (les (atO L2 a) (by' (atO (rowO g.rights (d + 1)) a) (atO L2 (a + 1))))).map oD))] _ ⟨_, _, rfl, by rw [List.length_set, hl2], fun k q => ?_, fun k q1 q2 => ?_, rfl⟩
      · rw [List.length_append, List.length_singleton] at q
        rw [atO_set_ne (by omega)]
        exact hu2 k (by omega)
      · rw [List.length_append, List.length_singleton] at q1
        by_cases hk : k = a
        · subst hk
          rw [atO_set_eq (by omega), hu2 k (by omega), hH2 k (by omega)]
          exact To.ins (by omega) (hft d k (by omega) (by omega)) (ht2 (k + 1) (by omega) (by omega))
        · rw [atO_set_ne (fun q => hk q.symm)]
          exact ht2 k (by omega) q2
    subst hy hC
    simp_all_arith! []
    refine ⟨by omega, ?_⟩
    have em : Fs.map lO ++ [D.lst (L2.map oD)] = (Fs ++ [L2]).map lO := by rw [List.map_append]; rfl
    rw [em]
    refine knx [_, some (.own ((Fs ++ [L2]).map lO)), _, _] _ ⟨_, _, _, _, rfl, by rw [List.length_append, List.length_append, List.length_singleton, List.length_singleton, hfl, hd], fun r hr => ?_, fun r k q1 q2 => ?_, rfl⟩
    · rcases List.mem_append.mp hr with q | q
      · exact hfr r q
      · rw [List.mem_singleton.mp q, hl2]
    · rw [List.length_append, List.length_singleton, ← hd] at q1
      have : lkAt (Fs ++ [L2]) r k = if r ≤ d then lkAt Fs r k else atO L2 k := by
        unfold lkAt rowO
        split
        · rw [List.getElem?_append_left (by omega)]
        · rw [List.getElem?_append_right (by omega), show r - Fs.length = 0 by omega]; rfl
      rw [this]
      split
      · exact hft r k (by assumption) q2
      · rw [show r = d + 1 by omega]
        rw [List.length_range] at ht2
        exact ht2 k (by omega) q2
  subst hy hC
  simp_all_arith! []
  rw [List.length_range] at hfl hft
  exact ⟨C2, sub_refl _, kk Fs (by omega) hfr fun r k q1 q2 => hft r k (by omega) q2⟩
end
theorem zip_at {l : List Int} {done rest : List (Int × Nat)} {x : Int × Nat} (e : l.zipIdx 0 = done ++ x :: rest) : x = (inI l done.length, done.length) ∧ done.length < l.length := by
  have hl : (l.zipIdx 0).length = done.length + (rest.length + 1) := by rw [e, List.length_append, List.length_cons]
  rw [List.length_zipIdx] at hl
  have h : (l.zipIdx 0)[done.length]? = some x := by rw [e, List.getElem?_append_right (Nat.le_refl _), Nat.sub_self]; rfl
  rw [List.getElem?_zipIdx, List.getElem?_eq_getElem (by omega)] at h
  refine ⟨?_, by omega⟩
  have h := Option.some.inj h
  rw [← h]
  unfold inI
  rw [List.getElem?_eq_getElem (by omega)]
  simp
/-- rows in cells of their own -/
structure Cs (C0 C' : CM) (as : List Addr) (t : List (List (Option Int))) : Prop where
  nd : as.Nodup
  len : as.length = t.length
  cel : ∀ i a, as[i]? = some a → C' a = some (.lst ((rowO t i).map oD))
  fresh : ∀ a ∈ as, C0 a = none
  sub : ∀ x c, C0 x = some c → C' x = some c
theorem rowO_set_eq {t : List (List (Option Int))} {i : Nat} {r : List (Option Int)} (h : i < t.length) : rowO (t.set i r) i = r := by
  unfold rowO
  rw [List.getElem?_set_self h]; rfl
theorem rowO_set_ne {t : List (List (Option Int))} {i j : Nat} {r : List (Option Int)} (h : i ≠ j) : rowO (t.set i r) j = rowO t j := by
  unfold rowO
  rw [List.getElem?_set_ne h]
theorem Cs.put {C0 C' : CM} {as : List Addr} {t : List (List (Option Int))} (h : Cs C0 C' as t) {i : Nat} {a : Addr} (e : as[i]? = some a) (r : List (Option Int)) : Cs C0 (fun b => if b = a then some (.lst (r.map oD)) else C' b) as (t.set i r) where
  nd := h.nd
  len := by rw [List.length_set]; exact h.len
  cel := fun j b q => by
    obtain ⟨hi, ei⟩ := List.getElem?_eq_some_iff.mp e
    have hi2 : i < t.length := by rw [← h.len]; exact hi
    by_cases hj : i = j
    · subst hj
      rw [e] at q
      cases q
      rw [rowO_set_eq hi2]
      exact if_pos rfl
    · have hb : b ≠ a := fun z => by
        subst z
        obtain ⟨hj2, ej⟩ := List.getElem?_eq_some_iff.mp q
        exact hj ((List.getElem_inj h.nd).mp (ei.trans ej.symm))
      rw [rowO_set_ne hj]
      show (if b = a then _ else C' b) = _
      rw [if_neg hb]
      exact h.cel j b q
  fresh := h.fresh
  sub := fun x c q => by
    have : x ≠ a := fun z => by
      subst z
      have := h.fresh x (List.mem_of_getElem? e)
      rw [this] at q; cases q
    show (if x = a then _ else C' x) = _
    rw [if_neg this]
    exact h.sub x c q
def TabR (ds : List D) (C : CM) (P : D → CM → Prop) : Prop := ∃ m w g, ds = [webD g] ∧ WebS m w g ∧ ∀ t : List (List (Option Int)), t.length = m → (∀ r ∈ t, r.length = w) →
  (∀ r k, r < m → k < w → ∃ o, To (gr g) r 0 k o ∧ lkAt t r k = by' (some (inI g.ins r + inI g.outs k)) o) → P (lkD t) C
section
variable {tb : List (String × Def)} {n : Nat} {C : CM} {P : D → CM → Prop} {ex : Exc → CM → Prop} {G : Ctx}
set_option maxHeartbeats 4000000 in
theorem tab_ok (h1 : Sp tb "by_link" 1 ByR) (h2 : Sp tb "lengths_to" 2 LenR) (hn : 2 ≤ n) {m w : Nat} {g : Web} (S : WebS m w g)
    (kk : ∀ t : List (List (Option Int)), t.length = m → (∀ r ∈ t, r.length = w) → (∀ r k, r < m → k < w → ∃ o, To (gr g) r 0 k o ∧ lkAt t r k = by' (some (inI g.ins r + inI g.outs k)) o) → P (lkD t) C) : denF ⟨Gm tb n, ex⟩ iweb_table [webD g] C P := by
  refine ⟨rfl, ?_⟩
  have m1 := S.m1
  have m2 := S.m2
  have w2 := S.w2
  have hi := S.i
  have ho := S.o
  simp_all_arith! [iweb_table, webD, intsD, lkD]
  refine comp_invL D.int D.ref (fun done acc C' => acc.length = done.length ∧ Cs C C' acc (List.replicate done.length [])) (by rw [hi, sz]; omega) (fun _ _ _ h => by rw [h.1]; exact Nat.le_refl _) ⟨rfl, ⟨.nil, rfl, fun i a q => (by cases q), fun a q => (by cases q), fun _ _ q => q⟩⟩ (fun done x rest acc C1 e ⟨hl, hC⟩ K k1 k2 => ?_) fun as C1 ⟨hl, hC⟩ => ?_
  · simp_all_arith! []
    intro a ha
    have hna : a ∉ acc := fun q => by
      obtain ⟨i, hi1, hi2⟩ := List.getElem_of_mem q
      have := hC.cel i a (by rw [List.getElem?_eq_getElem hi1, hi2])
      rw [ha] at this; cases this
    refine k1 a _ ⟨by rw [List.length_append, List.length_append, hl]; rfl, ⟨?_, ?_, ?_, ?_, ?_⟩⟩
    · rw [List.nodup_append]
      exact ⟨hC.nd, by simp, fun x hx y hy q => by rw [List.mem_singleton.mp hy] at q; subst q; exact hna hx⟩
    · simp [hl]
    · intro i b q
      have hr : rowO (List.replicate (done ++ [x]).length []) i = [] := by
        unfold rowO
        rw [List.getElem?_replicate]
        split <;> rfl
      rw [hr]
      rw [List.getElem?_append] at q
      split at q
      · have := hC.cel i b q
        have hb : b ≠ a := fun z => hna (z ▸ List.mem_of_getElem? q)
        show (if b = a then _ else C1 b) = _
        rw [if_neg hb, this]
        unfold rowO
        rw [List.getElem?_replicate]
        split <;> rfl
      · have : b = a := by
          cases hq : i - acc.length with
          | zero => rw [hq] at q; exact (Option.some.inj q).symm
          | succ z => rw [hq] at q; cases q
        exact if_pos this
    · intro b hb
      rcases List.mem_append.mp hb with q | q
      · exact hC.fresh b q
      · rw [List.mem_singleton.mp q]
        cases hc : C a with
        | none => rfl
        | some c => rw [hC.sub a c hc] at ha; cases ha
    · intro y c hy
      have : y ≠ a := fun z => by subst z; rw [hC.sub y c hy] at ha; cases ha
      show (if y = a then _ else C1 y) = _
      rw [if_neg this]
      exact hC.sub y c hy
  rw [hi] at hl hC
  have hal : ∀ i, i < m → ∃ a, as[i]? = some a := fun i h => ⟨_, List.getElem?_eq_getElem (by omega)⟩
  simp_all_arith! [enumD_map]
  refine for_m (fun p : Int × Nat => .tup [.int ((p.2 : Nat) : Int), .int p.1]) [6, 7, 8, 9, 10] (fun done ys C' => ∃ (t : List (List (Option Int))) (x6 x7 x8 x9 x10 : Option Dv), ys = [x6, x7, x8, x9, x10] ∧ t.length = m ∧ (∀ i, i < m → (rowO t i).length = done.length) ∧ (∀ r k, r < m → k < done.length → ∃ o, To (gr g) r 0 k o ∧ lkAt t r k = by' (some (inI g.ins r + inI g.outs k)) o) ∧ Cs C C' as t) [none, none, none, none, none] rfl ⟨List.replicate m [], _, _, _, _, _, rfl, List.length_replicate, fun i h => ?_, fun r k _ h => absurd h (Nat.not_lt_zero _), hC⟩ (fun done x rest ys C2 e ⟨t, x6, x7, x8, x9, x10, hy, htl, htr, htt, hC2⟩ nx knx => ?_) fun ys C2 ⟨t, x6, x7, x8, x9, x10, hy, htl, htr, htt, hC2⟩ => ?_
  · unfold rowO
    rw [List.getElem?_replicate, if_pos h]; rfl
  · subst hy
    obtain ⟨hx, hlt⟩ := zip_at e
    subst hx
    obtain ⟨j, hj⟩ : ∃ j, j = done.length := ⟨_, rfl⟩
    rw [← hj] at hlt htr htt ⊢
    rw [ho] at hlt
    simp_all_arith! []
    refine h2 n hn _ _ _ _ ⟨m, w, g, j, rfl, S, hlt, fun rows hrl hrr hrt => ?_⟩
    simp_all_arith! [enumD_map]
    refine for_m (fun p : Int × Nat => .tup [.int ((p.2 : Nat) : Int), .int p.1]) [9, 10] (fun dn ys C' => ∃ (u : List (List (Option Int))) (y9 y10 : Option Dv), ys = [y9, y10] ∧ u.length = m ∧ (∀ i, i < m → (rowO u i).length = if i < dn.length then j + 1 else j) ∧ (∀ r k, r < m → (k < j ∨ k = j ∧ r < dn.length) → ∃ o, To (gr g) r 0 k o ∧ lkAt u r k = by' (some (inI g.ins r + inI g.outs k)) o) ∧ Cs C C' as u) [x9, x10] rfl ⟨t, _, _, rfl, htl, fun i h => by rw [htr i h]; exact (if_neg (Nat.not_lt_zero _)).symm, fun r k h q => htt r k h (by rcases q with q | ⟨_, q⟩; exact q; exact absurd q (Nat.not_lt_zero _)), hC2⟩ (fun dn y rst ys C3 e2 ⟨u, y9, y10, hy, hul, hur, hut, hC3⟩ nx2 knx2 => ?_) fun ys C3 ⟨u, y9, y10, hy, hul, hur, hut, hC3⟩ => ?_
    · subst hy
      obtain ⟨hy, hlt2⟩ := zip_at e2
      subst hy
      obtain ⟨i, hi2⟩ : ∃ i, i = dn.length := ⟨_, rfl⟩
      rw [← hi2] at hlt2 hur hut ⊢
      rw [hi] at hlt2
      obtain ⟨a, ha⟩ := hal i hlt2
      have f1 : atI (as.map D.ref) (i : Int) = some (.ref a) := atI_nat (by rw [List.getElem?_map, ha]; rfl)
      have f2 := at_rowL (t := rows) (r := i) (by omega)
      have f3 : atI ((rowO rows i).map oD) 0 = some (oD (lkAt rows i 0)) := at_ent (k := 0) (by rw [hrr _ (rowO_mem (by omega))]; omega)
      have f4 := hC3.cel i a ha
      simp_all_arith! [f1, f2, f3, f4, lO]
      refine h1 n (by omega) _ _ _ _ ⟨some (inI g.ins i + inI g.outs j), lkAt rows i 0, rfl, ?_⟩
      simp_all_arith! [f4]
      refine ⟨by rw [hur i hlt2, if_neg (Nat.lt_irrefl _)]; omega, ?_⟩
      have em : (rowO u i).map oD ++ [oD (by' (some (inI g.ins i + inI g.outs j)) (lkAt rows i 0))] = (rowO u i ++ [by' (some (inI g.ins i + inI g.outs j)) (lkAt rows i 0)]).map oD := by rw [List.map_append]; rfl
      rw [em]
      refine knx2 [_, _] _ ⟨u.set i (rowO u i ++ [by' (some (inI g.ins i + inI g.outs j)) (lkAt rows i 0)]), _, _, rfl, by rw [List.length_set, hul], fun q hq => ?_, fun r k hr hk => ?_, hC3.put ha _⟩
      · rw [List.length_append, List.length_singleton]
        by_cases hqi : i = q
        · subst hqi
          rw [rowO_set_eq (by omega), if_pos (by omega), List.length_append, hur i hlt2, if_neg (Nat.lt_irrefl _)]; rfl
        · rw [rowO_set_ne hqi, hur q hq]
          by_cases hc : q < i
          · rw [if_pos hc, if_pos (by omega)]
          · rw [if_neg hc, if_neg (by omega)]
      · rw [List.length_append, List.length_singleton] at hk
        have hui := hur i hlt2
        rw [if_neg (Nat.lt_irrefl _)] at hui
        by_cases hri : i = r
        · subst hri
          have e3 : lkAt (u.set i (rowO u i ++ [by' (some (inI g.ins i + inI g.outs j)) (lkAt rows i 0)])) i k = if k < j then lkAt u i k else if k = j then by' (some (inI g.ins i + inI g.outs j)) (lkAt rows i 0) else none := by
            unfold lkAt
            rw [rowO_set_eq (by omega)]
            unfold atO
            rw [List.getElem?_append]
            by_cases hc : k < j
            · rw [if_pos (by omega), if_pos hc]
            · rw [if_neg (by omega), if_neg hc, hui]
              by_cases hc2 : k = j
              · subst hc2; rw [Nat.sub_self, if_pos rfl]; rfl
              · rw [if_neg hc2, List.getElem?_eq_none (by rw [List.length_singleton]; omega)]; rfl
          rw [e3]
          by_cases hc : k < j
          · rw [if_pos hc]; exact hut i k hr (.inl hc)
          · have hkj : k = j := by omega
            subst hkj
            rw [if_neg hc, if_pos rfl]
            exact ⟨_, hrt i 0 hr (Nat.zero_le _), rfl⟩
        · have e3 : lkAt (u.set i (rowO u i ++ [by' (some (inI g.ins i + inI g.outs j)) (lkAt rows i 0)])) r k = lkAt u r k := by
            unfold lkAt
            rw [rowO_set_ne hri]
          rw [e3]
          exact hut r k hr (by omega)
    · subst hy
      simp_all_arith! []
      have hzl : (g.ins.zipIdx 0).length = m := by rw [List.length_zipIdx, hi]
      rw [hzl] at hur hut
      refine knx [_, _, _, _, _] _ ⟨u, _, _, _, _, _, rfl, hul, fun i h => ?_, fun r k hr hk => ?_, hC3⟩
      · rw [hur i h, if_pos h, List.length_append, hj]; rfl
      · rw [List.length_append, List.length_singleton, ← hj] at hk
        exact hut r k hr (by omega)
  · subst hy
    have hzl : (g.outs.zipIdx 0).length = w := by rw [List.length_zipIdx, ho]
    rw [hzl] at htr htt
    simp_all_arith! []
    refine comp_mapL D.ref (fun a => .tup ((cellL (C2 a)).getD [])) (by rw [hl, sz]; omega) (fun a ha K kK => ?_) ?_
    · obtain ⟨i, hi1, hi2⟩ := List.getElem_of_mem ha
      have f := hC2.cel i a (by rw [List.getElem?_eq_getElem hi1, hi2])
      rw [f] at kK
      simp_all_arith! [f]
      exact kK
    have em : (as.map fun a => D.tup ((cellL (C2 a)).getD [])) = t.map rO := by
      refine List.ext_getElem? fun i => ?_
      rw [List.getElem?_map, List.getElem?_map]
      by_cases h : i < m
      · obtain ⟨a, ha⟩ := hal i h
        have f := hC2.cel i a ha
        rw [ha]
        have ht : t[i]? = some (rowO t i) := by unfold rowO; rw [List.getElem?_eq_getElem (by omega)]; rfl
        rw [ht]
        show some (D.tup ((cellL (C2 a)).getD [])) = some _
        rw [f]; rfl
      · rw [List.getElem?_eq_none (by omega), List.getElem?_eq_none (by omega)]; rfl
    rw [em]
    simp_all_arith! []
    refine ⟨C, hC2.sub, kk t htl (fun r hr => ?_) htt⟩
    obtain ⟨i, hi1, hi2⟩ := List.getElem_of_mem hr
    have := htr i (by omega)
    unfold rowO at this
    rw [List.getElem?_eq_getElem hi1, hi2] at this
    exact this
end
end M61.Wb

set_option Elab.async false
set_option linter.all false
set_option autoImplicit false
set_option maxRecDepth 100000
/-! P56: the ways of a web, by law. -/
namespace M61.Wb
open PySem PySem.Spec PyProof.Rows L2
local macro_rules
  | `(tactic| simp_arith! [$ls,*] $[$loc:location]?) => `(tactic| try simp only [wipeR_cons, wipeR_nil, eq_self, denE, denT, denEs, denO, denC, denI, bindT_nm, bindT_tp, bindT_tl, bindTs_nil, bindTs_cons, varD_0, varD_s, varM_own0, varM_dat0, varM_s, varO_0, varO_s, varL_own0, varL_ref0, varL_s, sz, cp1, cp2, cp3, cp4, cp5, cp6, cp7, cp8, cp9, cp10, cp11, cp12, cp15, cp18, add_i, add_t, add_l, add_s, add_b, sub_b, sub_i, mul_i, mul_t, mul_l, fdiv_i, mod_i, pow_i, shl_i, eq_r, ne_r, inn_t, nin_t, inn_l, nin_l, lt_r, lt_tt, le_r, gt_r, ge_r, is_n, isn_n, is_b, isn_b, isNon_n, isNon_i, isNon_t, isNon_l, isNon_b, isNon_s, tru_n, tru_b, tru_i, tru_t, tru_l, ix_t, ix_l, ix_c, ix_r, cellAt_l, cellL_l, lstD_l, lstD_r, sqD_t, sqD_l, sl_t, sl_l, sl_c, sl_r, rev_t, rev_l, len_t, len_l, len_c, len_r, tup_t, tup_l, tup_r, sum_t, sum_l, sum_r, min_t, min_l, max_t, max_l, min_2, max_2, min_3, repr_r, str_ri, abs_i, int_i, int_b, all_l, any_l, ty_bb, ty_bi, ty_bn, ty_bt, ty_ss, ty_sn, ty_si, ty_sb, ty_ii, ty_ib, ty_in, ty_it, ty_tt, ty_tn, ty_ti, ty_tb, ty_ll, ty_lt, ty_is, ty_il, ty_bs, ty_blst, ty_st, ty_sl, ty_ts, ty_tl, ty_ln, ty_li, ty_lb, ty_ls, intsOf_map, boolsOf_map, pair_Cmp, int_Cmp, bl_Cmp, non_Cmp, ints_Cmp, intst_Cmp, eqv_int, eqv_bl, eqv_ints, eqv_intst, List.map_cons, List.map_nil, List.replicate_succ, List.replicate_zero, List.cons_append, List.nil_append, List.set_cons_zero, List.set_cons_succ, List.length_cons, List.length_nil, List.getElem?_cons_zero, List.getElem?_cons_succ, List.eraseIdx_cons_zero, Nat.reduceSub, Nat.reduceAdd, Nat.reduceLT, Nat.reduceLeDiff, Nat.reducePow, Nat.reduceEqDiff, Nat.reduceMul, Int.reducePow, Int.reduceToNat, Int.reduceMul, Int.reduceAdd, Int.reduceSub, Int.reduceNeg, Int.reduceLT, Int.reduceLE, Int.reduceEq, Int.reduceBEq, Int.reduceBNe, zero_add', not_true_eq_false, not_false_eq_true, Bool.true_eq_false, false_and, and_false, true_and, and_true, exists_eq_left', exists_and_left, Option.some.injEq, Cell.lst.injEq, Cell.dct.injEq, if_pos_true, reduceIte, Bool.false_eq_true, decide_true, decide_false, Bool.not_true, Bool.not_false, Bool.not_eq_true', Bool.and_true, Bool.true_and, decide_eq_true_eq, decide_eq_false_iff_not, ite_self, List.isEmpty_cons, List.isEmpty_nil, ss_nil', ss_cons', s_set', s_own', s_setF', s_unp', s_par2', par2K_e, s_par3', par3K_e, s_app', s_ext', extK_e, s_exp', s_csub', csubK_e, s_dset', dsetK_e, s_capp', cappK_e, s_aug', augK_a, augK_s, s_oset', osetK_e, s_ife', s_for', s_forc', forcK_e, s_whl', s_ret', s_ret0', s_pass', s_brk', s_cnt', l_comp', l_compc', compcK_e, l_lit', l_cat', l_rvd', l_lrv', l_ls2', l_list', l_srt', srtK_e, l_srr', srrK_e, l_lrg1', l_lrg2', lrgK_e, l_rep', repK_e, setM_nil, setM_cons, Int.toNat_natCast, List.length_map, exists_eq_left, $ls,*] $[$loc]?)
local macro_rules
  | `(tactic| simp_all_arith! [$ls,*]) => `(tactic| ((try simp only [wipeR_cons, wipeR_nil, eq_self, denE, denT, denEs, denO, denC, denI, bindT_nm, bindT_tp, bindT_tl, bindTs_nil, bindTs_cons, varD_0, varD_s, varM_own0, varM_dat0, varM_s, varO_0, varO_s, varL_own0, varL_ref0, varL_s, sz, cp1, cp2, cp3, cp4, cp5, cp6, cp7, cp8, cp9, cp10, cp11, cp12, cp15, cp18, add_i, add_t, add_l, add_s, add_b, sub_b, sub_i, mul_i, mul_t, mul_l, fdiv_i, mod_i, pow_i, shl_i, eq_r, ne_r, inn_t, nin_t, inn_l, nin_l, lt_r, lt_tt, le_r, gt_r, ge_r, is_n, isn_n, is_b, isn_b, isNon_n, isNon_i, isNon_t, isNon_l, isNon_b, isNon_s, tru_n, tru_b, tru_i, tru_t, tru_l, ix_t, ix_l, ix_c, ix_r, cellAt_l, cellL_l, lstD_l, lstD_r, sqD_t, sqD_l, sl_t, sl_l, sl_c, sl_r, rev_t, rev_l, len_t, len_l, len_c, len_r, tup_t, tup_l, tup_r, sum_t, sum_l, sum_r, min_t, min_l, max_t, max_l, min_2, max_2, min_3, repr_r, str_ri, abs_i, int_i, int_b, all_l, any_l, ty_bb, ty_bi, ty_bn, ty_bt, ty_ss, ty_sn, ty_si, ty_sb, ty_ii, ty_ib, ty_in, ty_it, ty_tt, ty_tn, ty_ti, ty_tb, ty_ll, ty_lt, ty_is, ty_il, ty_bs, ty_blst, ty_st, ty_sl, ty_ts, ty_tl, ty_ln, ty_li, ty_lb, ty_ls, intsOf_map, boolsOf_map, pair_Cmp, int_Cmp, bl_Cmp, non_Cmp, ints_Cmp, intst_Cmp, eqv_int, eqv_bl, eqv_ints, eqv_intst, List.map_cons, List.map_nil, List.replicate_succ, List.replicate_zero, List.cons_append, List.nil_append, List.set_cons_zero, List.set_cons_succ, List.length_cons, List.length_nil, List.getElem?_cons_zero, List.getElem?_cons_succ, List.eraseIdx_cons_zero, Nat.reduceSub, Nat.reduceAdd, Nat.reduceLT, Nat.reduceLeDiff, Nat.reducePow, Nat.reduceEqDiff, Nat.reduceMul, Int.reducePow, Int.reduceToNat, Int.reduceMul, Int.reduceAdd, Int.reduceSub, Int.reduceNeg, Int.reduceLT, Int.reduceLE, Int.reduceEq, Int.reduceBEq, Int.reduceBNe, zero_add', not_true_eq_false, not_false_eq_true, Bool.true_eq_false, false_and, and_false, true_and, and_true, exists_eq_left', exists_and_left, Option.some.injEq, Cell.lst.injEq, Cell.dct.injEq, if_pos_true, reduceIte, Bool.false_eq_true, decide_true, decide_false, Bool.not_true, Bool.not_false, Bool.not_eq_true', Bool.and_true, Bool.true_and, decide_eq_true_eq, decide_eq_false_iff_not, ite_self, List.isEmpty_cons, List.isEmpty_nil, ss_nil', ss_cons', s_set', s_own', s_setF', s_unp', s_par2', par2K_e, s_par3', par3K_e, s_app', s_ext', extK_e, s_exp', s_csub', csubK_e, s_dset', dsetK_e, s_capp', cappK_e, s_aug', augK_a, augK_s, s_oset', osetK_e, s_ife', s_for', s_forc', forcK_e, s_whl', s_ret', s_ret0', s_pass', s_brk', s_cnt', l_comp', l_compc', compcK_e, l_lit', l_cat', l_rvd', l_lrv', l_ls2', l_list', l_srt', srtK_e, l_srr', srrK_e, l_lrg1', l_lrg2', lrgK_e, l_rep', repK_e, setM_nil, setM_cons, Int.toNat_natCast, List.length_map, exists_eq_left, $ls,*]); (repeat ((with_reducible (first | refine blk_of ?_ | refine turn_of ?_ | refine tst_of ?_)); (try simp only [wipeR_cons, wipeR_nil, eq_self, denE, denT, denEs, denO, denC, denI, bindT_nm, bindT_tp, bindT_tl, bindTs_nil, bindTs_cons, varD_0, varD_s, varM_own0, varM_dat0, varM_s, varO_0, varO_s, varL_own0, varL_ref0, varL_s, sz, cp1, cp2, cp3, cp4, cp5, cp6, cp7, cp8, cp9, cp10, cp11, cp12, cp15, cp18, add_i, add_t, add_l, add_s, add_b, sub_b, sub_i, mul_i, mul_t, mul_l, fdiv_i, mod_i, pow_i, shl_i, eq_r, ne_r, inn_t, nin_t, inn_l, nin_l, lt_r, lt_tt, le_r, gt_r, ge_r, is_n, isn_n, is_b, isn_b, isNon_n, isNon_i, isNon_t, isNon_l, isNon_b, isNon_s, tru_n, tru_b, tru_i, tru_t, tru_l, ix_t, ix_l, ix_c, ix_r, cellAt_l, cellL_l, lstD_l, lstD_r, sqD_t, sqD_l, sl_t, sl_l, sl_c, sl_r, rev_t, rev_l, len_t, len_l, len_c, len_r, tup_t, tup_l, tup_r, sum_t, sum_l, sum_r, min_t, min_l, max_t, max_l, min_2, max_2, min_3, repr_r, str_ri, abs_i, int_i, int_b, all_l, any_l, ty_bb, ty_bi, ty_bn, ty_bt, ty_ss, ty_sn, ty_si, ty_sb, ty_ii, ty_ib, ty_in, ty_it, ty_tt, ty_tn, ty_ti, ty_tb, ty_ll, ty_lt, ty_is, ty_il, ty_bs, ty_blst, ty_st, ty_sl, ty_ts, ty_tl, ty_ln, ty_li, ty_lb, ty_ls, intsOf_map, boolsOf_map, pair_Cmp, int_Cmp, bl_Cmp, non_Cmp, ints_Cmp, intst_Cmp, eqv_int, eqv_bl, eqv_ints, eqv_intst, List.map_cons, List.map_nil, List.replicate_succ, List.replicate_zero, List.cons_append, List.nil_append, List.set_cons_zero, List.set_cons_succ, List.length_cons, List.length_nil, List.getElem?_cons_zero, List.getElem?_cons_succ, List.eraseIdx_cons_zero, Nat.reduceSub, Nat.reduceAdd, Nat.reduceLT, Nat.reduceLeDiff, Nat.reducePow, Nat.reduceEqDiff, Nat.reduceMul, Int.reducePow, Int.reduceToNat, Int.reduceMul, Int.reduceAdd, Int.reduceSub, Int.reduceNeg, Int.reduceLT, Int.reduceLE, Int.reduceEq, Int.reduceBEq, Int.reduceBNe, zero_add', not_true_eq_false, not_false_eq_true, Bool.true_eq_false, false_and, and_false, true_and, and_true, exists_eq_left', exists_and_left, Option.some.injEq, Cell.lst.injEq, Cell.dct.injEq, if_pos_true, reduceIte, Bool.false_eq_true, decide_true, decide_false, Bool.not_true, Bool.not_false, Bool.not_eq_true', Bool.and_true, Bool.true_and, decide_eq_true_eq, decide_eq_false_iff_not, ite_self, List.isEmpty_cons, List.isEmpty_nil, ss_nil', ss_cons', s_set', s_own', s_setF', s_unp', s_par2', par2K_e, s_par3', par3K_e, s_app', s_ext', extK_e, s_exp', s_csub', csubK_e, s_dset', dsetK_e, s_capp', cappK_e, s_aug', augK_a, augK_s, s_oset', osetK_e, s_ife', s_for', s_forc', forcK_e, s_whl', s_ret', s_ret0', s_pass', s_brk', s_cnt', l_comp', l_compc', compcK_e, l_lit', l_cat', l_rvd', l_lrv', l_ls2', l_list', l_srt', srtK_e, l_srr', srrK_e, l_lrg1', l_lrg2', lrgK_e, l_rep', repK_e, setM_nil, setM_cons, Int.toNat_natCast, List.length_map, exists_eq_left, $ls,*])))))
open M61.W47
def i_law_further : Def := ⟨3, 3,
  (.cons (.ife (.or (.cmp .is (.var 0) .non) (.cmp .is (.var 1) .non)) (.cons (.ret .non)
  .nil) .nil)
  (.cons (.ret (.tup (.cons (.bin .add (.ix (.var 0) (.int 0)) (.var 1)) (.cons (.bin .add (.ix (.var 0) (.int 1)) (.var 2)) .nil))))
  .nil))⟩
def i_law_least : Def := ⟨2, 2,
  (.cons (.ife (.or (.cmp .is (.var 0) .non) (.cmp .is (.var 1) .non)) (.cons (.ret (.orv (.var 0) (.var 1)))
  .nil) .nil)
  (.cons (.ret (.blt .min2d (.cons (.var 0) (.cons (.var 1) .nil))))
  .nil))⟩
def i_law_ways : Def := ⟨2, 12,
  (.cons (.unp (.tp (.cons (.nm 4) (.cons (.nm 5) (.cons (.nm 6) (.cons (.nm 7) .nil))))) (.var 0))
  (.cons (.own 2 (.cat (.frz (.lit (.cons (.tup (.cons (.ix (.var 4) (.var 1)) (.cons (.str "") .nil))) .nil))) (.frz (.comp [8] .non (.nm 8) (.seq (.sl (.var 7) (.yes (.int 1)) .no)) .no))))
  (.cons (.for (.nm 3) (.rng3 (.var 1) (.neg (.int 1)) (.neg (.int 1))) (.cons (.ife (.cmp .lt (.var 3) (.var 1)) (.cons (.own 2 (.comp [9, 11] (.call "_law_further" (.cons (.var 9) (.cons (.var 11) (.cons (.str "u") .nil)))) (.tp (.cons (.nm 9) (.cons (.nm 11) .nil))) (.zip (.mv 2) (.ix (.var 6) (.var 3))) .no))
  .nil) .nil)
  (.cons (.for (.nm 8) (.rng2 (.int 1) (.blt .len (.cons (.var 7) .nil))) (.cons (.oset 2 (.var 8) (.call "_law_least" (.cons (.oix 2 (.var 8)) (.cons (.call "_law_further" (.cons (.oix 2 (.bin .sub (.var 8) (.int 1))) (.cons (.ix (.ix (.var 5) (.var 3)) (.bin .sub (.var 8) (.int 1))) (.cons (.str "r") .nil)))) .nil))))
  .nil))
  .nil)))
  (.cons (.ret (.frz (.comp [9, 10] (.call "_law_further" (.cons (.var 9) (.cons (.var 10) (.cons (.str "") .nil)))) (.tp (.cons (.nm 9) (.cons (.nm 10) .nil))) (.zip (.mv 2) (.var 7)) .no)))
  .nil))))⟩
def tx (s : List Nat) : Str := ⟨s.toArray⟩
def wD : Wt → D
  | none => .non
  | some p => .tup [.int p.1, .str (tx p.2)]
theorem wD_n : wD none = .non := rfl
theorem wD_s (p : Int × List Nat) : wD (some p) = .tup [.int p.1, .str (tx p.2)] := rfl
theorem tx_len (s : List Nat) : (tx s).length = s.length := List.size_toArray
theorem tx_app (s c : List Nat) : tx s ++ tx c = tx (s ++ c) := by
  show (⟨s.toArray ++ c.toArray⟩ : Str) = ⟨(s ++ c).toArray⟩
  simp
theorem tx_r : Str.ofString "r" = tx [114] := by decide
theorem tx_u : Str.ofString "u" = tx [117] := by decide
theorem tx_0 : Str.ofString "" = tx [] := by decide
theorem tx_inj {s t : List Nat} (h : tx s = tx t) : s = t := by
  have : s.toArray = t.toArray := congrArg Str.cps h
  simpa using this
theorem wpy (p : Int × List Nat) : (wD (some p)).py = .tuple [.int p.1, .str (tx p.2)] := rfl
theorem wpy_inj {p q : Int × List Nat} (h : (wD (some p)).py = (wD (some q)).py) : p = q := by
  rw [wpy, wpy] at h
  injection h with h
  injection h with h1 h2
  injection h1 with h1
  injection h2 with h2 _
  injection h2 with h2
  exact Prod.ext h1 (tx_inj h2)
theorem wlt (p q : Int × List Nat) : PySem.W.dataLt (wD (some p)).py (wD (some q)).py = ltW p q := by
  rw [wpy, wpy, PySem.W.dataLt_tuple]
  by_cases h : p.1 = q.1
  · rw [PySem.W.dataLt_all_yes (by rfl) (by show (p.1 == q.1) = true; rw [h]; exact beq_self_eq_true _)]
    by_cases h2 : tx p.2 = tx q.2
    · rw [PySem.W.dataLt_all_yes (by rfl) (by show (tx p.2 == tx q.2) = true; rw [h2]; exact beq_self_eq_true _)]
      have e := tx_inj h2
      have : ltW p q = false := decide_eq_false (by rintro (z | ⟨_, z⟩); omega; rw [e] at z; exact lt_irr _ z)
      rw [this]
      rfl
    · rw [PySem.W.dataLt_all_no (by rfl) (by show (tx p.2 == tx q.2) = false; simpa using h2), PySem.W.dataLt_str]
      unfold ltW
      refine decide_eq_decide.mpr ?_
      show p.2 < q.2 ↔ _
      exact ⟨fun z => .inr ⟨h, z⟩, fun z => by rcases z with z | ⟨_, z⟩; omega; exact z⟩
  · rw [PySem.W.dataLt_all_no (by rfl) (by show (p.1 == q.1) = false; simpa using h), PySem.W.dataLt_int]
    unfold ltW
    refine decide_eq_decide.mpr ⟨fun z => .inl z, fun z => by rcases z with z | ⟨z, _⟩; exact z; exact absurd z h⟩
theorem w_alike (p q : Int × List Nat) : PySem.W.AlikeAll (D.pys [wD (some p), wD (some q)]) := by
  refine ⟨fun x hx y hy => ?_, fun x hx => ?_⟩
  · have hx : x ∈ [(wD (some p)).py, (wD (some q)).py] := hx
    have hy : y ∈ [(wD (some p)).py, (wD (some q)).py] := hy
    simp only [List.mem_cons, List.not_mem_nil, or_false] at hx hy
    rcases hx with rfl | rfl <;> rcases hy with rfl | rfl <;> rfl
  · have hx : x ∈ [(wD (some p)).py, (wD (some q)).py] := hx
    simp only [List.mem_cons, List.not_mem_nil, or_false] at hx
    rcases hx with rfl | rfl <;> exact fun h => by cases h
def wAt (L : List Wt) (k : Nat) : Wt := (L[k]?).getD none
theorem at_w {l : List Wt} {k : Nat} (h : k < l.length) : atI (l.map wD) (k : Int) = some (wD (wAt l k)) := by
  refine atI_nat ?_
  rw [List.getElem?_map]
  unfold wAt
  rw [List.getElem?_eq_getElem h]; rfl
theorem wAt_set_eq {l : List Wt} {k : Nat} {o : Wt} (h : k < l.length) : wAt (l.set k o) k = o := by
  unfold wAt
  rw [List.getElem?_set_self h]; rfl
theorem wAt_set_ne {l : List Wt} {k j : Nat} {o : Wt} (h : k ≠ j) : wAt (l.set k o) j = wAt l j := by
  unfold wAt
  rw [List.getElem?_set_ne h]
theorem rng_down2 (c : Nat) : rangeD (c : Int) (-1) ((c : Int) - -1).toNat = (List.range (c + 1)).map fun i : Nat => .int ((c - i : Nat) : Int) := by
  have e : ((c : Int) - -1).toNat = c + 1 := by omega
  rw [e]
  unfold rangeD
  refine List.map_congr_left fun i hi => ?_
  have := List.mem_range.mp hi
  congr 1; omega
theorem Fm.to {g : Gr} {row c : Nat} {i : Int} {q : Wt} (f : Fm g row i 0 c q) : ∃ o, To g row 0 c o ∧ q.map (·.1) = by' (some i) o := by
  cases q with
  | none => exact ⟨none, fun l ⟨s, w⟩ => f (i + l) s ⟨l, rfl, w⟩, rfl⟩
  | some p =>
    obtain ⟨⟨l0, e, w⟩, h⟩ := f
    refine ⟨some l0, ⟨⟨_, w⟩, fun l ⟨s, w2⟩ => ?_⟩, by show some p.1 = some (i + l0); rw [e]⟩
    have := h (i + l) s ⟨l, rfl, w2⟩
    omega
/-- a text's length told -/
def Shrt (m : Nat) (q : Wt) : Prop := ∀ p, q = some p → p.2.length ≤ m
section
variable {tb : List (String × Def)} {n : Nat} {C : CM} {P : D → CM → Prop} {ex : Exc → CM → Prop} {G : Ctx}
def FurR (ds : List D) (C : CM) (P : D → CM → Prop) : Prop := ∃ q o c, ds = [wD q, oD o, .str (tx c)] ∧ Shrt 10000 q ∧ c.length ≤ 1000 ∧ P (wD (fur q o c)) C
theorem fur_ok {q : Wt} {o : Option Int} {c : List Nat} (hq : Shrt 10000 q) (hc : c.length ≤ 1000) (k : P (wD (fur q o c)) C) : denF G i_law_further [wD q, oD o, .str (tx c)] C P := by
  refine ⟨rfl, ?_⟩
  cases q with
  | none =>
    simp_all_arith! [i_law_further, wD_n]
    exact ⟨C, sub_refl _, k⟩
  | some p =>
    cases o with
    | none =>
      simp_all_arith! [i_law_further, wD_s, oD_n]
      exact ⟨C, sub_refl _, k⟩
    | some x =>
      have := hq p rfl
      simp_all_arith! [i_law_further, wD_s, oD_s, atI_0, atI_1, tx_len, tx_app]
      exact ⟨by omega, C, sub_refl _, k⟩
def LspR (ds : List D) (C : CM) (P : D → CM → Prop) : Prop := ∃ q u, ds = [wD q, wD u] ∧ P (wD (lsp q u)) C
theorem lsp_ok {q u : Wt} (k : P (wD (lsp q u)) C) : denF G i_law_least [wD q, wD u] C P := by
  refine ⟨rfl, ?_⟩
  cases q with
  | none =>
    simp_all_arith! [i_law_least, wD_n]
    exact ⟨C, sub_refl _, k⟩
  | some p =>
    cases u with
    | none =>
      simp_all_arith! [i_law_least, wD_s, wD_n]
      exact ⟨C, sub_refl _, k⟩
    | some r =>
      simp_all_arith! [i_law_least, wD_s, min_2d]
      rw [← wD_s, ← wD_s]
      refine ⟨rfl, w_alike p r, Nat.le_of_ble_eq_true rfl, fun z hz e => ?_⟩
      have e2 : PySem.W.minD (wD (some p)).py (D.pys [wD (some r)]) = if ltW r p = true then (wD (some r)).py else (wD (some p)).py := by
        rw [← wlt]; rfl
      rw [e2] at e
      have e3 : z = wD (lsp (some p) (some r)) := by
        have e4 : lsp (some p) (some r) = some (if ltW r p = true then r else p) := rfl
        rw [e4]
        simp only [List.mem_cons, List.not_mem_nil, or_false] at hz
        cases hc : ltW r p with
        | true =>
          rw [hc, if_pos rfl] at e
          rw [if_pos rfl]
          rcases hz with rfl | rfl
          · rw [wpy_inj e]
          · rfl
        | false =>
          rw [hc, if_neg (by decide)] at e
          rw [if_neg (by decide)]
          rcases hz with rfl | rfl
          · rfl
          · rw [wpy_inj e]
      rw [e3]
      exact ⟨C, sub_refl _, k⟩
theorem Fm.shrt {g : Gr} {row h k : Nat} {i : Int} {q : Wt} (f : Fm g row i h k q) (hr : row ≤ 1000) (hk : k ≤ 1000) : Shrt 10000 q := fun p e => by
  subst e
  have := WyI.len f.1
  omega
def WaysR (ds : List D) (C : CM) (P : D → CM → Prop) : Prop := ∃ m w g row, ds = [webD g, .int ((row : Nat) : Int)] ∧ WebS m w g ∧ row < m ∧ ∀ qs : List Wt, qs.length = w →
  (∀ k, k < w → ∃ q, Fm (gr g) row (inI g.ins row) 0 k q ∧ wAt qs k = fur q (some (inI g.outs k)) []) → P (.lst (qs.map wD)) C
set_option maxHeartbeats 4000000 in
theorem ways_ok (h1 : Sp tb "_law_further" 1 FurR) (h2 : Sp tb "_law_least" 1 LspR) (hn : 1 ≤ n) {m w : Nat} {g : Web} {row : Nat} (S : WebS m w g) (hrow : row < m)
    (kk : ∀ qs : List Wt, qs.length = w → (∀ k, k < w → ∃ q, Fm (gr g) row (inI g.ins row) 0 k q ∧ wAt qs k = fur q (some (inI g.outs k)) []) → P (.lst (qs.map wD)) C) : denF ⟨Gm tb n, ex⟩ i_law_ways [webD g, .int (row : Int)] C P := by
  refine ⟨rfl, ?_⟩
  have m1 := S.m1
  have w1 := S.w1
  have m2 := S.m2
  have w2 := S.w2
  have hi := S.i
  have ho := S.o
  have hrl : ∀ r, r < m → (rowO g.rights r).length = w - 1 := fun r hr => S.rr _ (rowO_mem (by rw [S.rh]; exact hr))
  have hul : ∀ r, r + 1 < m → (rowO g.ups r).length = w := fun r hr => S.ur _ (rowO_mem (by rw [S.uh]; omega))
  have hR : ∀ r, r < m → atI (g.rights.map rO) (r : Int) = some (rO (rowO g.rights r)) := fun r hr => at_row (by rw [S.rh]; exact hr)
  have hU : ∀ r, r + 1 < m → atI (g.ups.map rO) (r : Int) = some (rO (rowO g.ups r)) := fun r hr => at_row (by rw [S.uh]; omega)
  have hI : atI (g.ins.map D.int) (row : Int) = some (.int (inI g.ins row)) := at_int (by omega)
  simp_all_arith! [i_law_ways, webD, intsD, lkD, hI, cutD_map, cut_rest]
  refine comp_mapL D.int (fun _ => .non) (by rw [List.length_drop, ho, sz]; omega) (fun x hx K kK => ?_) ?_
  · simp_all_arith! []
    exact kK
  simp_all_arith! []
  refine ⟨by rw [List.length_drop]; omega, ?_⟩
  obtain ⟨L0, hL0⟩ : ∃ L0 : List Wt, L0 = some (inI g.ins row, []) :: (g.outs.drop 1).map fun _ => none := ⟨_, rfl⟩
  have em0 : (D.tup [.int (inI g.ins row), .str (Str.ofString "")] :: (g.outs.drop 1).map fun _ => D.non) = L0.map wD := by
    rw [hL0, List.map_cons, List.map_map, tx_0]; rfl
  rw [em0]
  have l01 : L0.length = w := by rw [hL0, List.length_cons, List.length_map, List.length_drop]; omega
  simp_all_arith! []
  refine ⟨⟨by omega, by omega, by omega, by omega⟩, ?_⟩
  rw [rng_down2]
  refine for_m (fun i : Nat => .int ((row - i : Nat) : Int)) [2, 3, 8] (fun done ys C' => ∃ (L : List Wt) (x3 x8 : Option Dv), ys = [some (.own (L.map wD)), x3, x8] ∧ L.length = w ∧ (done.length = 0 → L = L0) ∧ (0 < done.length → ∀ k, k < w → Fm (gr g) row (inI g.ins row) (row - (done.length - 1)) k (wAt L k)) ∧ C' = C) [some (.own (L0.map wD)), none, none] rfl ⟨L0, _, _, rfl, l01, fun _ => rfl, fun h => absurd h (Nat.lt_irrefl _), rfl⟩ (fun done x rest ys C1 e ⟨L, x3, x8, hy, hl, hz, hp, hC⟩ nx knx => ?_) fun ys C1 ⟨L, x3, x8, hy, hl, hz, hp, hC⟩ => ?_
  · subst hy hC
    obtain ⟨hx, hlt⟩ := range_at e
    subst hx
    obtain ⟨d, hd⟩ : ∃ d, d = done.length := ⟨_, rfl⟩
    rw [← hd] at hlt hz hp ⊢
    obtain ⟨h, hh⟩ : ∃ h, h = row - d := ⟨_, rfl⟩
    rw [← hh]
    have v1 := hrl h (by omega)
    simp_arith! []
    refine cut_tail' fun N hN => ?_
    have tail : ∀ (L1 : List Wt) C', L1.length = w → Fm (gr g) row (inI g.ins row) h 0 (wAt L1 0) → (∀ k, k + 1 < w → ∀ u, Fm (gr g) row (inI g.ins row) h k u → Fm (gr g) row (inI g.ins row) h (k + 1) (lsp (wAt L1 (k + 1)) (fur u (lkAt g.rights h k) [114]))) → C' = C1 →
        N [some (.dat (webD g)), some (.dat (.int (row : Int))), some (.own (L1.map wD)), some (.dat (.int (h : Int))), some (.dat (intsD g.ins)), some (.dat (lkD g.rights)), some (.dat (lkD g.ups)), some (.dat (intsD g.outs)), x8, none, none, none] C' := fun L1 C' hl1 hc0 hc1 hC => hN _ _ (by
      subst hC
      simp_all_arith! [intsD, lkD, ho]
      refine ⟨⟨by omega, by omega, by omega, by omega⟩, ?_⟩
      rw [rng_from1]
      refine for_m (fun i : Nat => .int ((i + 1 : Nat) : Int)) [2, 8] (fun dn ys C2 => ∃ (L : List Wt) (y8 : Option Dv), ys = [some (.own (L.map wD)), y8] ∧ L.length = w ∧ (∀ k, k ≤ dn.length → k < w → Fm (gr g) row (inI g.ins row) h k (wAt L k)) ∧ (∀ k, dn.length < k → wAt L k = wAt L1 k) ∧ C2 = C') [some (.own (L1.map wD)), x8] rfl ⟨L1, _, rfl, hl1, fun k q1 q2 => ?_, fun k _ => rfl, rfl⟩ (fun dn x rst ys C3 e2 ⟨L2, y8, hy, hl2, hf2, hu2, hC⟩ nx2 knx2 => ?_) fun ys C3 ⟨L2, y8, hy, hl2, hf2, hu2, hC⟩ => ?_
      · have : k = 0 := by simp only [List.length_nil] at q1; omega
        rw [this]; exact hc0
      · subst hy hC
        obtain ⟨hx, hlt2⟩ := range_at e2
        subst hx
        obtain ⟨b, hb⟩ : ∃ b, b = dn.length := ⟨_, rfl⟩
        rw [← hb] at hlt2 hf2 hu2 ⊢
        have er : ((b + 1 : Nat) : Int) - 1 = (b : Int) := by omega
        have f1 := at_w (l := L2) (k := b + 1) (by omega)
        have f2 := at_w (l := L2) (k := b) (by omega)
        have f3 := hR h (by omega)
        have f4 : atI ((rowO g.rights h).map oD) (b : Int) = some (oD (lkAt g.rights h b)) := at_ent (by rw [v1]; omega)
        have f5 : ixN L2.length ((b + 1 : Nat) : Int) = some (b + 1) := ixN_k (by omega)
        have fb := hf2 b (Nat.le_refl _) (by omega)
        simp_all_arith! [er, f1, f2, f3, f4, rO]
        rw [tx_r]
        refine h1 n hn _ _ _ _ ⟨_, _, _, rfl, fb.shrt (by omega) (by omega), by decide, ?_⟩
        simp_all_arith! []
        refine h2 n hn _ _ _ _ ⟨_, _, rfl, ?_⟩
        simp_all_arith! [f5]
        rw [← List.map_set]
        refine knx2 [some (.own ((L2.set (b + 1) (lsp (wAt L2 (b + 1)) (fur (wAt L2 b) (lkAt g.rights h b) [114]))).map wD)), _] _ ⟨_, _, rfl, by rw [List.length_set, hl2], fun k q1 q2 => ?_, fun k q => ?_, rfl⟩
        · rw [List.length_append, List.length_singleton, ← hb] at q1
          by_cases hk : b + 1 = k
          · subst hk
            rw [wAt_set_eq (by omega), hu2 (b + 1) (by omega)]
            exact hc1 b (by omega) _ fb
          · rw [wAt_set_ne hk]
            exact hf2 k (by omega) q2
        · rw [List.length_append, List.length_singleton, ← hb] at q
          rw [wAt_set_ne (by omega)]
          exact hu2 k (by omega)
      · subst hy hC
        simp_all_arith! []
        rw [List.length_range] at hf2
        refine knx [some (.own (L2.map wD)), _, _] _ ⟨L2, _, _, rfl, hl2, fun q => (by rw [List.length_append, List.length_singleton] at q; omega), fun _ k hk => ?_, rfl⟩
        rw [List.length_append, List.length_singleton, ← hd, Nat.add_sub_cancel, ← hh]
        exact hf2 k (by omega) hk)
    by_cases hd0 : d = 0
    · have hc : ¬ (h : Int) < (row : Int) := by omega
      have hhr : h = row := by omega
      simp_all_arith! [eq_false hc]
      rw [hz hd0]
      refine tail L0 _ l01 ?_ (fun k hk u hu => ?_) rfl
      · rw [hhr, hL0]
        exact Fm.corner
      · have : wAt L0 (k + 1) = none := by
          unfold wAt
          rw [hL0, List.getElem?_cons_succ, List.getElem?_map]
          cases (List.drop 1 g.outs)[k]? <;> rfl
        rw [this, hhr]
        rw [hhr] at hu
        exact hu.rw0
    · have hc : (h : Int) < (row : Int) := by omega
      have hp := hp (by omega)
      have f1 := hU h (by omega)
      have v2 := hul h (by omega)
      have hzl : (L.zip (rowO g.ups h)).length = w := by rw [List.length_zip, hl, v2]; omega
      simp_all_arith! [eq_true hc, lkD, f1, rO, zipD_map]
      refine comp_mapL (fun p : Wt × Option Int => .tup [wD p.1, oD p.2]) (fun p => wD (fur p.1 p.2 [117])) (by rw [hzl, sz]; omega) (fun p hpm K kK => ?_) ?_
      · obtain ⟨k, hk1, hk2⟩ := List.getElem_of_mem hpm
        rw [List.getElem_zip] at hk2
        have e1 : p.1 = wAt L k := by
          rw [← hk2]; unfold wAt
          rw [List.getElem?_eq_getElem (by omega)]; rfl
        simp_all_arith! []
        rw [tx_u]
        refine h1 n hn _ _ _ _ ⟨_, _, _, rfl, ?_, by decide, kK⟩
        rw [e1]
        exact (hp k (by omega)).shrt (by omega) (by omega)
      have eH : ((L.zip (rowO g.ups h)).map fun p => wD (fur p.1 p.2 [117])) = ((L.zip (rowO g.ups h)).map fun p => fur p.1 p.2 [117]).map wD := by rw [List.map_map]; rfl
      rw [eH]
      have hL1 : ∀ k, k < w → wAt ((L.zip (rowO g.ups h)).map fun p => fur p.1 p.2 [117]) k = fur (wAt L k) (lkAt g.ups h k) [117] := fun k hk => by
        have a1 : L[k]? = some (wAt L k) := by unfold wAt; rw [List.getElem?_eq_getElem (by omega)]; rfl
        have a2 : (rowO g.ups h)[k]? = some (lkAt g.ups h k) := by unfold lkAt atO; rw [List.getElem?_eq_getElem (by omega)]; rfl
        show ((List.map _ _)[k]?).getD none = _
        rw [List.getElem?_map, (List.getElem?_zip_eq_some (z := (wAt L k, lkAt g.ups h k))).mpr ⟨a1, a2⟩]; rfl
      have hh1 : row - (d - 1) = h + 1 := by omega
      rw [hh1] at hp
      refine tail _ _ (by rw [List.length_map, hzl]) ?_ (fun k hk u hu => ?_) rfl
      · rw [hL1 0 (by omega)]
        exact (hp 0 (by omega)).col (by omega)
      · rw [hL1 (k + 1) hk]
        exact (hp (k + 1) hk).ins (by omega) hu
  subst hy hC
  rw [List.length_range] at hp
  have hp := hp (by omega)
  rw [Nat.add_sub_cancel, Nat.sub_self] at hp
  have hzl : (L.zip g.outs).length = w := by rw [List.length_zip, hl, ho]; omega
  simp_all_arith! [zipD_map]
  refine comp_mapL (fun p : Wt × Int => .tup [wD p.1, .int p.2]) (fun p => wD (fur p.1 (some p.2) [])) (by rw [hzl, sz]; omega) (fun p hpm K kK => ?_) ?_
  · obtain ⟨k, hk1, hk2⟩ := List.getElem_of_mem hpm
    rw [List.getElem_zip] at hk2
    have e1 : p.1 = wAt L k := by
      rw [← hk2]; unfold wAt
      rw [List.getElem?_eq_getElem (by omega)]; rfl
    simp_all_arith! []
    rw [tx_0]
    refine h1 n hn _ _ _ _ ⟨_, some p.2, _, rfl, ?_, by decide, kK⟩
    rw [e1]
    exact (hp k (by omega)).shrt (by omega) (by omega)
  have eH : ((L.zip g.outs).map fun p => wD (fur p.1 (some p.2) [])) = ((L.zip g.outs).map fun p => fur p.1 (some p.2) []).map wD := by rw [List.map_map]; rfl
  rw [eH]
  simp_all_arith! []
  refine ⟨C1, sub_refl _, kk _ (by rw [List.length_map, hzl]) fun k hk => ⟨_, hp k hk, ?_⟩⟩
  have a1 : L[k]? = some (wAt L k) := by unfold wAt; rw [List.getElem?_eq_getElem (by omega)]; rfl
  have a2 : g.outs[k]? = some (inI g.outs k) := by unfold inI; rw [List.getElem?_eq_getElem (by omega)]; rfl
  show ((List.map _ _)[k]?).getD none = _
  rw [List.getElem?_map, (List.getElem?_zip_eq_some (z := (wAt L k, inI g.outs k))).mpr ⟨a1, a2⟩]; rfl
end
end M61.Wb

set_option Elab.async false
set_option linter.all false
set_option autoImplicit false
set_option maxRecDepth 100000
/-! PR: what repr shows of trees of numbers. -/
namespace M61.RP
open PySem PySem.Spec PyProof.Rows L2
mutual
/-- trees of numbers, truths, None; how long their text may be -/
def sh : D → Bool
  | .non => true
  | .bl _ => true
  | .int i => decide (i.natAbs < 10 ^ 100)
  | .str _ => false
  | .tup xs => shs xs
  | .lst xs => shs xs
  | .ref _ => false
  | .scr _ => false
  | .dic => false
def shs : List D → Bool
  | [] => true
  | x :: xs => sh x && shs xs
end
mutual
def cst : D → Nat
  | .non => 4
  | .bl _ => 5
  | .int _ => 101
  | .str _ => 0
  | .tup xs => csts xs + 3
  | .lst xs => csts xs + 3
  | .ref _ => 0
  | .scr _ => 0
  | .dic => 0
def csts : List D → Nat
  | [] => 0
  | x :: xs => cst x + 2 + csts xs
end
theorem shs_of : ∀ {xs : List D}, (∀ x ∈ xs, sh x = true) → shs xs = true
  | [], _ => rfl
  | x :: xs, h => by
    show (sh x && shs xs) = true
    rw [h x List.mem_cons_self, shs_of fun y hy => h y (List.mem_cons_of_mem _ hy)]; rfl
theorem shs_mem : ∀ {xs : List D}, shs xs = true → ∀ x ∈ xs, sh x = true
  | x :: xs, h, y, hy => by
    obtain ⟨h1, h2⟩ := Bool.and_eq_true_iff.mp (show (sh x && shs xs) = true from h)
    rcases List.mem_cons.mp hy with e | hy
    · rw [e]; exact h1
    · exact shs_mem h2 y hy
theorem csts_le : ∀ {xs : List D} {m : Nat}, (∀ x ∈ xs, cst x ≤ m) → csts xs ≤ xs.length * (m + 2)
  | [], m, _ => Nat.zero_le _
  | x :: xs, m, h => by
    have h1 := h x List.mem_cons_self
    have h2 := csts_le (xs := xs) (m := m) fun y hy => h y (List.mem_cons_of_mem _ hy)
    show cst x + 2 + csts xs ≤ (xs.length + 1) * (m + 2)
    rw [Nat.add_mul]; omega
theorem dict_all : ∀ xs : List D, (∀ x ∈ xs, x.py.hasDict = false) → PyData.hasDictAll (D.pys xs) = false
  | [], _ => rfl
  | x :: xs, h => by
    show (PyData.hasDict x.py || PyData.hasDictAll (D.pys xs)) = false
    rw [h x List.mem_cons_self, dict_all xs fun y hy => h y (List.mem_cons_of_mem _ hy)]; rfl
theorem showable_int {i : Int} (h : i.natAbs < 10 ^ 100) : (PyData.int i).showable = true := by
  show decide (i.natAbs.log2 < 1920) = true
  refine decide_eq_true ?_
  by_cases e : i.natAbs = 0
  · rw [e]; decide
  · exact (Nat.log2_lt e).mpr (Nat.lt_trans h (by decide +kernel))
mutual
theorem sh_pure : ∀ d : D, sh d = true → d.pure = true ∧ d.py.showable = true ∧ d.py.hasDict = false ∧ d.py.shown.length ≤ cst d ∧ ∀ c ∈ d.py.shown.cps.toList, c < 0x110000
  | .non, _ => ⟨rfl, rfl, rfl, Nat.le_refl 4, fun c hc => by
      rw [show (D.py .non) = PyData.none from rfl, PyData.shown_none] at hc
      have e : (("None" : String) : Str).cps.toList = [78, 111, 110, 101] := by decide
      rw [e] at hc; simp only [List.mem_cons, List.not_mem_nil, or_false] at hc; omega⟩
  | .bl b, _ => ⟨rfl, rfl, rfl, by cases b <;> decide, fun c hc => by
      rw [show (D.py (.bl b)) = PyData.bool b from rfl, PyData.shown_bool] at hc
      have e1 : (Str.ofString "False").cps.toList = [70, 97, 108, 115, 101] := by decide
      have e2 : (Str.ofString "True").cps.toList = [84, 114, 117, 101] := by decide
      cases b
      · have hc : c ∈ (Str.ofString "False").cps.toList := hc
        rw [e1] at hc; simp only [List.mem_cons, List.not_mem_nil, or_false] at hc; omega
      · have hc : c ∈ (Str.ofString "True").cps.toList := hc
        rw [e2] at hc; simp only [List.mem_cons, List.not_mem_nil, or_false] at hc; omega⟩
  | .int i, h => by
    have h : i.natAbs < 10 ^ 100 := of_decide_eq_true h
    refine ⟨rfl, showable_int h, rfl, ?_, fun c hc => ?_⟩
    · have := int_text_length_le10 (k := 100) (by decide) h
      show (PyData.shown (.int i)).length ≤ 101
      rw [PyData.shown_int]
      show (Str.ofString (toString i)).length ≤ 101
      rw [PySem.ofString_length]; exact this
    · by_cases q : c < 0x110000
      · exact q
      · exact absurd hc (shown_int_free' ⟨by omega, by omega⟩ i)
  | .tup xs, h => by
    obtain ⟨a1, a2, a3, a4, a5⟩ := shs_pure xs h
    refine ⟨a1, a2, a3, ?_, fun c hc => ?_⟩
    · show (tupleText (PyData.shownAll (D.pys xs))).length ≤ csts xs + 3
      have := tupleText_len_le (PyData.shownAll (D.pys xs))
      omega
    · have hc : c ∈ (PyData.tuple (D.pys xs)).shown.cps.toList := hc
      rw [PyData.shown_tuple, mem_cps_append, mem_cps_append, mem_join, signs_lparen, signs_sep] at hc
      rcases hc with (hc | ⟨t, ht, hc⟩ | ⟨_, hc⟩) | hc
      · simp only [List.mem_cons, List.not_mem_nil, or_false] at hc; omega
      · exact a5 t ht c hc
      · simp only [List.mem_cons, List.not_mem_nil, or_false] at hc; omega
      · split at hc
        · have e : ((",)" : String) : Str).cps.toList = [44, 41] := by decide
          rw [e] at hc; simp only [List.mem_cons, List.not_mem_nil, or_false] at hc; omega
        · have e : ((")" : String) : Str).cps.toList = [41] := by decide
          rw [e] at hc; simp only [List.mem_cons, List.not_mem_nil, or_false] at hc; omega
  | .lst xs, h => by
    obtain ⟨a1, a2, a3, a4, a5⟩ := shs_pure xs h
    refine ⟨a1, a2, a3, ?_, fun c hc => ?_⟩
    · show (listText (PyData.shownAll (D.pys xs))).length ≤ csts xs + 3
      have := listText_len_le (PyData.shownAll (D.pys xs))
      omega
    · have hc : c ∈ (PyData.list (D.pys xs)).shown.cps.toList := hc
      rw [PyData.shown_list, mem_cps_append, mem_cps_append, mem_join, signs_lbrack, signs_rbrack, signs_sep] at hc
      rcases hc with (hc | ⟨t, ht, hc⟩ | ⟨_, hc⟩) | hc
      · simp only [List.mem_cons, List.not_mem_nil, or_false] at hc; omega
      · exact a5 t ht c hc
      · simp only [List.mem_cons, List.not_mem_nil, or_false] at hc; omega
      · simp only [List.mem_cons, List.not_mem_nil, or_false] at hc; omega
  | .str _, h => by cases h
  | .ref _, h => by cases h
  | .scr _, h => by cases h
  | .dic, h => by cases h
theorem shs_pure : ∀ xs : List D, shs xs = true → D.pures xs = true ∧ PyData.showableAll (D.pys xs) = true ∧ PyData.hasDictAll (D.pys xs) = false ∧
    ((PyData.shownAll (D.pys xs)).map (·.length)).sum + 2 * (PyData.shownAll (D.pys xs)).length ≤ csts xs ∧ ∀ t ∈ PyData.shownAll (D.pys xs), ∀ c ∈ t.cps.toList, c < 0x110000
  | [], _ => ⟨rfl, rfl, rfl, Nat.le_refl 0, fun t ht => by cases ht⟩
  | x :: xs, h => by
    obtain ⟨h1, h2⟩ := Bool.and_eq_true_iff.mp (show (sh x && shs xs) = true from h)
    obtain ⟨a1, a2, a3, a4, a5⟩ := sh_pure x h1
    obtain ⟨b1, b2, b3, b4, b5⟩ := shs_pure xs h2
    refine ⟨?_, ?_, ?_, ?_, ?_⟩
    · show (D.pure x && D.pures xs) = true; rw [a1, b1]; rfl
    · show (PyData.showable x.py && PyData.showableAll (D.pys xs)) = true; rw [a2, b2]; rfl
    · show (PyData.hasDict x.py || PyData.hasDictAll (D.pys xs)) = false; rw [a3, b3]; rfl
    · show (((x.py.shown :: PyData.shownAll (D.pys xs)).map (·.length)).sum + 2 * (x.py.shown :: PyData.shownAll (D.pys xs)).length) ≤ cst x + 2 + csts xs
      rw [List.map_cons, List.sum_cons, List.length_cons]; omega
    · intro t ht
      have ht : t ∈ x.py.shown :: PyData.shownAll (D.pys xs) := ht
      rcases List.mem_cons.mp ht with e | ht
      · rw [e]; exact a5
      · exact b5 t ht
end
/-- what repr tells -/
@[reducible] def rp (d : D) : Str := d.py.shown
structure Rok (d : D) : Prop where
  s : sh d = true
  e : d.dep ≤ 64
  z : cst d ≤ 16777216
theorem repr_use {d : D} {C : CM} {P : D → Prop} (h : Rok d) (k : P (.str (rp d))) : bltR C .repr [d] P := by
  obtain ⟨a1, a2, a3, a4, a5⟩ := sh_pure d h.s
  rw [repr_r]
  exact ⟨a1, a2, a3, by rw [py_dep]; exact h.e, by rw [sz]; exact Nat.le_trans a4 h.z, k⟩
theorem repr_go {d : D} {Q : Prop} (h : Rok d) (k : Q) : d.pure = true ∧ d.py.showable = true ∧ d.py.hasDict = false ∧ d.py.depth ≤ 64 ∧ d.py.shown.length ≤ 16777216 ∧ Q := by
  obtain ⟨a1, a2, a3, a4, a5⟩ := sh_pure d h.s
  exact ⟨a1, a2, a3, by rw [py_dep]; exact h.e, Nat.le_trans a4 h.z, k⟩
theorem rp_Cmp {d : D} (h : Rok d) : (D.str (rp d)).Cmp := by
  obtain ⟨a1, a2, a3, a4, a5⟩ := sh_pure d h.s
  refine cmp_of rfl (Nat.zero_le _) ?_
  show PyData.canLay0 (.str d.py.shown) = true
  show PyData.strOk d.py.shown = true
  unfold PyData.strOk
  rw [Array.all_eq_true_iff_forall_mem]
  intro c hc
  exact decide_eq_true (a5 c (Array.mem_toList_iff.mpr hc))
theorem str_self (x : Str) : (D.str x).eqv (.str x) = true := by
  show (x == x) = true
  exact beq_self_eq_true x
end M61.RP

set_option Elab.async false
set_option linter.all false
set_option autoImplicit false
set_option maxRecDepth 100000
/-! P57: the table of a web, by law; how great its numbers are. -/
namespace M61.Wb
open PySem PySem.Spec PyProof.Rows L2
local macro_rules
  | `(tactic| simp_arith! [$ls,*] $[$loc:location]?) => `(tactic| try simp only [wipeR_cons, wipeR_nil, eq_self, denE, denT, denEs, denO, denC, denI, bindT_nm, bindT_tp, bindT_tl, bindTs_nil, bindTs_cons, varD_0, varD_s, varM_own0, varM_dat0, varM_s, varO_0, varO_s, varL_own0, varL_ref0, varL_s, sz, cp1, cp2, cp3, cp4, cp5, cp6, cp7, cp8, cp9, cp10, cp11, cp12, cp15, cp18, add_i, add_t, add_l, add_s, add_b, sub_b, sub_i, mul_i, mul_t, mul_l, fdiv_i, mod_i, pow_i, shl_i, eq_r, ne_r, inn_t, nin_t, inn_l, nin_l, lt_r, lt_tt, le_r, gt_r, ge_r, is_n, isn_n, is_b, isn_b, isNon_n, isNon_i, isNon_t, isNon_l, isNon_b, isNon_s, tru_n, tru_b, tru_i, tru_t, tru_l, ix_t, ix_l, ix_c, ix_r, cellAt_l, cellL_l, lstD_l, lstD_r, sqD_t, sqD_l, sl_t, sl_l, sl_c, sl_r, rev_t, rev_l, len_t, len_l, len_c, len_r, tup_t, tup_l, tup_r, sum_t, sum_l, sum_r, min_t, min_l, max_t, max_l, min_2, max_2, min_3, repr_r, str_ri, abs_i, int_i, int_b, all_l, any_l, ty_bb, ty_bi, ty_bn, ty_bt, ty_ss, ty_sn, ty_si, ty_sb, ty_ii, ty_ib, ty_in, ty_it, ty_tt, ty_tn, ty_ti, ty_tb, ty_ll, ty_lt, ty_is, ty_il, ty_bs, ty_blst, ty_st, ty_sl, ty_ts, ty_tl, ty_ln, ty_li, ty_lb, ty_ls, intsOf_map, boolsOf_map, pair_Cmp, int_Cmp, bl_Cmp, non_Cmp, ints_Cmp, intst_Cmp, eqv_int, eqv_bl, eqv_ints, eqv_intst, List.map_cons, List.map_nil, List.replicate_succ, List.replicate_zero, List.cons_append, List.nil_append, List.set_cons_zero, List.set_cons_succ, List.length_cons, List.length_nil, List.getElem?_cons_zero, List.getElem?_cons_succ, List.eraseIdx_cons_zero, Nat.reduceSub, Nat.reduceAdd, Nat.reduceLT, Nat.reduceLeDiff, Nat.reducePow, Nat.reduceEqDiff, Nat.reduceMul, Int.reducePow, Int.reduceToNat, Int.reduceMul, Int.reduceAdd, Int.reduceSub, Int.reduceNeg, Int.reduceLT, Int.reduceLE, Int.reduceEq, Int.reduceBEq, Int.reduceBNe, zero_add', not_true_eq_false, not_false_eq_true, Bool.true_eq_false, false_and, and_false, true_and, and_true, exists_eq_left', exists_and_left, Option.some.injEq, Cell.lst.injEq, Cell.dct.injEq, if_pos_true, reduceIte, Bool.false_eq_true, decide_true, decide_false, Bool.not_true, Bool.not_false, Bool.not_eq_true', Bool.and_true, Bool.true_and, decide_eq_true_eq, decide_eq_false_iff_not, ite_self, List.isEmpty_cons, List.isEmpty_nil, ss_nil', ss_cons', s_set', s_own', s_setF', s_unp', s_par2', par2K_e, s_par3', par3K_e, s_app', s_ext', extK_e, s_exp', s_csub', csubK_e, s_dset', dsetK_e, s_capp', cappK_e, s_aug', augK_a, augK_s, s_oset', osetK_e, s_ife', s_for', s_forc', forcK_e, s_whl', s_ret', s_ret0', s_pass', s_brk', s_cnt', l_comp', l_compc', compcK_e, l_lit', l_cat', l_rvd', l_lrv', l_ls2', l_list', l_srt', srtK_e, l_srr', srrK_e, l_lrg1', l_lrg2', lrgK_e, l_rep', repK_e, setM_nil, setM_cons, Int.toNat_natCast, List.length_map, exists_eq_left, $ls,*] $[$loc]?)
local macro_rules
  | `(tactic| simp_all_arith! [$ls,*]) => `(tactic| ((try simp only [wipeR_cons, wipeR_nil, eq_self, denE, denT, denEs, denO, denC, denI, bindT_nm, bindT_tp, bindT_tl, bindTs_nil, bindTs_cons, varD_0, varD_s, varM_own0, varM_dat0, varM_s, varO_0, varO_s, varL_own0, varL_ref0, varL_s, sz, cp1, cp2, cp3, cp4, cp5, cp6, cp7, cp8, cp9, cp10, cp11, cp12, cp15, cp18, add_i, add_t, add_l, add_s, add_b, sub_b, sub_i, mul_i, mul_t, mul_l, fdiv_i, mod_i, pow_i, shl_i, eq_r, ne_r, inn_t, nin_t, inn_l, nin_l, lt_r, lt_tt, le_r, gt_r, ge_r, is_n, isn_n, is_b, isn_b, isNon_n, isNon_i, isNon_t, isNon_l, isNon_b, isNon_s, tru_n, tru_b, tru_i, tru_t, tru_l, ix_t, ix_l, ix_c, ix_r, cellAt_l, cellL_l, lstD_l, lstD_r, sqD_t, sqD_l, sl_t, sl_l, sl_c, sl_r, rev_t, rev_l, len_t, len_l, len_c, len_r, tup_t, tup_l, tup_r, sum_t, sum_l, sum_r, min_t, min_l, max_t, max_l, min_2, max_2, min_3, repr_r, str_ri, abs_i, int_i, int_b, all_l, any_l, ty_bb, ty_bi, ty_bn, ty_bt, ty_ss, ty_sn, ty_si, ty_sb, ty_ii, ty_ib, ty_in, ty_it, ty_tt, ty_tn, ty_ti, ty_tb, ty_ll, ty_lt, ty_is, ty_il, ty_bs, ty_blst, ty_st, ty_sl, ty_ts, ty_tl, ty_ln, ty_li, ty_lb, ty_ls, intsOf_map, boolsOf_map, pair_Cmp, int_Cmp, bl_Cmp, non_Cmp, ints_Cmp, intst_Cmp, eqv_int, eqv_bl, eqv_ints, eqv_intst, List.map_cons, List.map_nil, List.replicate_succ, List.replicate_zero, List.cons_append, List.nil_append, List.set_cons_zero, List.set_cons_succ, List.length_cons, List.length_nil, List.getElem?_cons_zero, List.getElem?_cons_succ, List.eraseIdx_cons_zero, Nat.reduceSub, Nat.reduceAdd, Nat.reduceLT, Nat.reduceLeDiff, Nat.reducePow, Nat.reduceEqDiff, Nat.reduceMul, Int.reducePow, Int.reduceToNat, Int.reduceMul, Int.reduceAdd, Int.reduceSub, Int.reduceNeg, Int.reduceLT, Int.reduceLE, Int.reduceEq, Int.reduceBEq, Int.reduceBNe, zero_add', not_true_eq_false, not_false_eq_true, Bool.true_eq_false, false_and, and_false, true_and, and_true, exists_eq_left', exists_and_left, Option.some.injEq, Cell.lst.injEq, Cell.dct.injEq, if_pos_true, reduceIte, Bool.false_eq_true, decide_true, decide_false, Bool.not_true, Bool.not_false, Bool.not_eq_true', Bool.and_true, Bool.true_and, decide_eq_true_eq, decide_eq_false_iff_not, ite_self, List.isEmpty_cons, List.isEmpty_nil, ss_nil', ss_cons', s_set', s_own', s_setF', s_unp', s_par2', par2K_e, s_par3', par3K_e, s_app', s_ext', extK_e, s_exp', s_csub', csubK_e, s_dset', dsetK_e, s_capp', cappK_e, s_aug', augK_a, augK_s, s_oset', osetK_e, s_ife', s_for', s_forc', forcK_e, s_whl', s_ret', s_ret0', s_pass', s_brk', s_cnt', l_comp', l_compc', compcK_e, l_lit', l_cat', l_rvd', l_lrv', l_ls2', l_list', l_srt', srtK_e, l_srr', srrK_e, l_lrg1', l_lrg2', lrgK_e, l_rep', repK_e, setM_nil, setM_cons, Int.toNat_natCast, List.length_map, exists_eq_left, $ls,*]); (repeat ((with_reducible (first | refine blk_of ?_ | refine turn_of ?_ | refine tst_of ?_)); (try simp only [wipeR_cons, wipeR_nil, eq_self, denE, denT, denEs, denO, denC, denI, bindT_nm, bindT_tp, bindT_tl, bindTs_nil, bindTs_cons, varD_0, varD_s, varM_own0, varM_dat0, varM_s, varO_0, varO_s, varL_own0, varL_ref0, varL_s, sz, cp1, cp2, cp3, cp4, cp5, cp6, cp7, cp8, cp9, cp10, cp11, cp12, cp15, cp18, add_i, add_t, add_l, add_s, add_b, sub_b, sub_i, mul_i, mul_t, mul_l, fdiv_i, mod_i, pow_i, shl_i, eq_r, ne_r, inn_t, nin_t, inn_l, nin_l, lt_r, lt_tt, le_r, gt_r, ge_r, is_n, isn_n, is_b, isn_b, isNon_n, isNon_i, isNon_t, isNon_l, isNon_b, isNon_s, tru_n, tru_b, tru_i, tru_t, tru_l, ix_t, ix_l, ix_c, ix_r, cellAt_l, cellL_l, lstD_l, lstD_r, sqD_t, sqD_l, sl_t, sl_l, sl_c, sl_r, rev_t, rev_l, len_t, len_l, len_c, len_r, tup_t, tup_l, tup_r, sum_t, sum_l, sum_r, min_t, min_l, max_t, max_l, min_2, max_2, min_3, repr_r, str_ri, abs_i, int_i, int_b, all_l, any_l, ty_bb, ty_bi, ty_bn, ty_bt, ty_ss, ty_sn, ty_si, ty_sb, ty_ii, ty_ib, ty_in, ty_it, ty_tt, ty_tn, ty_ti, ty_tb, ty_ll, ty_lt, ty_is, ty_il, ty_bs, ty_blst, ty_st, ty_sl, ty_ts, ty_tl, ty_ln, ty_li, ty_lb, ty_ls, intsOf_map, boolsOf_map, pair_Cmp, int_Cmp, bl_Cmp, non_Cmp, ints_Cmp, intst_Cmp, eqv_int, eqv_bl, eqv_ints, eqv_intst, List.map_cons, List.map_nil, List.replicate_succ, List.replicate_zero, List.cons_append, List.nil_append, List.set_cons_zero, List.set_cons_succ, List.length_cons, List.length_nil, List.getElem?_cons_zero, List.getElem?_cons_succ, List.eraseIdx_cons_zero, Nat.reduceSub, Nat.reduceAdd, Nat.reduceLT, Nat.reduceLeDiff, Nat.reducePow, Nat.reduceEqDiff, Nat.reduceMul, Int.reducePow, Int.reduceToNat, Int.reduceMul, Int.reduceAdd, Int.reduceSub, Int.reduceNeg, Int.reduceLT, Int.reduceLE, Int.reduceEq, Int.reduceBEq, Int.reduceBNe, zero_add', not_true_eq_false, not_false_eq_true, Bool.true_eq_false, false_and, and_false, true_and, and_true, exists_eq_left', exists_and_left, Option.some.injEq, Cell.lst.injEq, Cell.dct.injEq, if_pos_true, reduceIte, Bool.false_eq_true, decide_true, decide_false, Bool.not_true, Bool.not_false, Bool.not_eq_true', Bool.and_true, Bool.true_and, decide_eq_true_eq, decide_eq_false_iff_not, ite_self, List.isEmpty_cons, List.isEmpty_nil, ss_nil', ss_cons', s_set', s_own', s_setF', s_unp', s_par2', par2K_e, s_par3', par3K_e, s_app', s_ext', extK_e, s_exp', s_csub', csubK_e, s_dset', dsetK_e, s_capp', cappK_e, s_aug', augK_a, augK_s, s_oset', osetK_e, s_ife', s_for', s_forc', forcK_e, s_whl', s_ret', s_ret0', s_pass', s_brk', s_cnt', l_comp', l_compc', compcK_e, l_lit', l_cat', l_rvd', l_lrv', l_ls2', l_list', l_srt', srtK_e, l_srr', srrK_e, l_lrg1', l_lrg2', lrgK_e, l_rep', repK_e, setM_nil, setM_cons, Int.toNat_natCast, List.length_map, exists_eq_left, $ls,*])))))
open M61.W47
def i_law_table : Def := ⟨1, 5,
  (.cons (.own 1 (.lit .nil))
  (.cons (.for (.nm 2) (.rng1 (.blt .len (.cons (.ix (.var 0) (.int 0)) .nil))) (.cons (.set 3 (.call "_law_ways" (.cons (.var 0) (.cons (.var 2) .nil))))
  (.cons (.app 1 (.blt .tuple (.cons (.frz (.comp [4] (.ife (.cmp .is (.var 4) .non) .non (.ix (.var 4) (.int 0))) (.nm 4) (.seq (.var 3)) .no)) .nil)))
  .nil)))
  (.cons (.ret (.blt .tuple (.cons (.mv 1) .nil)))
  .nil)))⟩
/-- a web's table -/
structure TabOf (m w : Nat) (g : Web) (t : List (List (Option Int))) : Prop where
  h : t.length = m
  row : ∀ r ∈ t, r.length = w
  v : ∀ r k, r < m → k < w → ∃ o, To (gr g) r 0 k o ∧ lkAt t r k = by' (some (inI g.ins r + inI g.outs k)) o
theorem lk_ext {t u : List (List (Option Int))} {m w : Nat} (h1 : t.length = m) (h2 : ∀ r ∈ t, r.length = w) (g1 : u.length = m) (g2 : ∀ r ∈ u, r.length = w) (e : ∀ r k, r < m → k < w → lkAt t r k = lkAt u r k) : t = u := by
  refine List.ext_getElem (by omega) fun r hr hr2 => ?_
  have a1 := h2 _ (List.getElem_mem hr)
  have a2 := g2 _ (List.getElem_mem hr2)
  refine List.ext_getElem (by omega) fun k hk hk2 => ?_
  have := e r k (by omega) (by omega)
  unfold lkAt atO rowO at this
  rw [List.getElem?_eq_getElem hr, List.getElem?_eq_getElem hr2] at this
  dsimp only [Option.getD] at this
  rw [List.getElem?_eq_getElem hk, List.getElem?_eq_getElem hk2] at this
  exact this
theorem TabOf.uniq {m w : Nat} {g : Web} {t u : List (List (Option Int))} (a : TabOf m w g t) (b : TabOf m w g u) : t = u :=
  lk_ext a.h a.row b.h b.row fun r k hr hk => by
    obtain ⟨o, h1, h2⟩ := a.v r k hr hk
    obtain ⟨p, h3, h4⟩ := b.v r k hr hk
    rw [h2, h4, h1.uniq h3]
/-- links no greater than B -/
def GrB (B : Int) (g : Gr) : Prop := (∀ r k x, g.R r k = some x → -B ≤ x ∧ x ≤ B) ∧ (∀ r k x, g.U r k = some x → -B ≤ x ∧ x ≤ B)
theorem Wy.bd {g : Gr} {B : Int} (hB : GrB B g) {r k r' k' : Nat} {l : Int} {s : List Nat} (h : Wy g r k r' k' l s) : -(B * s.length) ≤ l ∧ l ≤ B * s.length := by
  induction h with
  | nil => simp
  | right e _ ih =>
    have := hB.1 _ _ _ e
    rw [List.length_cons, Int.natCast_add, Int.mul_add]
    omega
  | up e _ ih =>
    have := hB.2 _ _ _ e
    rw [List.length_cons, Int.natCast_add, Int.mul_add]
    omega
theorem lk_bd {m w : Nat} {t : List (List (Option Int))} (h : Lk m w t) (r k : Nat) (x : Int) (e : lkAt t r k = some x) : -1000000000 ≤ x ∧ x ≤ 1000000000 := by
  unfold lkAt atO rowO at e
  cases h1 : t[r]? with
  | none => rw [h1] at e; simp at e
  | some q =>
    rw [h1] at e
    dsimp only [Option.getD] at e
    cases h2 : q[k]? with
    | none => rw [h2] at e; simp at e
    | some z =>
      rw [h2] at e
      dsimp only [Option.getD] at e
      subst e
      exact h.bd q (List.mem_of_getElem? h1) x (List.mem_of_getElem? h2)
theorem WebOk.grb {m w : Nat} {g : Web} (h : WebOk m w g) : GrB 1000000000 (gr g) := ⟨fun r k x e => lk_bd h.r r k x e, fun r k x e => lk_bd h.u r k x e⟩
theorem inI_bd {l : List Int} (h : ∀ x ∈ l, -1000000000 ≤ x ∧ x ≤ 1000000000) (k : Nat) : -1000000000 ≤ inI l k ∧ inI l k ≤ 1000000000 := by
  unfold inI
  cases e : l[k]? with
  | none => exact ⟨by decide, by decide⟩
  | some x => exact h x (List.mem_of_getElem? e)
theorem oD_sh {o : Option Int} (h : ∀ x, o = some x → x.natAbs < 10 ^ 100) : RP.sh (oD o) = true ∧ RP.cst (oD o) ≤ 101 := by
  cases o with
  | none => exact ⟨rfl, by decide⟩
  | some x => exact ⟨decide_eq_true (h x rfl), Nat.le_refl _⟩
theorem oD_dep (o : Option Int) : (oD o).dep = 0 := by cases o <;> rfl
theorem deps_le : ∀ {xs : List D} {b : Nat}, (∀ x ∈ xs, D.dep x ≤ b) → D.deps xs ≤ b
  | [], _, _ => Nat.zero_le _
  | x :: xs, b, h => Nat.max_le.mpr ⟨h x List.mem_cons_self, deps_le fun y hy => h y (List.mem_cons_of_mem _ hy)⟩
theorem lk_rok {t : List (List (Option Int))} {m w : Nat} (h1 : t.length = m) (h2 : ∀ r ∈ t, r.length = w) (hm : m ≤ 100) (hw : w ≤ 100) (hb : ∀ r k x, lkAt t r k = some x → x.natAbs < 10 ^ 100) : RP.Rok (lkD t) := by
  have hr : ∀ r ∈ t, RP.sh (rO r) = true ∧ RP.cst (rO r) ≤ 10303 := fun r hr => by
    obtain ⟨i, hi, rfl⟩ := List.getElem_of_mem hr
    have ho : ∀ o ∈ t[i], ∀ x, o = some x → x.natAbs < 10 ^ 100 := fun o ho x e => by
      obtain ⟨k, hk, rfl⟩ := List.getElem_of_mem ho
      refine hb i k x ?_
      unfold lkAt atO rowO
      rw [List.getElem?_eq_getElem hi]
      dsimp only [Option.getD]
      rw [List.getElem?_eq_getElem hk]
      exact e
    refine ⟨RP.shs_of fun x hx => ?_, ?_⟩
    · obtain ⟨o, q, rfl⟩ := List.mem_map.mp hx
      exact (oD_sh (ho o q)).1
    · show RP.csts (t[i].map oD) + 3 ≤ 10303
      have h1 := RP.csts_le (xs := t[i].map oD) (m := 101) fun x hx => by
        obtain ⟨o, q, rfl⟩ := List.mem_map.mp hx
        exact (oD_sh (ho o q)).2
      rw [List.length_map, h2 _ (List.getElem_mem hi)] at h1
      omega
  refine ⟨RP.shs_of fun x hx => ?_, ?_, ?_⟩
  · obtain ⟨r, hm, rfl⟩ := List.mem_map.mp hx
    exact (hr r hm).1
  · show D.deps (t.map rO) + 1 ≤ 64
    have := deps_le (xs := t.map rO) (b := 1) fun x hx => by
      obtain ⟨r, hm, rfl⟩ := List.mem_map.mp hx
      show D.deps (r.map oD) + 1 ≤ 1
      have := deps_le (xs := r.map oD) (b := 0) fun y hy => by
        obtain ⟨o, _, rfl⟩ := List.mem_map.mp hy
        rw [oD_dep]; exact Nat.le_refl _
      omega
    omega
  · show RP.csts (t.map rO) + 3 ≤ _
    have h1 := RP.csts_le (xs := t.map rO) (m := 10303) fun x hx => by
      obtain ⟨r, hm, rfl⟩ := List.mem_map.mp hx
      exact (hr r hm).2
    rw [List.length_map] at h1
    have : t.length * (10303 + 2) ≤ 100 * (10303 + 2) := Nat.mul_le_mul_right _ (by omega)
    omega
/-- a drawn web's table can be shown -/
theorem TabOf.rok {m w : Nat} {g : Web} {t : List (List (Option Int))} (a : TabOf m w g t) (W : WebOk m w g) (hm : m ≤ 100) (hw : w ≤ 100) : RP.Rok (lkD t) := by
  refine lk_rok a.h a.row hm hw fun r k x e => ?_
  by_cases hr : r < m ∧ k < w
  · obtain ⟨o, h1, h2⟩ := a.v r k hr.1 hr.2
    rw [e] at h2
    cases o with
    | none => cases h2
    | some y =>
      have h2 := Option.some.inj h2
      obtain ⟨⟨s, wy⟩, _⟩ := h1
      have b1 := wy.bd (WebOk.grb W)
      have b2 := wy.mono
      have b3 := inI_bd W.ib r
      have b4 := inI_bd W.ob k
      have : (s.length : Int) ≤ 200 := by omega
      omega
  · exfalso
    unfold lkAt atO rowO at e
    cases h1 : t[r]? with
    | none => rw [h1] at e; simp at e
    | some q =>
      rw [h1] at e
      dsimp only [Option.getD] at e
      obtain ⟨z1, z2⟩ := List.getElem?_eq_some_iff.mp h1
      have := a.row q (List.mem_of_getElem? h1)
      have h3 := a.h
      rw [List.getElem?_eq_none (by omega)] at e
      cases e
section
variable {tb : List (String × Def)} {n : Nat} {C : CM} {P : D → CM → Prop} {ex : Exc → CM → Prop} {G : Ctx}
def LTabR (ds : List D) (C : CM) (P : D → CM → Prop) : Prop := ∃ m w g, ds = [webD g] ∧ WebS m w g ∧ ∀ t, TabOf m w g t → P (lkD t) C
theorem ltab_ok (h1 : Sp tb "_law_ways" 2 WaysR) (hn : 2 ≤ n) {m w : Nat} {g : Web} (S : WebS m w g) (kk : ∀ t, TabOf m w g t → P (lkD t) C) : denF ⟨Gm tb n, ex⟩ i_law_table [webD g] C P := by
  refine ⟨rfl, ?_⟩
  have m2 := S.m2
  have w2 := S.w2
  have e0 : atI [intsD g.ins, lkD g.rights, lkD g.ups, intsD g.outs] 0 = some (intsD g.ins) := rfl
  simp_all_arith! [i_law_table, webD, e0]
  rw [show intsD g.ins = D.tup (g.ins.map .int) from rfl] at *
  simp_all_arith! [S.i]
  refine ⟨by omega, by omega, ?_⟩
  simp_all_arith! [rangeD_map]
  refine for_m (fun i : Nat => .int (i : Int)) [1, 2, 3] (fun done ys C' => ∃ (t : List (List (Option Int))) (x2 x3 : Option Dv), ys = [some (.own (t.map rO)), x2, x3] ∧ t.length = done.length ∧ (∀ r ∈ t, r.length = w) ∧ (∀ r k, r < done.length → k < w → ∃ o, To (gr g) r 0 k o ∧ lkAt t r k = by' (some (inI g.ins r + inI g.outs k)) o) ∧ C' = C) [some (.own []), none, none] rfl ⟨[], _, _, rfl, rfl, fun r h => (by cases h), fun r k h => absurd h (Nat.not_lt_zero _), rfl⟩ (fun done x rest ys C1 e ⟨t, x2, x3, hy, h1', h2', h3', hC⟩ nx knx => ?_) fun ys C1 ⟨t, x2, x3, hy, h1', h2', h3', hC⟩ => ?_
  · subst hy hC
    obtain ⟨hx, hlt⟩ := range_at e
    subst hx
    simp_all_arith! []
    refine h1 n hn _ _ _ _ ⟨m, w, g, done.length, rfl, S, hlt, fun qs hql hq => ?_⟩
    simp_all_arith! []
    refine comp_mapL wD (fun q : Wt => oD (q.map (·.1))) (by rw [hql, sz]; omega) (fun q hqm K kK => ?_) ?_
    · cases q with
      | none =>
        simp_all_arith! [wD_n]
        exact kK
      | some p =>
        simp_all_arith! [wD_s, atI_0]
        exact kK
    have eH : (qs.map fun q : Wt => oD (q.map (·.1))) = (qs.map fun q : Wt => q.map (·.1)).map oD := by rw [List.map_map]; rfl
    rw [eH]
    simp_all_arith! []
    refine ⟨by omega, ?_⟩
    have em : t.map rO ++ [D.tup ((qs.map fun q : Wt => q.map (·.1)).map oD)] = (t ++ [qs.map fun q : Wt => q.map (·.1)]).map rO := by rw [List.map_append]; rfl
    rw [em]
    refine knx [some (.own ((t ++ [qs.map fun q : Wt => q.map (·.1)]).map rO)), _, _] _ ⟨_, _, _, rfl, by rw [List.length_append, List.length_append, h1']; rfl, fun r hr => ?_, fun r k hr hk => ?_, rfl⟩
    · rcases List.mem_append.mp hr with q | q
      · exact h2' r q
      · rw [List.mem_singleton.mp q, List.length_map, hql]
    · rw [List.length_append, List.length_singleton] at hr
      have e4 : lkAt (t ++ [qs.map fun q : Wt => q.map (·.1)]) r k = if r < done.length then lkAt t r k else (wAt qs k).map (·.1) := by
        unfold lkAt rowO
        split
        · rw [List.getElem?_append_left (by omega)]
        · rw [List.getElem?_append_right (by omega), show r - t.length = 0 by omega]
          show ((List.map _ _)[k]?).getD none = _
          rw [List.getElem?_map]
          unfold wAt
          cases qs[k]? <;> rfl
      rw [e4]
      split
      · exact h3' r k (by assumption) hk
      · have hrd : r = done.length := by omega
        subst hrd
        obtain ⟨q, f, eq⟩ := hq k hk
        obtain ⟨o, to, eo⟩ := f.to
        refine ⟨o, to, ?_⟩
        rw [eq]
        cases q with
        | none =>
          cases o with
          | none => rfl
          | some y => cases eo
        | some p =>
          cases o with
          | none => cases eo
          | some y =>
            have eo := Option.some.inj eo
            show some (p.1 + inI g.outs k) = some (inI g.ins done.length + inI g.outs k + y)
            have eo : p.1 = inI g.ins done.length + y := eo
            rw [eo]; congr 1; omega
  · subst hy hC
    rw [List.length_range] at h1' h3'
    simp_all_arith! []
    exact ⟨C1, sub_refl _, kk t ⟨h1', h2', h3'⟩⟩
theorem tab_ok2 (h1 : Sp tb "by_link" 1 ByR) (h2 : Sp tb "lengths_to" 2 LenR) (hn : 2 ≤ n) {m w : Nat} {g : Web} (S : WebS m w g) (kk : ∀ t, TabOf m w g t → P (lkD t) C) : denF ⟨Gm tb n, ex⟩ iweb_table [webD g] C P :=
  tab_ok h1 h2 hn S fun t a b c => kk t ⟨a, b, c⟩
theorem sp_tab (a1 : tb.lookup "by_link" = some iby_link) (a2 : tb.lookup "lesser" = some ilesser) (a3 : tb.lookup "lengths_to" = some ilengths_to) (a4 : tb.lookup "web_table" = some iweb_table) : Sp tb "web_table" 3 LTabR :=
  have s1 : Sp tb "by_link" 1 ByR := sp_mk a1 fun n hn ds C P ex ⟨o, p, e, k⟩ => by subst e; exact by_ok k
  have s2 : Sp tb "lesser" 1 LesR := sp_mk a2 fun n hn ds C P ex ⟨o, p, e, k⟩ => by subst e; exact les_ok k
  have s3 : Sp tb "lengths_to" 2 LenR := sp_mk a3 fun n hn ds C P ex ⟨m, w, g, c, e, S, hc, k⟩ => by subst e; exact len_ok s1 s2 hn S hc k
  sp_mk a4 fun n hn ds C P ex ⟨m, w, g, e, S, k⟩ => by subst e; exact tab_ok2 (s1.mono (by omega)) s3 hn S k
theorem sp_len (a1 : tb.lookup "by_link" = some iby_link) (a2 : tb.lookup "lesser" = some ilesser) (a3 : tb.lookup "lengths_to" = some ilengths_to) : Sp tb "lengths_to" 2 LenR :=
  have s1 : Sp tb "by_link" 1 ByR := sp_mk a1 fun n hn ds C P ex ⟨o, p, e, k⟩ => by subst e; exact by_ok k
  have s2 : Sp tb "lesser" 1 LesR := sp_mk a2 fun n hn ds C P ex ⟨o, p, e, k⟩ => by subst e; exact les_ok k
  sp_mk a3 fun n hn ds C P ex ⟨m, w, g, c, e, S, hc, k⟩ => by subst e; exact len_ok s1 s2 hn S hc k
theorem sp_ways (a1 : tb.lookup "_law_further" = some i_law_further) (a2 : tb.lookup "_law_least" = some i_law_least) (a3 : tb.lookup "_law_ways" = some i_law_ways) : Sp tb "_law_ways" 2 WaysR :=
  have s1 : Sp tb "_law_further" 1 FurR := sp_mk a1 fun n hn ds C P ex ⟨q, o, c, e, hq, hc, k⟩ => by subst e; exact fur_ok hq hc k
  have s2 : Sp tb "_law_least" 1 LspR := sp_mk a2 fun n hn ds C P ex ⟨q, u, e, k⟩ => by subst e; exact lsp_ok k
  sp_mk a3 fun n hn ds C P ex ⟨m, w, g, row, e, S, hr, k⟩ => by subst e; exact ways_ok s1 s2 hn S hr k
theorem sp_ltab (a1 : tb.lookup "_law_further" = some i_law_further) (a2 : tb.lookup "_law_least" = some i_law_least) (a3 : tb.lookup "_law_ways" = some i_law_ways) (a4 : tb.lookup "_law_table" = some i_law_table) : Sp tb "_law_table" 3 LTabR :=
  sp_mk a4 fun n hn ds C P ex ⟨m, w, g, e, S, k⟩ => by subst e; exact ltab_ok (sp_ways a1 a2 a3) hn S k
end
end M61.Wb

set_option Elab.async false
set_option linter.all false
set_option autoImplicit false
set_option maxRecDepth 100000
/-! P58: the first of the least ways, by the program. -/
namespace M61.Wb
open PySem PySem.Spec PyProof.Rows L2
local macro_rules
  | `(tactic| simp_arith! [$ls,*] $[$loc:location]?) => `(tactic| try simp only [wipeR_cons, wipeR_nil, eq_self, denE, denT, denEs, denO, denC, denI, bindT_nm, bindT_tp, bindT_tl, bindTs_nil, bindTs_cons, varD_0, varD_s, varM_own0, varM_dat0, varM_s, varO_0, varO_s, varL_own0, varL_ref0, varL_s, sz, cp1, cp2, cp3, cp4, cp5, cp6, cp7, cp8, cp9, cp10, cp11, cp12, cp15, cp18, add_i, add_t, add_l, add_s, add_b, sub_b, sub_i, mul_i, mul_t, mul_l, fdiv_i, mod_i, pow_i, shl_i, eq_r, ne_r, inn_t, nin_t, inn_l, nin_l, lt_r, lt_tt, le_r, gt_r, ge_r, is_n, isn_n, is_b, isn_b, isNon_n, isNon_i, isNon_t, isNon_l, isNon_b, isNon_s, tru_n, tru_b, tru_i, tru_t, tru_l, ix_t, ix_l, ix_c, ix_r, cellAt_l, cellL_l, lstD_l, lstD_r, sqD_t, sqD_l, sl_t, sl_l, sl_c, sl_r, rev_t, rev_l, len_t, len_l, len_c, len_r, tup_t, tup_l, tup_r, sum_t, sum_l, sum_r, min_t, min_l, max_t, max_l, min_2, max_2, min_3, repr_r, str_ri, abs_i, int_i, int_b, all_l, any_l, ty_bb, ty_bi, ty_bn, ty_bt, ty_ss, ty_sn, ty_si, ty_sb, ty_ii, ty_ib, ty_in, ty_it, ty_tt, ty_tn, ty_ti, ty_tb, ty_ll, ty_lt, ty_is, ty_il, ty_bs, ty_blst, ty_st, ty_sl, ty_ts, ty_tl, ty_ln, ty_li, ty_lb, ty_ls, intsOf_map, boolsOf_map, pair_Cmp, int_Cmp, bl_Cmp, non_Cmp, ints_Cmp, intst_Cmp, eqv_int, eqv_bl, eqv_ints, eqv_intst, List.map_cons, List.map_nil, List.replicate_succ, List.replicate_zero, List.cons_append, List.nil_append, List.set_cons_zero, List.set_cons_succ, List.length_cons, List.length_nil, List.getElem?_cons_zero, List.getElem?_cons_succ, List.eraseIdx_cons_zero, Nat.reduceSub, Nat.reduceAdd, Nat.reduceLT, Nat.reduceLeDiff, Nat.reducePow, Nat.reduceEqDiff, Nat.reduceMul, Int.reducePow, Int.reduceToNat, Int.reduceMul, Int.reduceAdd, Int.reduceSub, Int.reduceNeg, Int.reduceLT, Int.reduceLE, Int.reduceEq, Int.reduceBEq, Int.reduceBNe, zero_add', not_true_eq_false, not_false_eq_true, Bool.true_eq_false, false_and, and_false, true_and, and_true, exists_eq_left', exists_and_left, Option.some.injEq, Cell.lst.injEq, Cell.dct.injEq, if_pos_true, reduceIte, Bool.false_eq_true, decide_true, decide_false, Bool.not_true, Bool.not_false, Bool.not_eq_true', Bool.and_true, Bool.true_and, decide_eq_true_eq, decide_eq_false_iff_not, ite_self, List.isEmpty_cons, List.isEmpty_nil, ss_nil', ss_cons', s_set', s_own', s_setF', s_unp', s_par2', par2K_e, s_par3', par3K_e, s_app', s_ext', extK_e, s_exp', s_csub', csubK_e, s_dset', dsetK_e, s_capp', cappK_e, s_aug', augK_a, augK_s, s_oset', osetK_e, s_ife', s_for', s_forc', forcK_e, s_whl', s_ret', s_ret0', s_pass', s_brk', s_cnt', l_comp', l_compc', compcK_e, l_lit', l_cat', l_rvd', l_lrv', l_ls2', l_list', l_srt', srtK_e, l_srr', srrK_e, l_lrg1', l_lrg2', lrgK_e, l_rep', repK_e, setM_nil, setM_cons, Int.toNat_natCast, List.length_map, exists_eq_left, $ls,*] $[$loc]?)
local macro_rules
  | `(tactic| simp_all_arith! [$ls,*]) => `(tactic| ((try simp only [wipeR_cons, wipeR_nil, eq_self, denE, denT, denEs, denO, denC, denI, bindT_nm, bindT_tp, bindT_tl, bindTs_nil, bindTs_cons, varD_0, varD_s, varM_own0, varM_dat0, varM_s, varO_0, varO_s, varL_own0, varL_ref0, varL_s, sz, cp1, cp2, cp3, cp4, cp5, cp6, cp7, cp8, cp9, cp10, cp11, cp12, cp15, cp18, add_i, add_t, add_l, add_s, add_b, sub_b, sub_i, mul_i, mul_t, mul_l, fdiv_i, mod_i, pow_i, shl_i, eq_r, ne_r, inn_t, nin_t, inn_l, nin_l, lt_r, lt_tt, le_r, gt_r, ge_r, is_n, isn_n, is_b, isn_b, isNon_n, isNon_i, isNon_t, isNon_l, isNon_b, isNon_s, tru_n, tru_b, tru_i, tru_t, tru_l, ix_t, ix_l, ix_c, ix_r, cellAt_l, cellL_l, lstD_l, lstD_r, sqD_t, sqD_l, sl_t, sl_l, sl_c, sl_r, rev_t, rev_l, len_t, len_l, len_c, len_r, tup_t, tup_l, tup_r, sum_t, sum_l, sum_r, min_t, min_l, max_t, max_l, min_2, max_2, min_3, repr_r, str_ri, abs_i, int_i, int_b, all_l, any_l, ty_bb, ty_bi, ty_bn, ty_bt, ty_ss, ty_sn, ty_si, ty_sb, ty_ii, ty_ib, ty_in, ty_it, ty_tt, ty_tn, ty_ti, ty_tb, ty_ll, ty_lt, ty_is, ty_il, ty_bs, ty_blst, ty_st, ty_sl, ty_ts, ty_tl, ty_ln, ty_li, ty_lb, ty_ls, intsOf_map, boolsOf_map, pair_Cmp, int_Cmp, bl_Cmp, non_Cmp, ints_Cmp, intst_Cmp, eqv_int, eqv_bl, eqv_ints, eqv_intst, List.map_cons, List.map_nil, List.replicate_succ, List.replicate_zero, List.cons_append, List.nil_append, List.set_cons_zero, List.set_cons_succ, List.length_cons, List.length_nil, List.getElem?_cons_zero, List.getElem?_cons_succ, List.eraseIdx_cons_zero, Nat.reduceSub, Nat.reduceAdd, Nat.reduceLT, Nat.reduceLeDiff, Nat.reducePow, Nat.reduceEqDiff, Nat.reduceMul, Int.reducePow, Int.reduceToNat, Int.reduceMul, Int.reduceAdd, Int.reduceSub, Int.reduceNeg, Int.reduceLT, Int.reduceLE, Int.reduceEq, Int.reduceBEq, Int.reduceBNe, zero_add', not_true_eq_false, not_false_eq_true, Bool.true_eq_false, false_and, and_false, true_and, and_true, exists_eq_left', exists_and_left, Option.some.injEq, Cell.lst.injEq, Cell.dct.injEq, if_pos_true, reduceIte, Bool.false_eq_true, decide_true, decide_false, Bool.not_true, Bool.not_false, Bool.not_eq_true', Bool.and_true, Bool.true_and, decide_eq_true_eq, decide_eq_false_iff_not, ite_self, List.isEmpty_cons, List.isEmpty_nil, ss_nil', ss_cons', s_set', s_own', s_setF', s_unp', s_par2', par2K_e, s_par3', par3K_e, s_app', s_ext', extK_e, s_exp', s_csub', csubK_e, s_dset', dsetK_e, s_capp', cappK_e, s_aug', augK_a, augK_s, s_oset', osetK_e, s_ife', s_for', s_forc', forcK_e, s_whl', s_ret', s_ret0', s_pass', s_brk', s_cnt', l_comp', l_compc', compcK_e, l_lit', l_cat', l_rvd', l_lrv', l_ls2', l_list', l_srt', srtK_e, l_srr', srrK_e, l_lrg1', l_lrg2', lrgK_e, l_rep', repK_e, setM_nil, setM_cons, Int.toNat_natCast, List.length_map, exists_eq_left, $ls,*]); (repeat ((with_reducible (first | refine blk_of ?_ | refine turn_of ?_ | refine tst_of ?_)); (try simp only [wipeR_cons, wipeR_nil, eq_self, denE, denT, denEs, denO, denC, denI, bindT_nm, bindT_tp, bindT_tl, bindTs_nil, bindTs_cons, varD_0, varD_s, varM_own0, varM_dat0, varM_s, varO_0, varO_s, varL_own0, varL_ref0, varL_s, sz, cp1, cp2, cp3, cp4, cp5, cp6, cp7, cp8, cp9, cp10, cp11, cp12, cp15, cp18, add_i, add_t, add_l, add_s, add_b, sub_b, sub_i, mul_i, mul_t, mul_l, fdiv_i, mod_i, pow_i, shl_i, eq_r, ne_r, inn_t, nin_t, inn_l, nin_l, lt_r, lt_tt, le_r, gt_r, ge_r, is_n, isn_n, is_b, isn_b, isNon_n, isNon_i, isNon_t, isNon_l, isNon_b, isNon_s, tru_n, tru_b, tru_i, tru_t, tru_l, ix_t, ix_l, ix_c, ix_r, cellAt_l, cellL_l, lstD_l, lstD_r, sqD_t, sqD_l, sl_t, sl_l, sl_c, sl_r, rev_t, rev_l, len_t, len_l, len_c, len_r, tup_t, tup_l, tup_r, sum_t, sum_l, sum_r, min_t, min_l, max_t, max_l, min_2, max_2, min_3, repr_r, str_ri, abs_i, int_i, int_b, all_l, any_l, ty_bb, ty_bi, ty_bn, ty_bt, ty_ss, ty_sn, ty_si, ty_sb, ty_ii, ty_ib, ty_in, ty_it, ty_tt, ty_tn, ty_ti, ty_tb, ty_ll, ty_lt, ty_is, ty_il, ty_bs, ty_blst, ty_st, ty_sl, ty_ts, ty_tl, ty_ln, ty_li, ty_lb, ty_ls, intsOf_map, boolsOf_map, pair_Cmp, int_Cmp, bl_Cmp, non_Cmp, ints_Cmp, intst_Cmp, eqv_int, eqv_bl, eqv_ints, eqv_intst, List.map_cons, List.map_nil, List.replicate_succ, List.replicate_zero, List.cons_append, List.nil_append, List.set_cons_zero, List.set_cons_succ, List.length_cons, List.length_nil, List.getElem?_cons_zero, List.getElem?_cons_succ, List.eraseIdx_cons_zero, Nat.reduceSub, Nat.reduceAdd, Nat.reduceLT, Nat.reduceLeDiff, Nat.reducePow, Nat.reduceEqDiff, Nat.reduceMul, Int.reducePow, Int.reduceToNat, Int.reduceMul, Int.reduceAdd, Int.reduceSub, Int.reduceNeg, Int.reduceLT, Int.reduceLE, Int.reduceEq, Int.reduceBEq, Int.reduceBNe, zero_add', not_true_eq_false, not_false_eq_true, Bool.true_eq_false, false_and, and_false, true_and, and_true, exists_eq_left', exists_and_left, Option.some.injEq, Cell.lst.injEq, Cell.dct.injEq, if_pos_true, reduceIte, Bool.false_eq_true, decide_true, decide_false, Bool.not_true, Bool.not_false, Bool.not_eq_true', Bool.and_true, Bool.true_and, decide_eq_true_eq, decide_eq_false_iff_not, ite_self, List.isEmpty_cons, List.isEmpty_nil, ss_nil', ss_cons', s_set', s_own', s_setF', s_unp', s_par2', par2K_e, s_par3', par3K_e, s_app', s_ext', extK_e, s_exp', s_csub', csubK_e, s_dset', dsetK_e, s_capp', cappK_e, s_aug', augK_a, augK_s, s_oset', osetK_e, s_ife', s_for', s_forc', forcK_e, s_whl', s_ret', s_ret0', s_pass', s_brk', s_cnt', l_comp', l_compc', compcK_e, l_lit', l_cat', l_rvd', l_lrv', l_ls2', l_list', l_srt', srtK_e, l_srr', srrK_e, l_lrg1', l_lrg2', lrgK_e, l_rep', repK_e, setM_nil, setM_cons, Int.toNat_natCast, List.length_map, exists_eq_left, $ls,*])))))
open M61.W47
def iweb_way : Def := ⟨3, 10,
  (.cons (.unp (.tp (.cons (.nm 6) (.cons (.nm 7) (.cons (.nm 8) (.cons (.nm 9) .nil))))) (.var 0))
  (.cons (.set 3 (.call "lengths_to" (.cons (.var 0) (.cons (.var 2) .nil))))
  (.cons (.ife (.cmp .is (.ix (.ix (.var 3) (.var 1)) (.int 0)) .non) (.cons (.ret .non)
  .nil) .nil)
  (.cons (.set 4 (.str ""))
  (.cons (.set 5 (.int 0))
  (.cons (.whl (.or (.cmp .gt (.var 1) (.int 0)) (.cmp .lt (.var 5) (.var 2))) (.cons (.ife (.and (.cmp .lt (.var 5) (.var 2)) (.cmp .eq (.call "by_link" (.cons (.ix (.ix (.var 7) (.var 1)) (.var 5)) (.cons (.ix (.ix (.var 3) (.var 1)) (.bin .add (.var 5) (.int 1))) .nil))) (.ix (.ix (.var 3) (.var 1)) (.var 5)))) (.cons (.set 4 (.bin .add (.var 4) (.str "r")))
  (.cons (.set 5 (.bin .add (.var 5) (.int 1)))
  .nil)) (.cons (.set 4 (.bin .add (.var 4) (.str "u")))
  (.cons (.set 1 (.bin .sub (.var 1) (.int 1)))
  .nil)))
  .nil))
  (.cons (.ret (.var 4))
  .nil)))))))⟩
open Builtin.Str in
theorem rep_fold (q : Nat) (h1 : reprChar q 114 = [114]) (h2 : reprChar q 117 = [117]) : ∀ (s : List Nat) (acc : Array Nat), (∀ c ∈ s, c = 114 ∨ c = 117) → s.foldl (fun out c => out ++ (reprChar q c).toArray) acc = acc ++ s.toArray
  | [], acc, _ => by simp
  | c :: s, acc, h => by
    rw [List.foldl_cons, rep_fold q h1 h2 s _ fun x hx => h x (List.mem_cons_of_mem _ hx)]
    have : reprChar q c = [c] := by
      rcases h c List.mem_cons_self with e | e <;> rw [e] <;> assumption
    rw [this]
    simp
theorem Wy.let {g : Gr} {r k r' k' : Nat} {l : Int} {s : List Nat} (h : Wy g r k r' k' l s) : ∀ c ∈ s, c = 114 ∨ c = 117 := by
  induction h with
  | nil => intro c hc; cases hc
  | right _ _ ih =>
    intro c hc
    rcases List.mem_cons.mp hc with e | q
    · exact .inl e
    · exact ih c q
  | up _ _ ih =>
    intro c hc
    rcases List.mem_cons.mp hc with e | q
    · exact .inr e
    · exact ih c q
open Builtin.Str in
theorem rep_txt {s : List Nat} (h : ∀ c ∈ s, c = 114 ∨ c = 117) : ∃ q, (q = 34 ∨ q = 39) ∧ reprText (tx s) = ⟨(q :: s ++ [q]).toArray⟩ := by
  have hq : reprQuote (tx s) = 34 ∨ reprQuote (tx s) = 39 := by
    unfold reprQuote
    split <;> simp
  refine ⟨reprQuote (tx s), hq, ?_⟩
  unfold reprText
  generalize reprQuote (tx s) = q at hq
  have h1 : reprChar q 114 = [114] := by rcases hq with e | e <;> rw [e] <;> decide +kernel
  have h2 : reprChar q 117 = [117] := by rcases hq with e | e <;> rw [e] <;> decide +kernel
  have e : (tx s).cps.foldl (fun out c => out ++ (reprChar q c).toArray) #[q] = #[q] ++ s.toArray := by
    rw [← Array.foldl_toList]
    exact rep_fold q h1 h2 s _ h
  rw [e]
  congr 1
  simp
/-- a way's text, or None -/
def sD : Wt → D
  | none => .non
  | some p => .str (tx p.2)
structure Shd (d : D) : Prop where
  p : d.pure = true
  s : d.py.showable = true
  n : d.py.hasDict = false
  e : d.py.depth ≤ 64
  z : d.py.shown.length ≤ 16777216
  c : (D.str d.py.shown).Cmp
theorem str_Cmp {x : Str} (h : ∀ c ∈ x.cps.toList, c < 0x110000) : (D.str x).Cmp := by
  refine cmp_of rfl (Nat.zero_le _) ?_
  show PyData.canLay0 (.str x) = true
  show PyData.strOk x = true
  unfold PyData.strOk
  rw [Array.all_eq_true_iff_forall_mem]
  intro c hc
  exact decide_eq_true (h c (Array.mem_toList_iff.mpr hc))
theorem sD_shd {q : Wt} (h : ∀ p, q = some p → p.2.length ≤ 10000 ∧ ∀ c ∈ p.2, c = 114 ∨ c = 117) : Shd (sD q) := by
  cases q with
  | none =>
    refine ⟨rfl, rfl, rfl, by decide, by decide, str_Cmp ?_⟩
    have e : (PyData.none).shown.cps.toList = [78, 111, 110, 101] := by decide
    intro c hc
    have hc : c ∈ (PyData.none).shown.cps.toList := hc
    rw [e] at hc
    simp only [List.mem_cons, List.not_mem_nil, or_false] at hc; omega
  | some p =>
    obtain ⟨h1, h2⟩ := h p rfl
    obtain ⟨q, hq, e⟩ := rep_txt h2
    have e2 : (sD (some p)).py.shown = ⟨(q :: p.2 ++ [q]).toArray⟩ := e
    refine ⟨rfl, rfl, rfl, Nat.zero_le _, ?_, ?_⟩
    · rw [e2]
      show (q :: p.2 ++ [q]).toArray.size ≤ _
      rw [List.size_toArray, List.length_append, List.length_cons]
      show p.2.length + 1 + 1 ≤ _
      omega
    · rw [e2]
      refine str_Cmp fun c hc => ?_
      have hc : c ∈ q :: p.2 ++ [q] := by simpa using hc
      rcases List.mem_append.mp hc with z | z
      · rcases List.mem_cons.mp z with z | z
        · omega
        · have := h2 c z; omega
      · rw [List.mem_singleton.mp z]; omega
theorem Shd.go {d : D} {Q : Prop} (h : Shd d) (k : Q) : d.pure = true ∧ d.py.showable = true ∧ d.py.hasDict = false ∧ d.py.depth ≤ 64 ∧ d.py.shown.length ≤ 16777216 ∧ Q := ⟨h.p, h.s, h.n, h.e, h.z, k⟩
/-! ### going the way -/
section
variable {g : Gr} {r k c : Nat} {l l2 x : Int} {t : List Nat} {o2 : Option Int}
def Fst (g : Gr) (r k c : Nat) (l : Int) (t : List Nat) : Prop := Lsp (Wy g r k 0 c) (some (l, t))
theorem Fst.to (f : Fst g r k c l t) : To g r k c (some l) := Lsp.fst f
theorem Wy.first {r' k' : Nat} {l : Int} {s : List Nat} (h : Wy g r k r' k' l s) : (r = r' ∧ k = k' ∧ l = 0 ∧ s = []) ∨ (∃ x l' s', g.R r k = some x ∧ Wy g r (k + 1) r' k' l' s' ∧ l = x + l' ∧ s = 114 :: s') ∨ (∃ r0 x l' s', r = r0 + 1 ∧ g.U r0 k = some x ∧ Wy g r0 k r' k' l' s' ∧ l = x + l' ∧ s = 117 :: s') := by
  cases h with
  | nil => exact .inl ⟨rfl, rfl, rfl, rfl⟩
  | right e w => exact .inr (.inl ⟨_, _, _, e, w, rfl, rfl⟩)
  | up e w => exact .inr (.inr ⟨_, _, _, _, rfl, e, w, rfl, rfl⟩)
theorem Fst.h (f : Fst g r k c l t) : ∀ l3 s3, Wy g r k 0 c l3 s3 → l < l3 ∨ l = l3 ∧ ¬ s3 < t := f.2
theorem Fst.goR (f : Fst g r k c l t) (hk : k < c) (e : g.R r k = some x) (t2 : To g r (k + 1) c (some l2)) (hl : l = x + l2) : ∃ u, t = 114 :: u ∧ Fst g r (k + 1) c l2 u := by
  have h := f.h
  have w : Wy g r k 0 c l t := f.1
  obtain ⟨⟨s2, w2⟩, h2⟩ := t2
  have hs := h _ _ (.right e w2)
  rcases w.first with ⟨_, z, _⟩ | ⟨y, l', u, e', w', z1, z2⟩ | ⟨r0, y, l', u, z0, e', w', z1, z2⟩
  · omega
  · rw [e] at e'
    cases e'
    have el : l' = l2 := by omega
    subst el
    refine ⟨u, z2, w', fun l3 s3 w3 => ?_⟩
    have b := h2 l3 ⟨s3, w3⟩
    by_cases hlt : l' < l3
    · exact .inl hlt
    · refine .inr ⟨by show l' = l3; omega, fun z => ?_⟩
      have := h _ _ (.right e w3)
      rcases this with q | ⟨_, q⟩
      · omega
      · exact q (by rw [z2, List.cons_lt_cons_iff]; exact .inr ⟨rfl, z⟩)
  · exfalso
    rcases hs with q | ⟨_, q⟩
    · omega
    · exact q (by rw [z2, List.cons_lt_cons_iff]; exact .inl (by omega))
theorem Fst.goU (f : Fst g r k c l t) (hne : 0 < r ∨ k < c) (hc : k < c → ∃ o2, To g r (k + 1) c o2 ∧ by' (g.R r k) o2 ≠ some l) : ∃ r0 u l2, r = r0 + 1 ∧ t = 117 :: u ∧ Fst g r0 k c l2 u := by
  have h := f.h
  have w : Wy g r k 0 c l t := f.1
  rcases w.first with ⟨_, z, _⟩ | ⟨y, l', u, e', w', z1, z2⟩ | ⟨r0, y, l', u, z0, e', w', z1, z2⟩
  · omega
  · exfalso
    have := w'.mono
    obtain ⟨o2, t2, hne2⟩ := hc (by omega)
    cases o2 with
    | none => exact t2 _ ⟨_, w'⟩
    | some l2 =>
      obtain ⟨⟨s2, w2⟩, h2⟩ := t2
      have b1 := h2 _ ⟨_, w'⟩
      have b2 := h _ _ (.right e' w2)
      refine hne2 ?_
      rw [e']
      show some (y + l2) = some l
      rw [show l = y + l2 by omega]
  · refine ⟨r0, u, l', z0, z2, w', fun l3 s3 w3 => ?_⟩
    subst z0
    have := h _ _ (.up e' w3)
    rcases this with q | ⟨q1, q2⟩
    · exact .inl (by show l' < l3; omega)
    · exact .inr ⟨by show l' = l3; omega, fun z => q2 (by rw [z2, List.cons_lt_cons_iff]; exact .inr ⟨rfl, z⟩)⟩
end
theorem oD_eqv (a b : Option Int) : (oD a).eqv (oD b) = decide (a = b) := by
  cases a with
  | none =>
    cases b with
    | none => rfl
    | some y => rfl
  | some x =>
    cases b with
    | none => rfl
    | some y =>
      show (D.int x).eqv (.int y) = _
      rw [eqv_int]
      by_cases h : x = y
      · rw [decide_eq_true h, decide_eq_true (by rw [h])]
      · rw [decide_eq_false h, decide_eq_false (fun q => h (Option.some.inj q))]
theorem oD_Cmp (a : Option Int) : (oD a).Cmp := by
  cases a with
  | none => exact non_Cmp
  | some x => exact int_Cmp x
section
variable {tb : List (String × Def)} {n : Nat} {C : CM} {P : D → CM → Prop} {ex : Exc → CM → Prop} {G : Ctx}
def WayR (ds : List D) (C : CM) (P : D → CM → Prop) : Prop := ∃ m w g row c i q, ds = [webD g, .int ((row : Nat) : Int), .int ((c : Nat) : Int)] ∧ WebS m w g ∧ row < m ∧ c < w ∧ Fm (gr g) row i 0 c q ∧ P (sD q) C
set_option maxHeartbeats 4000000 in
theorem way_ok (h1 : Sp tb "by_link" 1 ByR) (h2 : Sp tb "lengths_to" 2 LenR) (hn : 2 ≤ n) {m w : Nat} {g : Web} {row c : Nat} {i : Int} {q : Wt} (S : WebS m w g) (hr : row < m) (hc : c < w) (F : Fm (gr g) row i 0 c q) (kk : P (sD q) C) :
    denF ⟨Gm tb n, ex⟩ iweb_way [webD g, .int (row : Int), .int (c : Int)] C P := by
  refine ⟨rfl, ?_⟩
  have m2 := S.m2
  have w2 := S.w2
  simp_all_arith! [iweb_way, webD]
  refine h2 n hn _ _ _ _ ⟨m, w, g, c, rfl, S, hc, fun rows hrl hrr hrt => ?_⟩
  have hL : ∀ r, r < m → atI (rows.map lO) (r : Int) = some (lO (rowO rows r)) := fun r h => at_rowL (by omega)
  have hLe : ∀ r k, r < m → k ≤ c → atI ((rowO rows r).map oD) (k : Int) = some (oD (lkAt rows r k)) := fun r k h1 h2 => at_ent (by rw [hrr _ (rowO_mem (by omega))]; omega)
  have f1 := hL row hr
  have f2 : atI ((rowO rows row).map oD) 0 = some (oD (lkAt rows row 0)) := hLe row 0 hr (Nat.zero_le _)
  simp_all_arith! [f1, f2, lO]
  obtain ⟨o, to, eo⟩ := F.to
  rw [(hrt row 0 hr (Nat.zero_le _)).uniq to]
  cases q with
  | none =>
    cases o with
    | some y => cases eo
    | none =>
      simp_all_arith! [oD_n]
      exact ⟨C, sub_refl _, kk⟩
  | some p =>
    obtain ⟨⟨l0, e0, w0⟩, hF⟩ := F
    have f0 : Fst (gr g) row 0 c l0 p.2 := ⟨w0, fun l s ws => by
      have := hF (i + l) s ⟨l, rfl, ws⟩
      dsimp only at this ⊢
      rcases this with z | ⟨z1, z2⟩
      · exact .inl (by omega)
      · exact .inr ⟨by omega, z2⟩⟩
    have hT : p.2.length ≤ 2000 := by have := w0.mono; omega
    cases o with
    | none => cases eo
    | some y =>
      simp_all_arith! [oD_s]
      have e00 : Str.ofString "" = tx [] := tx_0
      refine whl_inv (m := row + (c - 0)) (I := fun mm ρ C' => ∃ (r k : Nat) (fd t : List Nat) (l : Int), ρ = [some (.dat (.tup [intsD g.ins, lkD g.rights, lkD g.ups, intsD g.outs])), some (.dat (.int (r : Int))), some (.dat (.int (c : Int))), some (.dat (.lst (rows.map fun r => .lst (r.map oD)))), some (.dat (.str (tx fd))), some (.dat (.int (k : Int))), some (.dat (intsD g.ins)), some (.dat (lkD g.rights)), some (.dat (lkD g.ups)), some (.dat (intsD g.outs))] ∧ C' = C ∧ r ≤ row ∧ k ≤ c ∧ mm = r + (c - k) ∧ p.2 = fd ++ t ∧ Fst (gr g) r k c l t) ⟨row, 0, [], p.2, l0, by rw [e00]; rfl, rfl, Nat.le_refl _, Nat.zero_le _, rfl, rfl, f0⟩ (fun mm ρ C1 ⟨r, k, fd, t, l, hρ, hC, q1, q2, q3, q4, f⟩ nx knx => ?_)
      subst hρ hC
      have hfd : fd.length ≤ 2000 := by
        have := congrArg List.length q4
        rw [List.length_append] at this; omega
      have g1 := hL r (by omega)
      have g2 := hLe r k (by omega) q2
      have g3 : ∀ h : k < c, atI ((rowO rows r).map oD) ((k : Int) + 1) = some (oD (lkAt rows r (k + 1))) := fun h => hLe r (k + 1) (by omega) h
      have g4 : atI (g.rights.map rO) (r : Int) = some (rO (rowO g.rights r)) := at_row (by rw [S.rh]; omega)
      have g5 : ∀ h : k < c, atI ((rowO g.rights r).map oD) (k : Int) = some (oD (lkAt g.rights r k)) := fun h => at_ent (by rw [S.rr _ (rowO_mem (by rw [S.rh]; omega))]; omega)
      have el : lkAt rows r k = some l := (hrt r k (by omega) q2).uniq f.to
      rw [el] at g2
      have goU : ∀ r0 u l2, r = r0 + 1 → t = 117 :: u → Fst (gr g) r0 k c l2 u → nx [some (.dat (.tup [intsD g.ins, lkD g.rights, lkD g.ups, intsD g.outs])), some (.dat (.int ((r : Int) - 1))), some (.dat (.int (c : Int))), some (.dat (.lst (rows.map fun r => .lst (r.map oD)))), some (.dat (.str (tx (fd ++ [117])))), some (.dat (.int (k : Int))), some (.dat (intsD g.ins)), some (.dat (lkD g.rights)), some (.dat (lkD g.ups)), some (.dat (intsD g.outs))] C1 := fun r0 u l2 e1 e2 f2 => knx (r0 + (c - k)) _ _ (by omega) ⟨r0, k, fd ++ [117], u, l2, by rw [show (r : Int) - 1 = (r0 : Int) by omega], rfl, by omega, q2, rfl, by rw [q4, e2, List.append_assoc]; rfl, f2⟩
      have goE : (r = 0 ∧ k = c) → t = [] := fun ⟨e1, e2⟩ => by
        subst e1 e2
        exact (Wy.self f.1).2
      by_cases hk : k < c
      · have hk' : (k : Int) < (c : Int) := by omega
        have g3' := g3 hk
        have g5' := g5 hk
        have g1' : atI (rows.map fun r => D.lst (r.map oD)) (r : Int) = some (lO (rowO rows r)) := g1
        have hB : ((0 : Int) < (r : Int)) = True ∨ ((0 : Int) < (r : Int)) = False := by
          by_cases h : (0 : Int) < (r : Int)
          · exact .inl (eq_true h)
          · exact .inr (eq_false h)
        rcases hB with hB | hB <;> (
          simp_all_arith! [hB, eq_true hk', lkD, g4, rO, g5', g1', lO, g3']
          refine h1 n (by omega) _ _ _ _ ⟨_, _, rfl, ?_⟩
          simp_all_arith! [g1', lO, g2]
          refine ⟨oD_Cmp _, oD_Cmp _, ?_⟩
          rw [oD_eqv]
          by_cases hv : by' (lkAt g.rights r k) (lkAt rows r (k + 1)) = some l
          · rw [decide_eq_true hv]
            have t2 := hrt r (k + 1) (by omega) (by omega)
            cases e1 : lkAt g.rights r k with
            | none => rw [e1] at hv; cases hv
            | some x =>
              cases e2 : lkAt rows r (k + 1) with
              | none => rw [e1, e2] at hv; cases hv
              | some l2 =>
                rw [e1, e2] at hv
                rw [e2] at t2
                have hv := Option.some.inj hv
                obtain ⟨u, z1, z2⟩ := f.goR hk e1 t2 hv.symm
                simp_all_arith! [tx_r, tx_len, tx_app]
                exact ⟨by omega, knx (r + (c - (k + 1))) _ _ (by omega) ⟨r, k + 1, fd ++ [114], u, l2, rfl, rfl, q1, hk, rfl, by rw [q4, z1, List.append_assoc]; rfl, z2⟩⟩
          · rw [decide_eq_false hv]
            obtain ⟨r0, u, l2, z1, z2, z3⟩ := f.goU (.inr hk) fun _ => ⟨_, hrt r (k + 1) (by omega) (by omega), hv⟩
            simp_all_arith! [tx_u, tx_len, tx_app]
            exact ⟨by omega, goU r0 u l2 z1 z2 z3⟩)
      · have hk' : ¬ (k : Int) < (c : Int) := by omega
        by_cases hr0 : (0 : Int) < (r : Int)
        · obtain ⟨r0, u, l2, z1, z2, z3⟩ := f.goU (.inl (by omega)) fun h => absurd h hk
          simp_all_arith! [eq_true hr0, eq_false hk', tx_u, tx_len, tx_app]
          exact ⟨by omega, goU r0 u l2 z1 z2 z3⟩
        · simp_all_arith! [eq_false hr0, eq_false hk']
          rw [goE ⟨by omega, by omega⟩, List.append_nil] at q4
          refine ⟨C1, sub_refl _, ?_⟩
          rw [← q4]
          exact kk
end
end M61.Wb

set_option Elab.async false
set_option linter.all false
set_option autoImplicit false
set_option maxRecDepth 100000
namespace M61.k49
open PySem PySem.Spec PyProof.Rows L2
local macro_rules
  | `(tactic| simp_arith! [$ls,*] $[$loc:location]?) => `(tactic| try simp only [wipeR_cons, wipeR_nil, eq_self, denE, denT, denEs, denO, denC, denI, bindT_nm, bindT_tp, bindT_tl, bindTs_nil, bindTs_cons, varD_0, varD_s, varM_own0, varM_dat0, varM_s, varO_0, varO_s, varL_own0, varL_ref0, varL_s, sz, cp1, cp2, cp3, cp4, cp5, cp6, cp7, cp8, cp9, cp10, cp11, cp12, cp15, cp18, add_i, add_t, add_l, add_s, add_b, sub_b, sub_i, mul_i, mul_t, mul_l, fdiv_i, mod_i, pow_i, shl_i, eq_r, ne_r, inn_t, nin_t, inn_l, nin_l, lt_r, lt_tt, le_r, gt_r, ge_r, is_n, isn_n, is_b, isn_b, isNon_n, isNon_i, isNon_t, isNon_l, isNon_b, isNon_s, tru_n, tru_b, tru_i, tru_t, tru_l, ix_t, ix_l, ix_c, ix_r, cellAt_l, cellL_l, lstD_l, lstD_r, sqD_t, sqD_l, sl_t, sl_l, sl_c, sl_r, rev_t, rev_l, len_t, len_l, len_c, len_r, tup_t, tup_l, tup_r, sum_t, sum_l, sum_r, min_t, min_l, max_t, max_l, min_2, max_2, min_3, repr_r, str_ri, abs_i, int_i, int_b, all_l, any_l, ty_bb, ty_bi, ty_bn, ty_bt, ty_ss, ty_sn, ty_si, ty_sb, ty_ii, ty_ib, ty_in, ty_it, ty_tt, ty_tn, ty_ti, ty_tb, ty_ll, ty_lt, ty_is, ty_il, ty_bs, ty_blst, ty_st, ty_sl, ty_ts, ty_tl, ty_ln, ty_li, ty_lb, ty_ls, intsOf_map, boolsOf_map, pair_Cmp, int_Cmp, bl_Cmp, non_Cmp, ints_Cmp, intst_Cmp, eqv_int, eqv_bl, eqv_ints, eqv_intst, List.map_cons, List.map_nil, List.replicate_succ, List.replicate_zero, List.cons_append, List.nil_append, List.set_cons_zero, List.set_cons_succ, List.length_cons, List.length_nil, List.getElem?_cons_zero, List.getElem?_cons_succ, List.eraseIdx_cons_zero, Nat.reduceSub, Nat.reduceAdd, Nat.reduceLT, Nat.reduceLeDiff, Nat.reducePow, Nat.reduceEqDiff, Nat.reduceMul, Int.reducePow, Int.reduceToNat, Int.reduceMul, Int.reduceAdd, Int.reduceSub, Int.reduceNeg, Int.reduceLT, Int.reduceLE, Int.reduceEq, Int.reduceBEq, Int.reduceBNe, zero_add', not_true_eq_false, not_false_eq_true, Bool.true_eq_false, false_and, and_false, true_and, and_true, exists_eq_left', exists_and_left, Option.some.injEq, Cell.lst.injEq, Cell.dct.injEq, if_pos_true, reduceIte, Bool.false_eq_true, decide_true, decide_false, Bool.not_true, Bool.not_false, Bool.not_eq_true', Bool.and_true, Bool.true_and, decide_eq_true_eq, decide_eq_false_iff_not, ite_self, List.isEmpty_cons, List.isEmpty_nil, ss_nil', ss_cons', s_set', s_own', s_setF', s_unp', s_par2', par2K_e, s_par3', par3K_e, s_app', s_ext', extK_e, s_exp', s_csub', csubK_e, s_dset', dsetK_e, s_capp', cappK_e, s_aug', augK_a, augK_s, s_oset', osetK_e, s_ife', s_for', s_forc', forcK_e, s_whl', s_ret', s_ret0', s_pass', s_brk', s_cnt', l_comp', l_compc', compcK_e, l_lit', l_cat', l_rvd', l_lrv', l_ls2', l_list', l_srt', srtK_e, l_srr', srrK_e, l_lrg1', l_lrg2', lrgK_e, l_rep', repK_e, setM_nil, setM_cons, Int.toNat_natCast, List.length_map, exists_eq_left, $ls,*] $[$loc]?)
local macro_rules
  | `(tactic| simp_all_arith! [$ls,*]) => `(tactic| ((try simp only [wipeR_cons, wipeR_nil, eq_self, denE, denT, denEs, denO, denC, denI, bindT_nm, bindT_tp, bindT_tl, bindTs_nil, bindTs_cons, varD_0, varD_s, varM_own0, varM_dat0, varM_s, varO_0, varO_s, varL_own0, varL_ref0, varL_s, sz, cp1, cp2, cp3, cp4, cp5, cp6, cp7, cp8, cp9, cp10, cp11, cp12, cp15, cp18, add_i, add_t, add_l, add_s, add_b, sub_b, sub_i, mul_i, mul_t, mul_l, fdiv_i, mod_i, pow_i, shl_i, eq_r, ne_r, inn_t, nin_t, inn_l, nin_l, lt_r, lt_tt, le_r, gt_r, ge_r, is_n, isn_n, is_b, isn_b, isNon_n, isNon_i, isNon_t, isNon_l, isNon_b, isNon_s, tru_n, tru_b, tru_i, tru_t, tru_l, ix_t, ix_l, ix_c, ix_r, cellAt_l, cellL_l, lstD_l, lstD_r, sqD_t, sqD_l, sl_t, sl_l, sl_c, sl_r, rev_t, rev_l, len_t, len_l, len_c, len_r, tup_t, tup_l, tup_r, sum_t, sum_l, sum_r, min_t, min_l, max_t, max_l, min_2, max_2, min_3, repr_r, str_ri, abs_i, int_i, int_b, all_l, any_l, ty_bb, ty_bi, ty_bn, ty_bt, ty_ss, ty_sn, ty_si, ty_sb, ty_ii, ty_ib, ty_in, ty_it, ty_tt, ty_tn, ty_ti, ty_tb, ty_ll, ty_lt, ty_is, ty_il, ty_bs, ty_blst, ty_st, ty_sl, ty_ts, ty_tl, ty_ln, ty_li, ty_lb, ty_ls, intsOf_map, boolsOf_map, pair_Cmp, int_Cmp, bl_Cmp, non_Cmp, ints_Cmp, intst_Cmp, eqv_int, eqv_bl, eqv_ints, eqv_intst, List.map_cons, List.map_nil, List.replicate_succ, List.replicate_zero, List.cons_append, List.nil_append, List.set_cons_zero, List.set_cons_succ, List.length_cons, List.length_nil, List.getElem?_cons_zero, List.getElem?_cons_succ, List.eraseIdx_cons_zero, Nat.reduceSub, Nat.reduceAdd, Nat.reduceLT, Nat.reduceLeDiff, Nat.reducePow, Nat.reduceEqDiff, Nat.reduceMul, Int.reducePow, Int.reduceToNat, Int.reduceMul, Int.reduceAdd, Int.reduceSub, Int.reduceNeg, Int.reduceLT, Int.reduceLE, Int.reduceEq, Int.reduceBEq, Int.reduceBNe, zero_add', not_true_eq_false, not_false_eq_true, Bool.true_eq_false, false_and, and_false, true_and, and_true, exists_eq_left', exists_and_left, Option.some.injEq, Cell.lst.injEq, Cell.dct.injEq, if_pos_true, reduceIte, Bool.false_eq_true, decide_true, decide_false, Bool.not_true, Bool.not_false, Bool.not_eq_true', Bool.and_true, Bool.true_and, decide_eq_true_eq, decide_eq_false_iff_not, ite_self, List.isEmpty_cons, List.isEmpty_nil, ss_nil', ss_cons', s_set', s_own', s_setF', s_unp', s_par2', par2K_e, s_par3', par3K_e, s_app', s_ext', extK_e, s_exp', s_csub', csubK_e, s_dset', dsetK_e, s_capp', cappK_e, s_aug', augK_a, augK_s, s_oset', osetK_e, s_ife', s_for', s_forc', forcK_e, s_whl', s_ret', s_ret0', s_pass', s_brk', s_cnt', l_comp', l_compc', compcK_e, l_lit', l_cat', l_rvd', l_lrv', l_ls2', l_list', l_srt', srtK_e, l_srr', srrK_e, l_lrg1', l_lrg2', lrgK_e, l_rep', repK_e, setM_nil, setM_cons, Int.toNat_natCast, List.length_map, exists_eq_left, $ls,*]); (repeat ((with_reducible (first | refine blk_of ?_ | refine turn_of ?_ | refine tst_of ?_)); (try simp only [wipeR_cons, wipeR_nil, eq_self, denE, denT, denEs, denO, denC, denI, bindT_nm, bindT_tp, bindT_tl, bindTs_nil, bindTs_cons, varD_0, varD_s, varM_own0, varM_dat0, varM_s, varO_0, varO_s, varL_own0, varL_ref0, varL_s, sz, cp1, cp2, cp3, cp4, cp5, cp6, cp7, cp8, cp9, cp10, cp11, cp12, cp15, cp18, add_i, add_t, add_l, add_s, add_b, sub_b, sub_i, mul_i, mul_t, mul_l, fdiv_i, mod_i, pow_i, shl_i, eq_r, ne_r, inn_t, nin_t, inn_l, nin_l, lt_r, lt_tt, le_r, gt_r, ge_r, is_n, isn_n, is_b, isn_b, isNon_n, isNon_i, isNon_t, isNon_l, isNon_b, isNon_s, tru_n, tru_b, tru_i, tru_t, tru_l, ix_t, ix_l, ix_c, ix_r, cellAt_l, cellL_l, lstD_l, lstD_r, sqD_t, sqD_l, sl_t, sl_l, sl_c, sl_r, rev_t, rev_l, len_t, len_l, len_c, len_r, tup_t, tup_l, tup_r, sum_t, sum_l, sum_r, min_t, min_l, max_t, max_l, min_2, max_2, min_3, repr_r, str_ri, abs_i, int_i, int_b, all_l, any_l, ty_bb, ty_bi, ty_bn, ty_bt, ty_ss, ty_sn, ty_si, ty_sb, ty_ii, ty_ib, ty_in, ty_it, ty_tt, ty_tn, ty_ti, ty_tb, ty_ll, ty_lt, ty_is, ty_il, ty_bs, ty_blst, ty_st, ty_sl, ty_ts, ty_tl, ty_ln, ty_li, ty_lb, ty_ls, intsOf_map, boolsOf_map, pair_Cmp, int_Cmp, bl_Cmp, non_Cmp, ints_Cmp, intst_Cmp, eqv_int, eqv_bl, eqv_ints, eqv_intst, List.map_cons, List.map_nil, List.replicate_succ, List.replicate_zero, List.cons_append, List.nil_append, List.set_cons_zero, List.set_cons_succ, List.length_cons, List.length_nil, List.getElem?_cons_zero, List.getElem?_cons_succ, List.eraseIdx_cons_zero, Nat.reduceSub, Nat.reduceAdd, Nat.reduceLT, Nat.reduceLeDiff, Nat.reducePow, Nat.reduceEqDiff, Nat.reduceMul, Int.reducePow, Int.reduceToNat, Int.reduceMul, Int.reduceAdd, Int.reduceSub, Int.reduceNeg, Int.reduceLT, Int.reduceLE, Int.reduceEq, Int.reduceBEq, Int.reduceBNe, zero_add', not_true_eq_false, not_false_eq_true, Bool.true_eq_false, false_and, and_false, true_and, and_true, exists_eq_left', exists_and_left, Option.some.injEq, Cell.lst.injEq, Cell.dct.injEq, if_pos_true, reduceIte, Bool.false_eq_true, decide_true, decide_false, Bool.not_true, Bool.not_false, Bool.not_eq_true', Bool.and_true, Bool.true_and, decide_eq_true_eq, decide_eq_false_iff_not, ite_self, List.isEmpty_cons, List.isEmpty_nil, ss_nil', ss_cons', s_set', s_own', s_setF', s_unp', s_par2', par2K_e, s_par3', par3K_e, s_app', s_ext', extK_e, s_exp', s_csub', csubK_e, s_dset', dsetK_e, s_capp', cappK_e, s_aug', augK_a, augK_s, s_oset', osetK_e, s_ife', s_for', s_forc', forcK_e, s_whl', s_ret', s_ret0', s_pass', s_brk', s_cnt', l_comp', l_compc', compcK_e, l_lit', l_cat', l_rvd', l_lrv', l_ls2', l_list', l_srt', srtK_e, l_srr', srrK_e, l_lrg1', l_lrg2', lrgK_e, l_rep', repK_e, setM_nil, setM_cons, Int.toNat_natCast, List.length_map, exists_eq_left, $ls,*])))))
open M61.W47 hiding i_law_deck i_law_draw i_law_number i_law_links i_law_web_sized i_law_web
open M61.Wb hiding iby_link ilesser ilengths_to iweb_table i_law_further i_law_least i_law_ways i_law_table iweb_way
/-! ### all ways -/
structure En where
  h : Nat
  k : Nat
  l : Int
  s : List Nat
def eD (e : En) : D := .tup [.int (e.h : Int), .int (e.k : Int), .int e.l, .str (tx e.s)]
def wP (p : Int × List Nat) : D := .tup [.int p.1, .str (tx p.2)]
theorem wP_D (p : Int × List Nat) : wP p = wD (some p) := rfl
def wgt (c : Nat) : List En → Nat
  | [] => 0
  | e :: es => 3 ^ (e.h + (c - e.k)) + wgt c es
theorem wgt_app (c : Nat) : ∀ es fs : List En, wgt c (es ++ fs) = wgt c es + wgt c fs
  | [], fs => by rw [List.nil_append]; show _ = 0 + _; omega
  | e :: es, fs => by
    show 3 ^ _ + wgt c (es ++ fs) = 3 ^ _ + wgt c es + wgt c fs
    rw [wgt_app c es fs]; omega
theorem wgt_len (c : Nat) : ∀ es : List En, es.length ≤ wgt c es
  | [] => Nat.le_refl 0
  | e :: es => by
    have := wgt_len c es
    have h1 : 1 ≤ 3 ^ (e.h + (c - e.k)) := Nat.pow_pos (by decide)
    show es.length + 1 ≤ 3 ^ _ + wgt c es
    omega
theorem let_can {s : List Nat} (h : ∀ c ∈ s, c = 114 ∨ c = 117) : D.can (.str (tx s)) = true := by
  have := (str_Cmp (x := tx s) fun c hc => by
    have hc : c ∈ s := by simpa [tx] using hc
    have := h c hc
    omega).2
  unfold SeqAt.shaped at this
  rw [Bool.and_eq_true] at this
  rw [← py_can]
  simp only [Bool.and_eq_true, decide_eq_true_eq] at this
  exact (by first | exact this.2 | exact this.1)
theorem lst_Cmp {α : Type} {f : α → D} {xs : List α} (h1 : ∀ x ∈ xs, (f x).pure = true) (h2 : ∀ x ∈ xs, (f x).dep ≤ 3) (h3 : ∀ x ∈ xs, (f x).can = true) : (D.lst (xs.map f)).Cmp := by
  have a1 : D.pures (xs.map f) = true := by
    induction xs with
    | nil => rfl
    | cons x xs ih =>
      show ((f x).pure && D.pures (xs.map f)) = true
      rw [h1 x List.mem_cons_self, ih (fun y hy => h1 y (List.mem_cons_of_mem _ hy)) (fun y hy => h2 y (List.mem_cons_of_mem _ hy)) (fun y hy => h3 y (List.mem_cons_of_mem _ hy))]; rfl
  have a3 : D.cans (xs.map f) = true := by
    clear a1
    induction xs with
    | nil => rfl
    | cons x xs ih =>
      show ((f x).can && D.cans (xs.map f)) = true
      rw [h3 x List.mem_cons_self, ih (fun y hy => h1 y (List.mem_cons_of_mem _ hy)) (fun y hy => h2 y (List.mem_cons_of_mem _ hy)) (fun y hy => h3 y (List.mem_cons_of_mem _ hy))]; rfl
  refine cmp_of a1 ?_ a3
  show D.deps (xs.map f) + 1 ≤ 64
  have := deps_le (xs := xs.map f) (b := 3) fun x hx => by
    obtain ⟨y, hy, rfl⟩ := List.mem_map.mp hx
    exact h2 y hy
  omega
theorem eD_Cmp {es : List En} (h : ∀ e ∈ es, ∀ c ∈ e.s, c = 114 ∨ c = 117) : (D.lst (es.map eD)).Cmp := lst_Cmp (fun _ _ => rfl) (fun _ _ => by show (1 : Nat) ≤ 3; decide) fun e he => by
  show (true && (true && (true && (D.can (.str (tx e.s)) && true)))) = true
  rw [let_can (h e he)]; rfl
theorem wP_Cmp {ps : List (Int × List Nat)} (h : ∀ p ∈ ps, ∀ c ∈ p.2, c = 114 ∨ c = 117) : (D.lst (ps.map wP)).Cmp := lst_Cmp (fun _ _ => rfl) (fun _ _ => by show (1 : Nat) ≤ 3; decide) fun p hp => by
  show (true && (D.can (.str (tx p.2)) && true)) = true
  rw [let_can (h p hp)]; rfl
theorem wD_Cmp {q : Wt} (h : ∀ p, q = some p → ∀ c ∈ p.2, c = 114 ∨ c = 117) : (wD q).Cmp := by
  cases q with
  | none => exact non_Cmp
  | some p => exact cmp_of rfl (by show (1 : Nat) ≤ 64; decide) (by
      show (true && (D.can (.str (tx p.2)) && true)) = true
      rw [let_can (h p rfl)]; rfl)
/-- all ways from a row to a column, with what they come to -/
def AllOf (g : Web) (row c : Nat) (ps : List (Int × List Nat)) : Prop := ∀ l s, (l, s) ∈ ps ↔ ∃ l0, l = inI g.ins row + l0 + inI g.outs c ∧ Wy (gr g) row 0 0 c l0 s
def AllR (ds : List D) (C : CM) (P : D → CM → Prop) : Prop := ∃ m w g row c, ds = [webD g, .int ((row : Nat) : Int), .int ((c : Nat) : Int)] ∧ WebS m w g ∧ m + w ≤ 8 ∧ row < m ∧ c < w ∧ ∀ ps, ps.length ≤ 3000 → AllOf g row c ps → P (.lst (ps.map wP)) C
section
variable {tb : List (String × Def)} {n : Nat} {a b : Addr} {C : CM} {P : D → CM → Prop} {ex : Exc → CM → Prop} {G : Ctx}
/-- the slots meanwhile -/
def stA (g : Web) (row c : Nat) (ps : List (Int × List Nat)) (es : List En) (x9 x10 x11 x12 : Option Dv) : Rho :=
  [some (.dat (webD g)), some (.dat (.int (row : Int))), some (.dat (.int (c : Int))), some (.own (ps.map wP)), some (.own (es.map eD)), some (.dat (intsD g.ins)), some (.dat (lkD g.rights)), some (.dat (lkD g.ups)), some (.dat (intsD g.outs)), x9, x10, x11, x12]
structure AllI (g : Web) (row c : Nat) (ps : List (Int × List Nat)) (es : List En) : Prop where
  sz : ps.length + wgt c es ≤ 3 ^ (row + c)
  sp : ∀ p ∈ ps, ∃ l0, p.1 = inI g.ins row + l0 + inI g.outs c ∧ Wy (gr g) row 0 0 c l0 p.2
  se : ∀ e ∈ es, e.k ≤ c ∧ e.h ≤ row ∧ ∃ l0, e.l = inI g.ins row + l0 ∧ Wy (gr g) row 0 e.h e.k l0 e.s
  co : ∀ l0 s, Wy (gr g) row 0 0 c l0 s → (inI g.ins row + l0 + inI g.outs c, s) ∈ ps ∨ ∃ e ∈ es, ∃ l1 s1, Wy (gr g) e.h e.k 0 c l1 s1 ∧ s = e.s ++ s1 ∧ inI g.ins row + l0 = e.l + l1
def psA (g : Web) (c : Nat) (ps : List (Int × List Nat)) (e : En) : List (Int × List Nat) := if e.h = 0 ∧ e.k = c then ps ++ [(e.l + inI g.outs c, e.s)] else ps
def mvR (g : Web) (c : Nat) (e : En) : List En := if e.k < c then (match lkAt g.rights e.h e.k with | some x => [⟨e.h, e.k + 1, e.l + x, e.s ++ [114]⟩] | none => []) else []
def mvU (g : Web) (e : En) : List En := if 0 < e.h then (match lkAt g.ups (e.h - 1) e.k with | some x => [⟨e.h - 1, e.k, e.l + x, e.s ++ [117]⟩] | none => []) else []
theorem mvR_mem {g : Web} {c : Nat} {e f : En} : f ∈ mvR g c e ↔ e.k < c ∧ ∃ x, (gr g).R e.h e.k = some x ∧ f = ⟨e.h, e.k + 1, e.l + x, e.s ++ [114]⟩ := by
  unfold mvR
  show _ ↔ e.k < c ∧ ∃ x, lkAt g.rights e.h e.k = some x ∧ _
  by_cases h : e.k < c
  · rw [if_pos h]
    cases e1 : lkAt g.rights e.h e.k with
    | none => exact ⟨fun q => (by cases q), fun ⟨_, x, q, _⟩ => nomatch q⟩
    | some x => exact ⟨fun q => ⟨h, x, rfl, List.mem_singleton.mp q⟩, fun ⟨_, y, q, z⟩ => by cases q; exact List.mem_singleton.mpr z⟩
  · rw [if_neg h]
    exact ⟨fun q => (by cases q), fun q => absurd q.1 h⟩
theorem mvU_mem {g : Web} {e f : En} : f ∈ mvU g e ↔ 0 < e.h ∧ ∃ x, (gr g).U (e.h - 1) e.k = some x ∧ f = ⟨e.h - 1, e.k, e.l + x, e.s ++ [117]⟩ := by
  unfold mvU
  show _ ↔ 0 < e.h ∧ ∃ x, lkAt g.ups (e.h - 1) e.k = some x ∧ _
  by_cases h : 0 < e.h
  · rw [if_pos h]
    cases e1 : lkAt g.ups (e.h - 1) e.k with
    | none => exact ⟨fun q => (by cases q), fun ⟨_, x, q, _⟩ => nomatch q⟩
    | some x => exact ⟨fun q => ⟨h, x, rfl, List.mem_singleton.mp q⟩, fun ⟨_, y, q, z⟩ => by cases q; exact List.mem_singleton.mpr z⟩
  · rw [if_neg h]
    exact ⟨fun q => (by cases q), fun q => absurd q.1 h⟩
theorem mvR_w (g : Web) (c : Nat) (e : En) : wgt c (mvR g c e) ≤ if e.k < c then 3 ^ (e.h + (c - e.k) - 1) else 0 := by
  unfold mvR
  split
  · split
    · show 3 ^ (e.h + (c - (e.k + 1))) + 0 ≤ _
      rw [show e.h + (c - (e.k + 1)) = e.h + (c - e.k) - 1 by omega]; omega
    · exact Nat.zero_le _
  · exact Nat.le_refl _
theorem mvU_w (g : Web) (c : Nat) (e : En) : wgt c (mvU g e) ≤ if 0 < e.h then 3 ^ (e.h + (c - e.k) - 1) else 0 := by
  unfold mvU
  split
  · split
    · show 3 ^ (e.h - 1 + (c - e.k)) + 0 ≤ _
      rw [show e.h - 1 + (c - e.k) = e.h + (c - e.k) - 1 by omega]; omega
    · exact Nat.zero_le _
  · exact Nat.le_refl _
theorem AllI.step {g : Web} {row c : Nat} {ps : List (Int × List Nat)} {es : List En} {e : En} (A : AllI g row c ps (es ++ [e])) :
    AllI g row c (psA g c ps e) (es ++ mvR g c e ++ mvU g e) ∧ wgt c (es ++ mvR g c e ++ mvU g e) < wgt c (es ++ [e]) := by
  obtain ⟨k1, k2, l0, k3, k4⟩ := A.se e (by simp)
  have hw : wgt c (es ++ [e]) = wgt c es + 3 ^ (e.h + (c - e.k)) := by rw [wgt_app]; rfl
  have hw2 : wgt c (es ++ mvR g c e ++ mvU g e) = wgt c es + wgt c (mvR g c e) + wgt c (mvU g e) := by rw [wgt_app, wgt_app]
  have b1 := mvR_w g c e
  have b2 := mvU_w g c e
  have hs := A.sz
  rw [hw] at hs
  have key : (psA g c ps e).length + (wgt c es + wgt c (mvR g c e) + wgt c (mvU g e)) ≤ ps.length + (wgt c es + 3 ^ (e.h + (c - e.k))) ∧ wgt c es + wgt c (mvR g c e) + wgt c (mvU g e) < wgt c es + 3 ^ (e.h + (c - e.k)) := by
    unfold psA
    by_cases h : e.h = 0 ∧ e.k = c
    · rw [if_neg (by omega)] at b1
      rw [if_neg (by omega)] at b2
      have : 3 ^ (e.h + (c - e.k)) = 1 := by rw [show e.h + (c - e.k) = 0 by omega]
      rw [if_pos h, this, List.length_append, List.length_singleton]
      omega
    · have e3 : 3 ^ (e.h + (c - e.k)) = 3 * 3 ^ (e.h + (c - e.k) - 1) := by
        conv => lhs; rw [show e.h + (c - e.k) = e.h + (c - e.k) - 1 + 1 by omega]
        rw [Nat.pow_succ, Nat.mul_comm]
      have e4 : 1 ≤ 3 ^ (e.h + (c - e.k) - 1) := Nat.pow_pos (by decide)
      have c1 : wgt c (mvR g c e) ≤ 3 ^ (e.h + (c - e.k) - 1) := by
        refine Nat.le_trans b1 ?_
        split
        · exact Nat.le_refl _
        · omega
      have c2 : wgt c (mvU g e) ≤ 3 ^ (e.h + (c - e.k) - 1) := by
        refine Nat.le_trans b2 ?_
        split
        · exact Nat.le_refl _
        · omega
      rw [if_neg h, e3]
      omega
  refine ⟨⟨by rw [hw2]; omega, fun p hp => ?_, fun f hf => ?_, fun l1 s ws => ?_⟩, by rw [hw, hw2]; exact key.2⟩
  · unfold psA at hp
    split at hp
    · rename_i hz
      rcases List.mem_append.mp hp with q | q
      · exact A.sp p q
      · rw [List.mem_singleton.mp q]
        refine ⟨l0, by show e.l + _ = _; rw [k3], ?_⟩
        rw [hz.1, hz.2] at k4
        exact k4
    · exact A.sp p hp
  · rcases List.mem_append.mp hf with q | q
    · rcases List.mem_append.mp q with q | q
      · exact A.se f (List.mem_append_left _ q)
      · obtain ⟨z1, x, z2, z3⟩ := mvR_mem.mp q
        subst z3
        exact ⟨z1, k2, l0 + x, by show e.l + x = _; omega, k4.snocR z2⟩
    · obtain ⟨z1, x, z2, z3⟩ := mvU_mem.mp q
      subst z3
      exact ⟨k1, by show e.h - 1 ≤ row; omega, l0 + x, by show e.l + x = _; omega, k4.snocU (e.h - 1) (by omega) z2⟩
  · rcases A.co l1 s ws with q | ⟨f, hf, l2, s2, w2, e1, e2⟩
    · left
      unfold psA
      split
      · exact List.mem_append_left _ q
      · exact q
    · rcases List.mem_append.mp hf with q | q
      · exact .inr ⟨f, List.mem_append_left _ (List.mem_append_left _ q), l2, s2, w2, e1, e2⟩
      · rw [List.mem_singleton.mp q] at w2 e1 e2
        rcases w2.first with ⟨z1, z2, z3, z4⟩ | ⟨x, l', s', z1, z2, z3, z4⟩ | ⟨r0, x, l', s', z0, z1, z2, z3, z4⟩
        · left
          unfold psA
          rw [if_pos ⟨z1, z2⟩]
          refine List.mem_append_right _ (List.mem_singleton.mpr ?_)
          rw [e1, z4, List.append_nil]
          congr 1
          omega
        · right
          have := z2.mono
          refine ⟨_, List.mem_append_left _ (List.mem_append_right _ (mvR_mem.mpr ⟨by omega, x, z1, rfl⟩)), l', s', z2, by rw [e1, z4]; simp, by show _ = e.l + x + l'; omega⟩
        · right
          refine ⟨_, List.mem_append_right _ (mvU_mem.mpr ⟨by omega, x, by rw [show e.h - 1 = r0 by omega]; exact z1, rfl⟩), l', s', by show Wy _ (e.h - 1) _ _ _ _ _; rw [show e.h - 1 = r0 by omega]; exact z2, by rw [e1, z4]; simp, by show _ = e.l + x + l'; omega⟩
set_option maxHeartbeats 8000000 in
theorem all_ok {m w : Nat} {g : Web} {row c : Nat} (S : WebS m w g) (hmw : m + w ≤ 8) (hr : row < m) (hc : c < w) (kk : ∀ ps, ps.length ≤ 3000 → AllOf g row c ps → P (.lst (ps.map wP)) C) :
    denF G i_law_all_ways [webD g, .int (row : Int), .int (c : Int)] C P := by
  refine ⟨rfl, ?_⟩
  have hi := S.i
  have ho := S.o
  have w1 := S.w1
  have h3 : 3 ^ (row + c) ≤ 729 := Nat.le_trans (Nat.pow_le_pow_right (by decide) (show row + c ≤ 6 by omega)) (by decide)
  have hI : atI (g.ins.map D.int) (row : Int) = some (.int (inI g.ins row)) := at_int (by omega)
  have hO : atI (g.outs.map D.int) (c : Int) = some (.int (inI g.outs c)) := at_int (by omega)
  simp_all_arith! [i_law_all_ways, webD, intsD, hI]
  have e0 : D.tup [.int (row : Int), .int 0, .int (inI g.ins row), .str (Str.ofString "")] = eD ⟨row, 0, inI g.ins row, []⟩ := by rw [tx_0]; rfl
  rw [e0]
  refine whl_inv (m := wgt c [⟨row, 0, inI g.ins row, []⟩]) (I := fun mm ρ C' => ∃ ps es x9 x10 x11 x12, ρ = stA g row c ps es x9 x10 x11 x12 ∧ C' = C ∧ mm = wgt c es ∧ AllI g row c ps es) ⟨[], [⟨row, 0, inI g.ins row, []⟩], none, none, none, none, rfl, rfl, rfl, ⟨by show 0 + (3 ^ (row + (c - 0)) + 0) ≤ _; rw [Nat.sub_zero]; omega, fun p hp => by (cases hp), fun e he => ?_, fun l0 s ws => .inr ⟨_, List.mem_singleton.mpr rfl, l0, s, ws, rfl, rfl⟩⟩⟩ (fun mm ρ C1 ⟨ps, es, x9, x10, x11, x12, hρ, hC, hm, A⟩ nx knx => ?_)
  · rw [List.mem_singleton.mp he]
    exact ⟨Nat.zero_le _, Nat.le_refl _, 0, by show inI g.ins row = _; omega, .nil _ _⟩
  · subst hρ hC
    have hcm : (D.lst (es.map eD)).Cmp := eD_Cmp fun e he => (A.se e he).2.2.elim fun l0 q => q.2.let
    rcases List.eq_nil_or_concat es with rfl | ⟨es', e, rfl⟩
    · simp_all_arith! [stA]
      refine ⟨hcm, C1, sub_refl _, kk ps (by have := A.sz; omega) fun l s => ⟨fun h => A.sp _ h, fun ⟨l0, e1, w0⟩ => ?_⟩⟩
      rcases A.co l0 s w0 with q | ⟨e, he, _⟩
      · rw [e1]; exact q
      · cases he
    · rw [List.concat_eq_append] at *
      have hne : ((es' ++ [e]).map eD).isEmpty = false := by rw [List.map_append]; cases es' <;> rfl
      have hla : ((es' ++ [e]).map eD)[((es' ++ [e]).map eD).length - 1]? = some (eD e) := by
        rw [List.map_append, List.length_append, List.map_cons, List.map_nil, List.length_singleton, Nat.add_sub_cancel, List.getElem?_append_right (Nat.le_refl _), Nat.sub_self]; rfl
      have hdr : ((es' ++ [e]).map eD).dropLast = es'.map eD := by rw [List.map_append]; exact List.dropLast_concat
      obtain ⟨k1, k2, l0, k3, k4⟩ := A.se e (by simp)
      have hwt : wgt c (es' ++ [e]) = wgt c es' + 3 ^ (e.h + (c - e.k)) := by rw [wgt_app]; rfl
      have hsz := A.sz
      rw [hwt] at hsz
      have hsz := Nat.le_trans hsz h3
      have hpl : ps.length ≤ 729 := Nat.le_trans (Nat.le_add_right _ _) hsz
      have hel : es'.length ≤ 729 := Nat.le_trans (wgt_len c es') (Nat.le_trans (Nat.le_trans (Nat.le_add_right _ _) (Nat.le_add_left _ _)) hsz)
      have htl : e.s.length ≤ 100 := by have := k4.mono; omega
      generalize hL : (es' ++ [e]).map eD = L at *
      have eE : eD e = .tup [.int (e.h : Int), .int (e.k : Int), .int e.l, .str (tx e.s)] := rfl
      have hLl : L.length = es'.length + 1 := by rw [← hL, List.length_map, List.length_append]; rfl
      rw [eE] at hla
      rw [hLl, Nat.add_sub_cancel] at hla
      have hRt : atI (g.rights.map rO) (e.h : Int) = some (rO (rowO g.rights e.h)) := at_row (by rw [S.rh]; omega)
      have hRe : e.k < c → atI ((rowO g.rights e.h).map oD) (e.k : Int) = some (oD (lkAt g.rights e.h e.k)) := fun h => at_ent (by rw [S.rr _ (rowO_mem (by rw [S.rh]; omega))]; omega)
      have hUt : 0 < e.h → atI (g.ups.map rO) ((e.h : Int) - 1) = some (rO (rowO g.ups (e.h - 1))) := fun h => by
        have := at_row (t := g.ups) (r := e.h - 1) (by rw [S.uh]; omega)
        rwa [show ((e.h - 1 : Nat) : Int) = (e.h : Int) - 1 by omega] at this
      have hUe : 0 < e.h → atI ((rowO g.ups (e.h - 1)).map oD) (e.k : Int) = some (oD (lkAt g.ups (e.h - 1) e.k)) := fun h => at_ent (by rw [S.ur _ (rowO_mem (by rw [S.uh]; omega))]; omega)
      have hst : ∀ ps1 es1, stA g row c ps1 es1 (some (.dat (.int (e.h : Int)))) (some (.dat (.int (e.k : Int)))) (some (.dat (.int e.l))) (some (.dat (.str (tx e.s)))) = [some (.dat (webD g)), some (.dat (.int (row : Int))), some (.dat (.int (c : Int))), some (.own (ps1.map wP)), some (.own (es1.map eD)), some (.dat (intsD g.ins)), some (.dat (lkD g.rights)), some (.dat (lkD g.ups)), some (.dat (intsD g.outs)), some (.dat (.int (e.h : Int))), some (.dat (.int (e.k : Int))), some (.dat (.int e.l)), some (.dat (.str (tx e.s)))] := fun _ _ => rfl
      have hR0 : (lkAt g.rights e.h e.k = none → mvR g c e = []) ∧ (¬ e.k < c → mvR g c e = []) ∧ (e.k < c → ∀ x, lkAt g.rights e.h e.k = some x → mvR g c e = [⟨e.h, e.k + 1, e.l + x, e.s ++ [114]⟩]) := by
        unfold mvR
        exact ⟨fun h => by rw [h]; split <;> rfl, fun h => if_neg h, fun h x q => by rw [if_pos h, q]⟩
      have hU0 : (lkAt g.ups (e.h - 1) e.k = none → mvU g e = []) ∧ (¬ 0 < e.h → mvU g e = []) ∧ (0 < e.h → ∀ x, lkAt g.ups (e.h - 1) e.k = some x → mvU g e = [⟨e.h - 1, e.k, e.l + x, e.s ++ [117]⟩]) := by
        unfold mvU
        exact ⟨fun h => by rw [h]; split <;> rfl, fun h => if_neg h, fun h x q => by rw [if_pos h, q]⟩
      have hRl : (mvR g c e).length ≤ 1 := by unfold mvR; split <;> (try split) <;> simp
      have AS := A.step
      refine tst_of ?_
      simp_arith! [stA, hL, hne]
      refine ⟨hcm, ?_⟩
      simp_arith! [hLl, hla, hdr]
      simp_all_arith! [hLl, hla, hdr]
      refine ⟨_, by rw [Nat.add_sub_cancel]; exact hla, ?_⟩
      simp_arith! []
      refine cut_tail' fun N1 hN1 => ?_
      have tailA : N1 (stA g row c (psA g c ps e) es' (some (.dat (.int (e.h : Int)))) (some (.dat (.int (e.k : Int)))) (some (.dat (.int e.l))) (some (.dat (.str (tx e.s))))) C1 := hN1 _ _ (by
        refine cut_tail' fun N2 hN2 => ?_
        have tailB : N2 (stA g row c (psA g c ps e) (es' ++ mvR g c e) (some (.dat (.int (e.h : Int)))) (some (.dat (.int (e.k : Int)))) (some (.dat (.int e.l))) (some (.dat (.str (tx e.s))))) C1 := hN2 _ _ (by
          have fin : nx (stA g row c (psA g c ps e) (es' ++ mvR g c e ++ mvU g e) (some (.dat (.int (e.h : Int)))) (some (.dat (.int (e.k : Int)))) (some (.dat (.int e.l))) (some (.dat (.str (tx e.s))))) C1 := knx _ _ _ (by rw [hm]; exact AS.2) ⟨_, _, _, _, _, _, rfl, rfl, rfl, AS.1⟩
          rw [hst] at fin ⊢
          by_cases h0 : 0 < e.h
          · have h0' : (0 : Int) < (e.h : Int) := by omega
            have q1 := hUt h0
            have q2 := hUe h0
            cases eu : lkAt g.ups (e.h - 1) e.k with
            | none =>
              rw [hU0.1 eu, List.append_nil] at fin
              rw [eu] at q2
              simp_all_arith! [eq_true h0', lkD, q1, rO, q2, oD_n]
              exact fin
            | some x =>
              rw [hU0.2.2 h0 x eu] at fin
              rw [eu] at q2
              simp_all_arith! [eq_true h0', lkD, q1, rO, q2, oD_s]
              refine ⟨by rw [tx_len, tx_u, tx_len]; show e.s.length + 1 ≤ _; omega, by rw [List.length_append]; omega, ?_⟩
              have em : (es' ++ mvR g c e).map eD ++ [D.tup [.int ((e.h : Int) - 1), .int (e.k : Int), .int (e.l + x), .str (tx e.s ++ Str.ofString "u")]] = (es' ++ mvR g c e ++ [(⟨e.h - 1, e.k, e.l + x, e.s ++ [117]⟩ : En)]).map eD := by
                rw [List.map_append (l₁ := es' ++ mvR g c e), tx_u, tx_app, show (e.h : Int) - 1 = ((e.h - 1 : Nat) : Int) by omega]; rfl
              rw [em]
              exact fin
          · have h0' : ¬ (0 : Int) < (e.h : Int) := by omega
            rw [hU0.2.1 h0, List.append_nil] at fin
            simp_all_arith! [eq_false h0']
            exact fin)
        rw [hst] at tailB ⊢
        by_cases hk : e.k < c
        · have hk' : (e.k : Int) < (c : Int) := by omega
          have q2 := hRe hk
          cases eu : lkAt g.rights e.h e.k with
          | none =>
            rw [hR0.1 eu, List.append_nil] at tailB
            rw [eu] at q2
            simp_all_arith! [eq_true hk', lkD, hRt, rO, q2, oD_n]
            exact tailB
          | some x =>
            rw [hR0.2.2 hk x eu] at tailB
            rw [eu] at q2
            simp_all_arith! [eq_true hk', lkD, hRt, rO, q2, oD_s]
            refine ⟨by rw [tx_len, tx_r, tx_len]; show e.s.length + 1 ≤ _; omega, by omega, ?_⟩
            have em : es'.map eD ++ [D.tup [.int (e.h : Int), .int ((e.k : Int) + 1), .int (e.l + x), .str (tx e.s ++ Str.ofString "r")]] = (es' ++ [(⟨e.h, e.k + 1, e.l + x, e.s ++ [114]⟩ : En)]).map eD := by
              rw [List.map_append, tx_r, tx_app]; rfl
            rw [em]
            exact tailB
        · have hk' : ¬ (e.k : Int) < (c : Int) := by omega
          rw [hR0.2.1 hk, List.append_nil] at tailB
          simp_all_arith! [eq_false hk']
          exact tailB)
      rw [hst] at tailA
      unfold psA at tailA
      by_cases h0 : e.h = 0
      · by_cases hk : e.k = c
        · have h0' : (e.h : Int) = 0 := by omega
          have hk' : (e.k : Int) = (c : Int) := by omega
          rw [if_pos ⟨h0, hk⟩] at tailA
          rw [← hk'] at hO
          simp_all_arith! [eq_true h0', eq_true hk', intsD, hO]
          refine ⟨by omega, ?_⟩
          have em : ps.map wP ++ [D.tup [.int (e.l + inI g.outs c), .str (tx e.s)]] = (ps ++ [(e.l + inI g.outs c, e.s)]).map wP := by rw [List.map_append]; rfl
          rw [em]
          exact tailA
        · have h0' : (e.h : Int) = 0 := by omega
          have hk' : ¬ (e.k : Int) = (c : Int) := by omega
          rw [if_neg (fun q => hk q.2)] at tailA
          simp_all_arith! [eq_true h0', eq_false hk']
          exact tailA
      · have h0' : ¬ (e.h : Int) = 0 := by omega
        rw [if_neg (fun q => h0 q.1)] at tailA
        simp_all_arith! [eq_false h0']
        exact tailA
end
section
variable {tb : List (String × Def)} {n : Nat} {a b : Addr} {C : CM} {P : D → CM → Prop} {ex : Exc → CM → Prop} {G : Ctx}
theorem min_ways {p : Int × List Nat} : ∀ (ps : List (Int × List Nat)), ∃ q ∈ p :: ps, PySem.W.minD (wP p).py (D.pys (ps.map wP)) = (wP q).py ∧ ∀ r ∈ p :: ps, ltW r q = false := by
  intro ps
  induction ps generalizing p with
  | nil => exact ⟨p, List.mem_singleton.mpr rfl, rfl, fun r hr => by
      rw [List.mem_singleton.mp hr]
      exact decide_eq_false (by rintro (z | ⟨_, z⟩); omega; exact lt_irr _ z)⟩
  | cons r ps ih =>
    have e1 : PySem.W.minD (wP p).py (D.pys ((r :: ps).map wP)) = PySem.W.minD (if ltW r p = true then (wP r).py else (wP p).py) (D.pys (ps.map wP)) := by
      rw [← wlt]; rfl
    have tr : ∀ {a b c : Int × List Nat}, ltW a b = false → ltW b c = false → ltW a c = false := fun {a b c} h1 h2 => by
      have h1 := of_decide_eq_false h1
      have h2 := of_decide_eq_false h2
      refine decide_eq_false fun z => ?_
      by_cases c1 : b.1 < c.1
      · exact h2 (.inl c1)
      · by_cases c2 : a.1 < b.1
        · exact h1 (.inl c2)
        · rcases z with z | ⟨z1, z2⟩
          · omega
          · have e1 : a.1 = b.1 := by omega
            have e2 : b.1 = c.1 := by omega
            exact nlt_tr (fun q => h2 (.inr ⟨e2, q⟩)) (fun q => h1 (.inr ⟨e1, q⟩)) z2
    have asym : ∀ {a b : Int × List Nat}, ltW a b = true → ltW b a = false := fun {a b} h => by
      have h := of_decide_eq_true h
      refine decide_eq_false fun z => ?_
      rcases h with h | ⟨h1, h2⟩
      · rcases z with z | ⟨z1, z2⟩ <;> omega
      · rcases z with z | ⟨z1, z2⟩
        · omega
        · exact lt_irr _ (lt_tr h2 z2)
    have self : ∀ a : Int × List Nat, ltW a a = false := fun a => decide_eq_false (by rintro (z | ⟨_, z⟩); omega; exact lt_irr _ z)
    cases hc : ltW r p with
    | true =>
      rw [hc, if_pos rfl] at e1
      obtain ⟨q, h1, h2, h3⟩ := ih (p := r)
      refine ⟨q, List.mem_cons_of_mem _ h1, e1.trans h2, fun x hx => ?_⟩
      rcases List.mem_cons.mp hx with rfl | hx
      · exact tr (asym hc) (h3 r List.mem_cons_self)
      · exact h3 x hx
    | false =>
      rw [hc, if_neg (by decide)] at e1
      obtain ⟨q, h1, h2, h3⟩ := ih (p := p)
      refine ⟨q, ?_, e1.trans h2, fun x hx => ?_⟩
      · rcases List.mem_cons.mp h1 with rfl | h1
        · exact List.mem_cons_self
        · exact List.mem_cons_of_mem _ (List.mem_cons_of_mem _ h1)
      · rcases List.mem_cons.mp hx with rfl | hx
        · exact h3 _ List.mem_cons_self
        · rcases List.mem_cons.mp hx with rfl | hx
          · exact tr hc (h3 p List.mem_cons_self)
          · exact h3 x (List.mem_cons_of_mem _ hx)
theorem ways_alike (ps : List (Int × List Nat)) : PySem.W.AlikeAll (D.pys (ps.map wP)) := by
  have key : ∀ x ∈ D.pys (ps.map wP), ∃ p, x = (wP p).py := by
    induction ps with
    | nil => intro x hx; cases hx
    | cons p ps ih =>
      intro x hx
      rcases List.mem_cons.mp (show x ∈ (wP p).py :: D.pys (ps.map wP) from hx) with rfl | hx
      · exact ⟨p, rfl⟩
      · exact ih x hx
  refine ⟨fun x hx y hy => ?_, fun x hx => ?_⟩
  · obtain ⟨p, rfl⟩ := key x hx
    obtain ⟨q, rfl⟩ := key y hy
    rfl
  · obtain ⟨p, rfl⟩ := key x hx
    exact fun h => by cases h
theorem ways_dep : ∀ ps : List (Int × List Nat), PyData.depthAll (D.pys (ps.map wP)) ≤ 1
  | [] => Nat.zero_le _
  | p :: ps => Nat.max_le.mpr ⟨Nat.le_refl 1, ways_dep ps⟩
theorem ways_pure : ∀ ps : List (Int × List Nat), D.pures (ps.map wP) = true
  | [] => rfl
  | p :: ps => by
    show (true && D.pures (ps.map wP)) = true
    rw [ways_pure ps]; rfl
def RightR (ds : List D) (C : CM) (P : D → CM → Prop) : Prop := ∃ m w g row c q, ds = [webD g, .int ((row : Nat) : Int), .int ((c : Nat) : Int), wD (fur q (some (inI g.outs c)) [])] ∧ WebS m w g ∧ row < m ∧ c < w ∧ Fm (gr g) row (inI g.ins row) 0 c q ∧ P (.bl true) C
set_option maxHeartbeats 4000000 in
theorem right_ok (hw : Sp tb "web_way" 3 WayR) (ha : Sp tb "_law_all_ways" 1 AllR) (hn : 3 ≤ n) {m w : Nat} {g : Web} {row c : Nat} {q : Wt} (S : WebS m w g) (hr : row < m) (hc : c < w) (F : Fm (gr g) row (inI g.ins row) 0 c q) (kk : P (.bl true) C) :
    denF ⟨Gm tb n, ex⟩ i_law_right [webD g, .int (row : Int), .int (c : Int), wD (fur q (some (inI g.outs c)) [])] C P := by
  refine ⟨rfl, ?_⟩
  have hi := S.i
  have ho := S.o
  have m2 := S.m2
  have w2 := S.w2
  have hq : ∀ p, q = some p → p.2.length ≤ 10000 ∧ ∀ x ∈ p.2, x = 114 ∨ x = 117 := fun p e => by
    subst e
    obtain ⟨⟨l0, e0, w0⟩, _⟩ := F
    exact ⟨by have := w0.mono; omega, w0.let⟩
  have sh := sD_shd hq
  have t0 : ∀ p q r s : D, atI [p, q, r, s] 0 = some p := fun _ _ _ _ => rfl
  have t3 : ∀ p q r s : D, atI [p, q, r, s] 3 = some s := fun _ _ _ _ => rfl
  have hw2 : ∀ Q : D → CM → Prop, Q (sD q) C → Gm tb n "web_way" [webD g, .int (row : Int), .int (c : Int)] C Q ex := fun Q hQ => hw n hn _ _ _ _ ⟨m, w, g, row, c, _, q, rfl, S, hr, hc, F, hQ⟩
  have ew : wD (fur q (some (inI g.outs c)) []) = match q with | none => .non | some p => .tup [.int (p.1 + inI g.outs c), .str (tx p.2)] := by
    cases q with
    | none => rfl
    | some p => show D.tup [_, .str (tx (p.2 ++ []))] = _; rw [List.append_nil]
  simp_arith! [i_law_right]
  refine cut_tail' fun N hN => ?_
  have tail : N [some (.dat (webD g)), some (.dat (.int (row : Int))), some (.dat (.int (c : Int))), some (.dat (wD (fur q (some (inI g.outs c)) []))), some (.dat (sD q)), none, none] C := hN _ _ (by
    have e2 : rangeD 0 1 2 = [0, 1].map D.int := rfl
    simp_all_arith! []
    show forGo _ _ _ ([0, 1].map D.int) _ _
    refine for_m D.int [5] (fun done ys C' => (∃ x5, ys = [x5]) ∧ C' = C) [none] rfl ⟨⟨_, rfl⟩, rfl⟩ (fun done x rest ys C1 e ⟨⟨x5, hy⟩, hC⟩ nx knx => ?_) fun ys C1 ⟨⟨x5, hy⟩, hC⟩ => ?_
    · subst hy hC
      simp_all_arith! []
      refine hw2 _ ?_
      simp_all_arith! []
      refine sh.go ?_
      refine sh.go ?_
      simp_all_arith! [RP.str_self]
      exact ⟨sh.c, sh.c, knx [_] _ ⟨⟨_, rfl⟩, rfl⟩⟩
    · subst hy hC
      simp_all_arith! [webD, t0, t3, intsD, hi, ho]
      by_cases hs : (8 : Int) < (m : Int) + (w : Int)
      · simp_all_arith! [eq_true hs]
        exact ⟨C1, sub_refl _, kk⟩
      · simp_all_arith! [eq_false hs]
        refine ha n (by omega) _ _ _ _ ⟨m, w, g, row, c, rfl, S, by omega, hr, hc, fun ps hl A => ?_⟩
        have hlet : ∀ p ∈ ps, ∀ x ∈ p.2, x = 114 ∨ x = 117 := fun p hp => by
          obtain ⟨l0, e, w0⟩ := (A p.1 p.2).mp hp
          exact w0.let
        have hcm := wP_Cmp hlet
        have hdue : ∀ p, q = some p → (p.1 + inI g.outs c, p.2) ∈ ps ∧ ∀ r ∈ ps, ltW r (p.1 + inI g.outs c, p.2) = false := fun p e => by
          subst e
          obtain ⟨⟨l0, e0, w0⟩, h⟩ := F
          refine ⟨(A _ _).mpr ⟨l0, by rw [e0], w0⟩, fun r hr => ?_⟩
          obtain ⟨l1, e1, w1⟩ := (A r.1 r.2).mp hr
          have := h (inI g.ins row + l1) r.2 ⟨l1, rfl, w1⟩
          refine decide_eq_false fun z => ?_
          rcases this with y | ⟨y1, y2⟩
          · rcases z with z | ⟨z1, z2⟩
            · have z : r.1 < p.1 + inI g.outs c := z
              omega
            · have z1 : r.1 = p.1 + inI g.outs c := z1
              omega
          · rcases z with z | ⟨z1, z2⟩
            · have z : r.1 < p.1 + inI g.outs c := z
              omega
            · exact y2 z2
        cases ps with
        | nil =>
          have hq0 : q = none := by
            cases q with
            | none => rfl
            | some p => have := (hdue p rfl).1; cases this
          subst hq0
          simp_all_arith! [wD_n, fur]
          exact ⟨hcm, C1, sub_refl _, kk⟩
        | cons p0 ps =>
          cases hqq : q with
          | none =>
            exfalso
            subst hqq
            obtain ⟨l0, e, w0⟩ := (A p0.1 p0.2).mp List.mem_cons_self
            exact F _ _ ⟨l0, rfl, w0⟩
          | some p =>
            obtain ⟨d1, d2⟩ := hdue p hqq
            obtain ⟨r, r1, r2, r3⟩ := min_ways (p := p0) ps
            have er : r = (p.1 + inI g.outs c, p.2) := by
              have a1 := of_decide_eq_false (r3 _ d1)
              have a2 := of_decide_eq_false (d2 r r1)
              have b1 : r.1 = p.1 + inI g.outs c := by
                have c1 : ¬ p.1 + inI g.outs c < r.1 := fun z => a1 (.inl z)
                have c2 : ¬ r.1 < p.1 + inI g.outs c := fun z => a2 (.inl z)
                omega
              exact Prod.ext b1 (nlt_eq (fun z => a1 (.inr ⟨b1.symm, z⟩)) (fun z => a2 (.inr ⟨b1, z⟩)))
            have hwc : (wD (some (p.1 + inI g.outs c, p.2))).Cmp := wD_Cmp fun p' e => by cases e; exact (hq p hqq).2
            have ew2 : wD (fur (some p) (some (inI g.outs c)) []) = wP (p.1 + inI g.outs c, p.2) := by
              show D.tup [_, .str (tx (p.2 ++ []))] = _
              rw [List.append_nil]; rfl
            simp_all_arith! []
            refine ⟨hcm, ?_⟩
            simp_all_arith! []
            show ∃ x xs, seqD C1 (.lst ((p0 :: ps).map wP)) = some (x :: xs) ∧ _
            refine ⟨_, _, rfl, ways_pure (p0 :: ps), ways_alike (p0 :: ps), Nat.le_trans (ways_dep (p0 :: ps)) (by decide), fun y hy e => ?_⟩
            have ey : y = wP r := by
              obtain ⟨r', hr', rfl⟩ := List.mem_map.mp (show y ∈ (p0 :: ps).map wP from hy)
              rw [wpy_inj (e.trans r2)]
            rw [ey, er, ew2, show wP (p.1 + inI g.outs c, p.2) = wD (some (p.1 + inI g.outs c, p.2)) from rfl]
            have es : (wD (some (p.1 + inI g.outs c, p.2))).eqv (wD (some (p.1 + inI g.outs c, p.2))) = true := by
              show ((_ == _) && ((_ == _) && true)) = true
              simp
            simp_all_arith! [es]
            exact ⟨hwc, hwc, C1, sub_refl _, kk⟩)
  cases q with
  | none =>
    simp_all_arith! [fur, wD_n]
    exact tail
  | some p =>
    rw [ew]
    rw [ew] at tail
    simp_all_arith! [atI_1]
    exact tail
end
section
variable {tb : List (String × Def)} {n : Nat} {a b : Addr} {C : CM} {P : D → CM → Prop} {ex : Exc → CM → Prop} {G : Ctx}
def pD (p : Nat × Nat) : D := .tup [.int (p.1 : Int), .int (p.2 : Int)]
def qD (qs : List Wt) : D := .lst (qs.map wD)
set_option maxHeartbeats 4000000 in
theorem law_ok (hk : Sp tb "_law_deck" 1 DeckR) (hd : Sp tb "_law_draw" 1 DrawR) (hw : Sp tb "_law_web" 5 DrawnWebR) (hy : Sp tb "_law_ways" 2 WaysR) (hr : Sp tb "_law_right" 4 RightR) (hn : 5 ≤ n)
    {ns : List Int} (hns : ns.length ≤ 63) (kk : ∀ C', P (.bl true) C') : denF ⟨Gm tb n, ex⟩ ilaw [.scr (ns.map .int)] C P := by
  refine ⟨rfl, ?_⟩
  have t0 : ∀ p q r s : D, atI [p, q, r, s] 0 = some p := fun _ _ _ _ => rfl
  have t3 : ∀ p q r s : D, atI [p, q, r, s] 3 = some s := fun _ _ _ _ => rfl
  simp_all_arith! [ilaw]
  refine hk n (by omega) _ _ _ _ ⟨ns, rfl, hns, fun a b C0 hD0 => ?_⟩
  simp_all_arith! []
  show forGo _ _ _ ([0, 1].map D.int) _ _
  refine for_m D.int [2, 3, 4, 5, 6, 7, 8, 9] (fun done ys C' => (∃ x2 x3 x4 x5 x6 x7 x8 x9, ys = [x2, x3, x4, x5, x6, x7, x8, x9]) ∧ Deck a b C') [none, none, none, none, none, none, none, none] rfl ⟨⟨_, _, _, _, _, _, _, _, rfl⟩, hD0⟩ (fun done x rest ys C1 e ⟨⟨x2, x3, x4, x5, x6, x7, x8, x9, hy⟩, hD1⟩ nx knx => ?_) fun ys C1 ⟨⟨x2, x3, x4, x5, x6, x7, x8, x9, hy⟩, hD1⟩ => ?_
  · subst hy
    simp_all_arith! []
    refine hw n hn _ _ _ _ ⟨a, b, rfl, hD1, fun m w g C2 hm hwl W hD2 => ?_⟩
    have S : WebS m w g := WebOk.s W (by omega) (by omega)
    have hi := S.i
    have ho := S.o
    have m1 := S.m1
    have w1 := S.w1
    have t0' : atI [intsD g.ins, lkD g.rights, lkD g.ups, intsD g.outs] 0 = some (.tup (g.ins.map .int)) := rfl
    have t3' : atI [intsD g.ins, lkD g.rights, lkD g.ups, intsD g.outs] 3 = some (.tup (g.outs.map .int)) := rfl
    simp_all_arith! [webD, t0', t3', hi, ho]
    refine ⟨by omega, by omega, ?_⟩
    rw [rangeD_map]
    refine comp_invL (fun i : Nat => .int (i : Int)) qD (fun done acc C' => C' = C2 ∧ acc.length = done.length ∧ ∀ i qs, acc[i]? = some qs → qs.length = w ∧ ∀ k, k < w → ∃ q, Fm (gr g) i (inI g.ins i) 0 k q ∧ wAt qs k = fur q (some (inI g.outs k)) []) (by rw [List.length_range, sz]; omega) (fun _ _ _ h => by rw [h.2.1]; exact Nat.le_refl _) ⟨rfl, rfl, fun i qs q => by cases q⟩ (fun dn i rst acc C3 e2 ⟨hC, hal, hac⟩ K k1 k2 => ?_) fun dues C3 ⟨hC, hdl, hdu⟩ => ?_
    · subst hC
      obtain ⟨hx, hlt⟩ := range_at e2
      subst hx
      simp_all_arith! []
      refine hy n (by omega) _ _ _ _ ⟨m, w, g, dn.length, rfl, S, hlt, fun qs hq1 hq2 => ?_⟩
      refine k1 qs C3 ⟨rfl, by rw [List.length_append, List.length_append, hal]; rfl, fun i us hu => ?_⟩
      rw [List.getElem?_append] at hu
      split at hu
      · exact hac i us hu
      · have hid : i = dn.length := by
          have := (List.getElem?_eq_some_iff.mp hu).1
          rw [List.length_singleton] at this
          omega
        subst hid
        rw [hal, Nat.sub_self] at hu
        cases hu
        exact ⟨hq1, hq2⟩
    subst hC
    rw [List.length_range] at hdl
    have emw : (m : Int) * (w : Int) = ((m * w : Nat) : Int) := by simp
    have hmw : m * w ≤ 144 := Nat.le_trans (Nat.mul_le_mul hm hwl) (by decide)
    simp_all_arith! [emw]
    refine ⟨.inl ⟨by omega, by omega⟩, by omega, by omega, ?_⟩
    rw [rangeD_map]
    refine comp_mapL (fun i : Nat => .int (i : Int)) (fun i => pD (i / w, i % w)) (by rw [List.length_range, sz]; omega) (fun i hi2 K kK => ?_) ?_
    · simp_all_arith! []
      refine ⟨⟨by omega, by omega⟩, by omega, ?_⟩
      exact kK
    have epl : ((List.range (m * w)).map fun i => pD (i / w, i % w)) = ((List.range (m * w)).map fun i => (i / w, i % w)).map pD := by rw [List.map_map]; rfl
    rw [epl]
    have hpl : ∀ p ∈ (List.range (m * w)).map fun i => (i / w, i % w), p.1 < m ∧ p.2 < w := fun p hp => by
      obtain ⟨i, hi2, rfl⟩ := List.mem_map.mp hp
      have := List.mem_range.mp hi2
      exact ⟨Nat.div_lt_of_lt_mul (by rw [Nat.mul_comm]; exact this), Nat.mod_lt _ w1⟩
    have hpll : ((List.range (m * w)).map fun i => (i / w, i % w)).length = m * w := by rw [List.length_map, List.length_range]
    have hmw1 : 1 ≤ m * w := Nat.mul_pos m1 w1
    generalize ((List.range (m * w)).map fun i => (i / w, i % w)) = pl at hpl hpll
    simp_arith! []
    refine cut_tail' fun N hN => ?_
    have tail : ∀ (pl : List (Nat × Nat)) C', (∀ p ∈ pl, p.1 < m ∧ p.2 < w) → Deck a b C' → N [some (.dat (.scr (ns.map .int))), some (.dat (.ref a)), some (.dat (.int x)), some (.dat (.tup [intsD g.ins, lkD g.rights, lkD g.ups, intsD g.outs])), some (.dat (.int (m : Int))), some (.dat (.int (w : Int))), some (.dat (.lst (dues.map qD))), some (.dat (.lst (pl.map pD))), x8, x9, none, none] C' := fun pl C' hpl hD3 => hN _ _ (by
      simp_all_arith! []
      refine for_m pD [8, 9] (fun done ys C' => (∃ x8 x9, ys = [x8, x9]) ∧ Deck a b C') [x8, x9] rfl ⟨⟨_, _, rfl⟩, hD3⟩ (fun dn p rst ys C4 e2 ⟨⟨y8, y9, hy2⟩, hD4⟩ nx2 knx2 => ?_) fun ys C4 ⟨⟨y8, y9, hy2⟩, hD4⟩ => ?_
      · subst hy2
        obtain ⟨p1, p2⟩ := hpl p (by rw [e2]; simp)
        have hq : dues[p.1]? = some ((dues[p.1]?).getD []) := by rw [List.getElem?_eq_getElem (by omega)]; rfl
        obtain ⟨l1, l2⟩ := hdu _ _ hq
        obtain ⟨q, f1, f2⟩ := l2 p.2 p2
        generalize (dues[p.1]?).getD [] = qs at hq l1 l2 f2
        have u1 : atI (dues.map qD) (p.1 : Int) = some (qD qs) := atI_nat (by rw [List.getElem?_map, hq]; rfl)
        have u2 := at_w (l := qs) (k := p.2) (by omega)
        rw [f2] at u2
        simp_all_arith! [pD, u1, qD, u2]
        refine hr n (by omega) _ _ _ _ ⟨m, w, g, p.1, p.2, q, rfl, S, p1, p2, f1, ?_⟩
        simp_all_arith! []
        exact knx2 [_, _] _ ⟨⟨_, _, rfl⟩, hD4⟩
      · subst hy2
        simp_all_arith! []
        exact knx [_, _, _, _, _, _, _, _] _ ⟨⟨_, _, _, _, _, _, _, _, rfl⟩, hD4⟩)
    simp_all_arith! []
    by_cases hb : (12 : Int) < (m : Int) + (w : Int)
    · simp_all_arith! [eq_true hb]
      refine comp_all (fun C => Deck a b C) (fun p : Nat × Nat => p.1 < m ∧ p.2 < w) pD (by decide) hD2 (fun d hdm C4 hD4 K kK => ?_) fun pl2 C4 _ hp2 hD4 => ?_
      · simp_all_arith! [hpll]
        refine use_draw hd (by omega) hD4 (by omega) (by omega) fun u C5 u0 u1 hD5 _ => ?_
        obtain ⟨p, hp, _, e3⟩ := atI_in (xs := pl) (i := u) u0 (by omega)
        simp_all_arith! [atI_map, e3, Option.map_some]
        exact kK p C5 (hpl p hp) hD5
      · simp_all_arith! []
        exact tail pl2 C4 hp2 hD4
    · simp_all_arith! [eq_false hb]
      exact tail pl C3 hpl hD2
  · subst hy
    simp_all_arith! []
    exact ⟨C1, sub_refl _, kk C1⟩
end
theorem law_true (ns : List Int) (hl : ns.length ≤ 63) : Gm tabD 12 "law" [.scr (ns.map .int)] (fun _ => none) (fun d _ => d = .bl true) (fun _ _ => False) := by
  have hk : Sp tabD "_law_deck" 1 DeckR := sp_deck rfl
  have hd : Sp tabD "_law_draw" 1 DrawR := W47.sp_draw (tb := tabD) rfl
  obtain ⟨hm, _, hw⟩ := sp_webs (tb := tabD) rfl rfl rfl rfl rfl
  have hy : Sp tabD "_law_ways" 2 WaysR := sp_ways rfl rfl rfl
  have hln : Sp tabD "lengths_to" 2 LenR := sp_len rfl rfl rfl
  have hby : Sp tabD "by_link" 1 ByR := sp_mk (d := iby_link) rfl fun n hn ds C P ex ⟨o, p, e, k⟩ => by subst e; exact by_ok k
  have hwy : Sp tabD "web_way" 3 WayR := sp_mk (d := iweb_way) rfl fun n hn ds C P ex ⟨m, w, g, row, c, i, q, e, S, q1, q2, F, k⟩ => by subst e; exact way_ok (hby.mono (by omega)) hln hn S q1 q2 F k
  have ha : Sp tabD "_law_all_ways" 1 AllR := sp_mk (d := i_law_all_ways) rfl fun n hn ds C P ex ⟨m, w, g, row, c, e, S, q0, q1, q2, k⟩ => by subst e; exact all_ok S q0 q1 q2 k
  have hr : Sp tabD "_law_right" 4 RightR := sp_mk (d := i_law_right) rfl fun n hn ds C P ex ⟨m, w, g, row, c, q, e, S, q1, q2, F, k⟩ => by subst e; exact right_ok hwy ha hn S q1 q2 F k
  have hl' : Sp tabD "law" 6 fun ds C P => ∃ ns : List Int, ds = [.scr (ns.map .int)] ∧ ns.length ≤ 63 ∧ ∀ C', P (.bl true) C' := sp_mk (d := ilaw) rfl fun n hn ds C P ex ⟨ns, e, hl, k⟩ => by subst e; exact law_ok hk hd hw hy hr hn hl k
  exact hl' 12 (by omega) _ _ _ _ ⟨ns, rfl, hl, fun _ => rfl⟩
end M61.k49

set_option Elab.async false
set_option linter.all false
set_option autoImplicit false
set_option maxRecDepth 100000
open PySem PySem.W PyProof.Rows in
set_option maxRecDepth 100000 in
set_option maxHeartbeats 0 in
theorem PySem.Challenge.cw_bendtables_k49_least_ways_holds : PySem.Challenge.rw_bendtables_k49_least_ways.Holds := by
  w_on; o_law; k_head; (case hw => w_witness2)
  k_fill
  refine M61.walk_ofG (l := PySem.Challenge.rw_bendtables_k49_least_ways) (n := 63) (k := 12) (x := "_law_script") (CX := fun _ => L2.CX0) (sp := fun w => M61.spOf _ fun ds C Q => M61.Gm (M61.defsOf M61.k49.tab) 12 "law" ds C Q fun _ _ => False) rfl (by decide) rfl ⟨rfl, by decide, by decide⟩ (fun w h Y => PySem.W.kIn_of Y) ?F (fun _ H a ns hl _ hS => M61.start_of hS (M61.k49.law_lift (M61.k49.law_true ns hl))) (fun _ _ _ _ _ h => h)
  case F =>
    intro w mg fa h KX G hmg
    refine' M61.k49.law_mk KX G hmg (M61.k49.all_mk (w := w) KX G ?a0 ?l0 ?c0 ?k0 ?a1 ?l1 ?c1 ?k1 ?a2 ?l2 ?c2 ?k2 ?a3 ?l3 ?c3 ?k3 ?a4 ?l4 ?c4 ?k4 ?a5 ?l5 ?c5 ?k5 ?a6 ?l6 ?c6 ?k6 ?a7 ?l7 ?c7 ?k7 ?a8 ?l8 ?c8 ?k8 ?a9 ?l9 ?c9 ?k9 ?a10 ?l10 ?c10 ?k10 ?a11 ?l11 ?c11 ?k11 ?a12 ?l12 ?c12 ?k12 ?a13 ?l13 ?c13 ?k13 ?a14 ?l14 ?c14 ?k14 ?a15 ?l15 ?c15 ?k15 ?z0 ?z1 ?z2 ?z3 ?z4 ?z5 ?z6 ?z7 ?z8 ?z9 ?z10 ?z11 ?z12 ?z13 ?z14 ?z15 ?z16 ?z17 ?z18 ?z19) ?a15 ?l15 ?c15 ?k15
    (case a0 => k_is)
    (case l0 => k_is)
    (case c0 => k_is)
    (case k0 => k_is)
    (case a1 => k_is)
    (case l1 => k_is)
    (case c1 => k_is)
    (case k1 => k_is)
    (case a2 => k_is)
    (case l2 => k_is)
    (case c2 => k_is)
    (case k2 => k_is)
    (case a3 => k_is)
    (case l3 => k_is)
    (case c3 => k_is)
    (case k3 => k_is)
    (case a4 => k_is)
    (case l4 => k_is)
    (case c4 => k_is)
    (case k4 => k_is)
    (case a5 => k_is)
    (case l5 => k_is)
    (case c5 => k_is)
    (case k5 => k_is)
    (case a6 => k_is)
    (case l6 => k_is)
    (case c6 => k_is)
    (case k6 => k_is)
    (case a7 => k_is)
    (case l7 => k_is)
    (case c7 => k_is)
    (case k7 => k_is)
    (case a8 => k_is)
    (case l8 => k_is)
    (case c8 => k_is)
    (case k8 => k_is)
    (case a9 => k_is)
    (case l9 => k_is)
    (case c9 => k_is)
    (case k9 => k_is)
    (case a10 => k_is)
    (case l10 => k_is)
    (case c10 => k_is)
    (case k10 => k_is)
    (case a11 => k_is)
    (case l11 => k_is)
    (case c11 => k_is)
    (case k11 => k_is)
    (case a12 => k_is)
    (case l12 => k_is)
    (case c12 => k_is)
    (case k12 => k_is)
    (case a13 => k_is)
    (case l13 => k_is)
    (case c13 => k_is)
    (case k13 => k_is)
    (case a14 => k_is)
    (case l14 => k_is)
    (case c14 => k_is)
    (case k14 => k_is)
    (case a15 => k_is)
    (case l15 => k_is)
    (case c15 => k_is)
    (case k15 => k_is)
    (case z0 => k_is)
    (case z1 => k_is)
    (case z2 => k_is)
    (case z3 => k_is)
    (case z4 => k_is)
    (case z5 => k_is)
    (case z6 => k_is)
    (case z7 => k_is)
    (case z8 => k_is)
    (case z9 => k_is)
    (case z10 => k_is)
    (case z11 => k_is)
    (case z12 => k_is)
    (case z13 => k_is)
    (case z14 => k_is)
    (case z15 => k_is)
    (case z16 => k_is)
    (case z17 => k_is)
    (case z18 => k_is)
    (case z19 => k_is)

